import PyProof.Rows.All
import Wide.All
import OpenK.AllK
import Wide.FinOn
import PySem.Challenge.RW_pp0017_01
open PySem PySem.W PyProof.Rows PySem.Calls
set_option Elab.async false
set_option compiler.extract_closed false
set_option linter.unusedVariables false
set_option linter.unusedSimpArgs false
/- The 604 names below are those of the twins that open_top would lay beside each constant of the head. A name that is taken, it leaves out. The twins and the proofs that they equal their constants come to 150 MB compiled; with the names taken the head is proved without them, and nothing in this text speaks of them. -/
name_quick tw10027283763500547681 for PySem.W.S.findZ by PySem.W.S.findZ_eq
name_quick tw10035519957379413491 for PySem.W.S.findZ by PySem.W.S.findZ_eq
name_quick tw10071945439690739950 for PySem.W.S.findZ by PySem.W.S.findZ_eq
name_quick tw1008109092009901540 for PySem.W.S.findZ by PySem.W.S.findZ_eq
name_quick tw10088008993910148030 for PySem.W.S.findZ by PySem.W.S.findZ_eq
name_quick tw10110686229577091159 for PySem.W.S.findZ by PySem.W.S.findZ_eq
name_quick tw10128263221176416524 for PySem.W.S.findZ by PySem.W.S.findZ_eq
name_quick tw10130927136406747558 for PySem.W.S.findZ by PySem.W.S.findZ_eq
name_quick tw10192488164620847132 for PySem.W.S.findZ by PySem.W.S.findZ_eq
name_quick tw10440041934482307148 for PySem.W.S.findZ by PySem.W.S.findZ_eq
name_quick tw10450850786462755377 for PySem.W.S.findZ by PySem.W.S.findZ_eq
name_quick tw10485361328931911342 for PySem.W.S.findZ by PySem.W.S.findZ_eq
name_quick tw10488049710950273033 for PySem.W.S.findZ by PySem.W.S.findZ_eq
name_quick tw10505899742501719205 for PySem.W.S.findZ by PySem.W.S.findZ_eq
name_quick tw10514014680455566249 for PySem.W.S.findZ by PySem.W.S.findZ_eq
name_quick tw10529766406741123232 for PySem.W.S.findZ by PySem.W.S.findZ_eq
name_quick tw10562742724380103406 for PySem.W.S.findZ by PySem.W.S.findZ_eq
name_quick tw10705518328727991913 for PySem.W.S.findZ by PySem.W.S.findZ_eq
name_quick tw10729030089381538854 for PySem.W.S.findZ by PySem.W.S.findZ_eq
name_quick tw10739471503149421907 for PySem.W.S.findZ by PySem.W.S.findZ_eq
name_quick tw10739603849426976896 for PySem.W.S.findZ by PySem.W.S.findZ_eq
name_quick tw10765861672572116007 for PySem.W.S.findZ by PySem.W.S.findZ_eq
name_quick tw10770125403133043609 for PySem.W.S.findZ by PySem.W.S.findZ_eq
name_quick tw10777843785361671726 for PySem.W.S.findZ by PySem.W.S.findZ_eq
name_quick tw10778116197400023232 for PySem.W.S.findZ by PySem.W.S.findZ_eq
name_quick tw10796012454850739496 for PySem.W.S.findZ by PySem.W.S.findZ_eq
name_quick tw10797944714204783978 for PySem.W.S.findZ by PySem.W.S.findZ_eq
name_quick tw10824855324991791262 for PySem.W.S.findZ by PySem.W.S.findZ_eq
name_quick tw10897322677096709408 for PySem.W.S.findZ by PySem.W.S.findZ_eq
name_quick tw10905849275000778089 for PySem.W.S.findZ by PySem.W.S.findZ_eq
name_quick tw10927891638599974488 for PySem.W.S.findZ by PySem.W.S.findZ_eq
name_quick tw10930777427090682514 for PySem.W.S.findZ by PySem.W.S.findZ_eq
name_quick tw10967745824068814673 for PySem.W.S.findZ by PySem.W.S.findZ_eq
name_quick tw10979337325032471584 for PySem.W.S.findZ by PySem.W.S.findZ_eq
name_quick tw10989257142598955289 for PySem.W.S.findZ by PySem.W.S.findZ_eq
name_quick tw11011317527398374272 for PySem.W.S.findZ by PySem.W.S.findZ_eq
name_quick tw11012569027778301204 for PySem.W.S.findZ by PySem.W.S.findZ_eq
name_quick tw11032625491258650227 for PySem.W.S.findZ by PySem.W.S.findZ_eq
name_quick tw11034852298687706024 for PySem.W.S.findZ by PySem.W.S.findZ_eq
name_quick tw11048614988043112543 for PySem.W.S.findZ by PySem.W.S.findZ_eq
name_quick tw11056214823077307078 for PySem.W.S.findZ by PySem.W.S.findZ_eq
name_quick tw11091933629951683495 for PySem.W.S.findZ by PySem.W.S.findZ_eq
name_quick tw1110260890366553407 for PySem.W.S.findZ by PySem.W.S.findZ_eq
name_quick tw11108167480037028593 for PySem.W.S.findZ by PySem.W.S.findZ_eq
name_quick tw11118199198056953681 for PySem.W.S.findZ by PySem.W.S.findZ_eq
name_quick tw11145743756204278021 for PySem.W.S.findZ by PySem.W.S.findZ_eq
name_quick tw11167449166227297065 for PySem.W.S.findZ by PySem.W.S.findZ_eq
name_quick tw11203996727923250216 for PySem.W.S.findZ by PySem.W.S.findZ_eq
name_quick tw1125709278952874256 for PySem.W.S.findZ by PySem.W.S.findZ_eq
name_quick tw11268218768445446549 for PySem.W.S.findZ by PySem.W.S.findZ_eq
name_quick tw11299931630225430930 for PySem.W.S.findZ by PySem.W.S.findZ_eq
name_quick tw11348130519878301124 for PySem.W.S.findZ by PySem.W.S.findZ_eq
name_quick tw11372971524312198355 for PySem.W.S.findZ by PySem.W.S.findZ_eq
name_quick tw11389210771628433863 for PySem.W.S.findZ by PySem.W.S.findZ_eq
name_quick tw11400992904503445475 for PySem.W.S.findZ by PySem.W.S.findZ_eq
name_quick tw11417549284307303688 for PySem.W.S.findZ by PySem.W.S.findZ_eq
name_quick tw114288833501957646 for PySem.W.S.findZ by PySem.W.S.findZ_eq
name_quick tw11457863531238431078 for PySem.W.S.findZ by PySem.W.S.findZ_eq
name_quick tw11478756857091303546 for PySem.W.S.findZ by PySem.W.S.findZ_eq
name_quick tw11552225695332124271 for PySem.W.S.findZ by PySem.W.S.findZ_eq
name_quick tw11632847362676262924 for PySem.W.S.findZ by PySem.W.S.findZ_eq
name_quick tw11636091071026245731 for PySem.W.S.findZ by PySem.W.S.findZ_eq
name_quick tw11643276869690046962 for PySem.W.S.findZ by PySem.W.S.findZ_eq
name_quick tw11649331011798947489 for PySem.W.S.findZ by PySem.W.S.findZ_eq
name_quick tw11685712993622817121 for PySem.W.S.findZ by PySem.W.S.findZ_eq
name_quick tw11704541460352173629 for PySem.W.S.findZ by PySem.W.S.findZ_eq
name_quick tw11755275874706632923 for PySem.W.S.findZ by PySem.W.S.findZ_eq
name_quick tw11775363343743610574 for PySem.W.S.findZ by PySem.W.S.findZ_eq
name_quick tw11824133465965325827 for PySem.W.S.findZ by PySem.W.S.findZ_eq
name_quick tw11829184502361627135 for PySem.W.S.findZ by PySem.W.S.findZ_eq
name_quick tw11865323973352376466 for PySem.W.S.findZ by PySem.W.S.findZ_eq
name_quick tw1188988137668974908 for PySem.W.S.findZ by PySem.W.S.findZ_eq
name_quick tw11894381876245172270 for PySem.W.S.findZ by PySem.W.S.findZ_eq
name_quick tw11913208573388438040 for PySem.W.S.findZ by PySem.W.S.findZ_eq
name_quick tw11919836076082669336 for PySem.W.S.findZ by PySem.W.S.findZ_eq
name_quick tw11936636924183292276 for PySem.W.S.findZ by PySem.W.S.findZ_eq
name_quick tw12036163157070306605 for PySem.W.S.findZ by PySem.W.S.findZ_eq
name_quick tw12045112812543074521 for PySem.W.S.findZ by PySem.W.S.findZ_eq
name_quick tw12053627939506071065 for PySem.W.S.findZ by PySem.W.S.findZ_eq
name_quick tw12068514578019320423 for PySem.W.S.findZ by PySem.W.S.findZ_eq
name_quick tw12070549776397768425 for PySem.W.S.findZ by PySem.W.S.findZ_eq
name_quick tw12074273312692765335 for PySem.W.S.findZ by PySem.W.S.findZ_eq
name_quick tw12110282112974024566 for PySem.W.S.findZ by PySem.W.S.findZ_eq
name_quick tw12174268376996544449 for PySem.W.S.findZ by PySem.W.S.findZ_eq
name_quick tw12205563255822614302 for PySem.W.S.findZ by PySem.W.S.findZ_eq
name_quick tw12221027466273175145 for PySem.W.S.findZ by PySem.W.S.findZ_eq
name_quick tw1222643091730235919 for PySem.W.S.findZ by PySem.W.S.findZ_eq
name_quick tw12249002040406622523 for PySem.W.S.findZ by PySem.W.S.findZ_eq
name_quick tw12328287309497911365 for PySem.W.S.findZ by PySem.W.S.findZ_eq
name_quick tw12423580764611302481 for PySem.W.S.findZ by PySem.W.S.findZ_eq
name_quick tw12446030926439023472 for PySem.W.S.findZ by PySem.W.S.findZ_eq
name_quick tw12460432941706331018 for PySem.W.S.findZ by PySem.W.S.findZ_eq
name_quick tw12473728258670791871 for PySem.W.S.findZ by PySem.W.S.findZ_eq
name_quick tw12481945751063525664 for PySem.W.S.findZ by PySem.W.S.findZ_eq
name_quick tw12484075491804812327 for PySem.W.S.findZ by PySem.W.S.findZ_eq
name_quick tw1254763453363505031 for PySem.W.S.findZ by PySem.W.S.findZ_eq
name_quick tw12550326751699929081 for PySem.W.S.findZ by PySem.W.S.findZ_eq
name_quick tw12569975643655106822 for PySem.W.S.findZ by PySem.W.S.findZ_eq
name_quick tw12642503349050109066 for PySem.W.S.findZ by PySem.W.S.findZ_eq
name_quick tw1264812541608256101 for PySem.W.S.findZ by PySem.W.S.findZ_eq
name_quick tw12657421327924064696 for PySem.W.S.findZ by PySem.W.S.findZ_eq
name_quick tw12698471007259285522 for PySem.W.S.findZ by PySem.W.S.findZ_eq
name_quick tw12720023925981840464 for PySem.W.S.findZ by PySem.W.S.findZ_eq
name_quick tw12729468056831346503 for PySem.W.S.findZ by PySem.W.S.findZ_eq
name_quick tw1277308779572488069 for PySem.W.S.findZ by PySem.W.S.findZ_eq
name_quick tw12806926419527499713 for PySem.W.S.findZ by PySem.W.S.findZ_eq
name_quick tw12812708016926418761 for PySem.W.S.findZ by PySem.W.S.findZ_eq
name_quick tw12815822720811731151 for PySem.W.S.findZ by PySem.W.S.findZ_eq
name_quick tw1283717713511886458 for PySem.W.S.findZ by PySem.W.S.findZ_eq
name_quick tw12842519398883266614 for PySem.W.S.findZ by PySem.W.S.findZ_eq
name_quick tw12847480629470731182 for PySem.W.S.findZ by PySem.W.S.findZ_eq
name_quick tw12856089613448266833 for PySem.W.S.findZ by PySem.W.S.findZ_eq
name_quick tw1288079303737328760 for PySem.W.S.findZ by PySem.W.S.findZ_eq
name_quick tw12902642153578832946 for PySem.W.S.findZ by PySem.W.S.findZ_eq
name_quick tw12910302187488049220 for PySem.W.S.findZ by PySem.W.S.findZ_eq
name_quick tw12919468656346802892 for PySem.W.S.findZ by PySem.W.S.findZ_eq
name_quick tw1293400669252261336 for PySem.W.S.findZ by PySem.W.S.findZ_eq
name_quick tw12988691141541850308 for PySem.W.S.findZ by PySem.W.S.findZ_eq
name_quick tw13015852624562283947 for PySem.W.S.findZ by PySem.W.S.findZ_eq
name_quick tw1303430853661217282 for PySem.W.S.findZ by PySem.W.S.findZ_eq
name_quick tw13052153214001052898 for PySem.W.S.findZ by PySem.W.S.findZ_eq
name_quick tw13065424322206507237 for PySem.W.S.findZ by PySem.W.S.findZ_eq
name_quick tw13119197167522050099 for PySem.W.S.findZ by PySem.W.S.findZ_eq
name_quick tw13219065273664226768 for PySem.W.S.findZ by PySem.W.S.findZ_eq
name_quick tw13219100101745083820 for PySem.W.S.findZ by PySem.W.S.findZ_eq
name_quick tw13260914914464809248 for PySem.W.S.findZ by PySem.W.S.findZ_eq
name_quick tw13283651951153685720 for PySem.W.S.findZ by PySem.W.S.findZ_eq
name_quick tw13312694733563199791 for PySem.W.S.findZ by PySem.W.S.findZ_eq
name_quick tw13337230283411264798 for PySem.W.S.findZ by PySem.W.S.findZ_eq
name_quick tw13354602022096922450 for PySem.W.S.findZ by PySem.W.S.findZ_eq
name_quick tw13375377204487478105 for PySem.W.S.findZ by PySem.W.S.findZ_eq
name_quick tw13395002447376622556 for PySem.W.S.findZ by PySem.W.S.findZ_eq
name_quick tw13401899379749373484 for PySem.W.S.findZ by PySem.W.S.findZ_eq
name_quick tw13405857355501905558 for PySem.W.S.findZ by PySem.W.S.findZ_eq
name_quick tw13414666622879806288 for PySem.W.S.findZ by PySem.W.S.findZ_eq
name_quick tw1346881340493540466 for PySem.W.S.findZ by PySem.W.S.findZ_eq
name_quick tw13533027814054784306 for PySem.W.S.findZ by PySem.W.S.findZ_eq
name_quick tw13579943351511179815 for PySem.W.S.findZ by PySem.W.S.findZ_eq
name_quick tw13624086776860415884 for PySem.W.S.findZ by PySem.W.S.findZ_eq
name_quick tw13644243211904211014 for PySem.W.S.findZ by PySem.W.S.findZ_eq
name_quick tw13651920088084992085 for PySem.W.S.findZ by PySem.W.S.findZ_eq
name_quick tw13652084784813607494 for PySem.W.S.findZ by PySem.W.S.findZ_eq
name_quick tw13687933235551065605 for PySem.W.S.findZ by PySem.W.S.findZ_eq
name_quick tw13697765787320258064 for PySem.W.S.findZ by PySem.W.S.findZ_eq
name_quick tw13759475555032817354 for PySem.W.S.findZ by PySem.W.S.findZ_eq
name_quick tw1378501832195500606 for PySem.W.S.findZ by PySem.W.S.findZ_eq
name_quick tw13873369481103265656 for PySem.W.S.findZ by PySem.W.S.findZ_eq
name_quick tw13888326033932614939 for PySem.W.S.findZ by PySem.W.S.findZ_eq
name_quick tw1390774143069333433 for PySem.W.S.findZ by PySem.W.S.findZ_eq
name_quick tw13953392048390425271 for PySem.W.S.findZ by PySem.W.S.findZ_eq
name_quick tw13991938468354164801 for PySem.W.S.findZ by PySem.W.S.findZ_eq
name_quick tw13994452485764998946 for PySem.W.S.findZ by PySem.W.S.findZ_eq
name_quick tw14043158139103428366 for PySem.W.S.findZ by PySem.W.S.findZ_eq
name_quick tw1407777913162138387 for PySem.W.S.findZ by PySem.W.S.findZ_eq
name_quick tw14113058051431484466 for PySem.W.S.findZ by PySem.W.S.findZ_eq
name_quick tw14129650972056721732 for PySem.W.S.findZ by PySem.W.S.findZ_eq
name_quick tw1420587428593065574 for PySem.W.S.findZ by PySem.W.S.findZ_eq
name_quick tw14208717381797119720 for PySem.W.S.findZ by PySem.W.S.findZ_eq
name_quick tw14246410806050739580 for PySem.W.S.findZ by PySem.W.S.findZ_eq
name_quick tw1427342437494699131 for PySem.W.S.findZ by PySem.W.S.findZ_eq
name_quick tw1429191371624447957 for PySem.W.S.findZ by PySem.W.S.findZ_eq
name_quick tw14302920818257609229 for PySem.W.S.findZ by PySem.W.S.findZ_eq
name_quick tw14305594566131924341 for PySem.W.S.findZ by PySem.W.S.findZ_eq
name_quick tw14330602080940345749 for PySem.W.S.findZ by PySem.W.S.findZ_eq
name_quick tw14336186363015867867 for PySem.W.S.findZ by PySem.W.S.findZ_eq
name_quick tw14422502080474865660 for PySem.W.S.findZ by PySem.W.S.findZ_eq
name_quick tw14455893989785395688 for PySem.W.S.findZ by PySem.W.S.findZ_eq
name_quick tw14484533829468030068 for PySem.W.S.findZ by PySem.W.S.findZ_eq
name_quick tw1450664604921046480 for PySem.W.S.findZ by PySem.W.S.findZ_eq
name_quick tw14512886338672960434 for PySem.W.S.findZ by PySem.W.S.findZ_eq
name_quick tw14525457859879653571 for PySem.W.S.findZ by PySem.W.S.findZ_eq
name_quick tw14536653089172017422 for PySem.W.S.findZ by PySem.W.S.findZ_eq
name_quick tw14539198928019937860 for PySem.W.S.findZ by PySem.W.S.findZ_eq
name_quick tw14576421138344877340 for PySem.W.S.findZ by PySem.W.S.findZ_eq
name_quick tw14649498915497584596 for PySem.W.S.findZ by PySem.W.S.findZ_eq
name_quick tw14650866394335489545 for PySem.W.S.findZ by PySem.W.S.findZ_eq
name_quick tw14690161229942121559 for PySem.W.S.findZ by PySem.W.S.findZ_eq
name_quick tw14692150505099305736 for PySem.W.S.findZ by PySem.W.S.findZ_eq
name_quick tw14692633104436673235 for PySem.W.S.findZ by PySem.W.S.findZ_eq
name_quick tw14700374787751948619 for PySem.W.S.findZ by PySem.W.S.findZ_eq
name_quick tw14740244992905681532 for PySem.W.S.findZ by PySem.W.S.findZ_eq
name_quick tw14818638063403670187 for PySem.W.S.findZ by PySem.W.S.findZ_eq
name_quick tw1481943413083344857 for PySem.W.S.findZ by PySem.W.S.findZ_eq
name_quick tw14819793053897295846 for PySem.W.S.findZ by PySem.W.S.findZ_eq
name_quick tw14862452017154128115 for PySem.W.S.findZ by PySem.W.S.findZ_eq
name_quick tw14963857947273341503 for PySem.W.S.findZ by PySem.W.S.findZ_eq
name_quick tw14979120732805794415 for PySem.W.S.findZ by PySem.W.S.findZ_eq
name_quick tw15003533617997180393 for PySem.W.S.findZ by PySem.W.S.findZ_eq
name_quick tw15013515172319419511 for PySem.W.S.findZ by PySem.W.S.findZ_eq
name_quick tw15015684896865849321 for PySem.W.S.findZ by PySem.W.S.findZ_eq
name_quick tw15016800061023432685 for PySem.W.S.findZ by PySem.W.S.findZ_eq
name_quick tw15088768793520430132 for PySem.W.S.findZ by PySem.W.S.findZ_eq
name_quick tw15103451985851191086 for PySem.W.S.findZ by PySem.W.S.findZ_eq
name_quick tw1510576560708084970 for PySem.W.S.findZ by PySem.W.S.findZ_eq
name_quick tw15198792415414960565 for PySem.W.S.findZ by PySem.W.S.findZ_eq
name_quick tw15203518114652479585 for PySem.W.S.findZ by PySem.W.S.findZ_eq
name_quick tw1529426115890895788 for PySem.W.S.findZ by PySem.W.S.findZ_eq
name_quick tw1530123278122627644 for PySem.W.S.findZ by PySem.W.S.findZ_eq
name_quick tw15320549219250256425 for PySem.W.S.findZ by PySem.W.S.findZ_eq
name_quick tw15362885957560248664 for PySem.W.S.findZ by PySem.W.S.findZ_eq
name_quick tw15372841104528575650 for PySem.W.S.findZ by PySem.W.S.findZ_eq
name_quick tw15404578933264778261 for PySem.W.S.findZ by PySem.W.S.findZ_eq
name_quick tw15427624386600023430 for PySem.W.S.findZ by PySem.W.S.findZ_eq
name_quick tw15439291275218357753 for PySem.W.S.findZ by PySem.W.S.findZ_eq
name_quick tw15477702668158259758 for PySem.W.S.findZ by PySem.W.S.findZ_eq
name_quick tw15525761192741070766 for PySem.W.S.findZ by PySem.W.S.findZ_eq
name_quick tw15553452483072808024 for PySem.W.S.findZ by PySem.W.S.findZ_eq
name_quick tw15559840569968847738 for PySem.W.S.findZ by PySem.W.S.findZ_eq
name_quick tw15635988896519870649 for PySem.W.S.findZ by PySem.W.S.findZ_eq
name_quick tw15674510399021200722 for PySem.W.S.findZ by PySem.W.S.findZ_eq
name_quick tw15680968300120207897 for PySem.W.S.findZ by PySem.W.S.findZ_eq
name_quick tw15693719999153274751 for PySem.W.S.findZ by PySem.W.S.findZ_eq
name_quick tw15695964982624435627 for PySem.W.S.findZ by PySem.W.S.findZ_eq
name_quick tw1573240722994491682 for PySem.W.S.findZ by PySem.W.S.findZ_eq
name_quick tw15737109416350695534 for PySem.W.S.findZ by PySem.W.S.findZ_eq
name_quick tw15756110752990090001 for PySem.W.S.findZ by PySem.W.S.findZ_eq
name_quick tw15775824023957476894 for PySem.W.S.findZ by PySem.W.S.findZ_eq
name_quick tw15781701621309792836 for PySem.W.S.findZ by PySem.W.S.findZ_eq
name_quick tw15798368359465162939 for PySem.W.S.findZ by PySem.W.S.findZ_eq
name_quick tw15800061466351634357 for PySem.W.S.findZ by PySem.W.S.findZ_eq
name_quick tw15838251900347552371 for PySem.W.S.findZ by PySem.W.S.findZ_eq
name_quick tw15871291970692085383 for PySem.W.S.findZ by PySem.W.S.findZ_eq
name_quick tw15890775902706128972 for PySem.W.S.findZ by PySem.W.S.findZ_eq
name_quick tw15895605835953592556 for PySem.W.S.findZ by PySem.W.S.findZ_eq
name_quick tw15975159354747392306 for PySem.W.S.findZ by PySem.W.S.findZ_eq
name_quick tw15996180702066009854 for PySem.W.S.findZ by PySem.W.S.findZ_eq
name_quick tw16018064085065562582 for PySem.W.S.findZ by PySem.W.S.findZ_eq
name_quick tw16036283891919247309 for PySem.W.S.findZ by PySem.W.S.findZ_eq
name_quick tw16036355675911731225 for PySem.W.S.findZ by PySem.W.S.findZ_eq
name_quick tw1608498803527599748 for PySem.W.S.findZ by PySem.W.S.findZ_eq
name_quick tw16086237050858130084 for PySem.W.S.findZ by PySem.W.S.findZ_eq
name_quick tw16088256317472964765 for PySem.W.S.findZ by PySem.W.S.findZ_eq
name_quick tw16128305574923773998 for PySem.W.S.findZ by PySem.W.S.findZ_eq
name_quick tw16169801565529596395 for PySem.W.S.findZ by PySem.W.S.findZ_eq
name_quick tw161872942895395855 for PySem.W.S.findZ by PySem.W.S.findZ_eq
name_quick tw16188768298330013997 for PySem.W.S.findZ by PySem.W.S.findZ_eq
name_quick tw16191301171815301491 for PySem.W.S.findZ by PySem.W.S.findZ_eq
name_quick tw16192216776229695817 for PySem.W.S.findZ by PySem.W.S.findZ_eq
name_quick tw16269204132145978578 for PySem.W.S.findZ by PySem.W.S.findZ_eq
name_quick tw16323779384471570941 for PySem.W.S.findZ by PySem.W.S.findZ_eq
name_quick tw16332894558286342666 for PySem.W.S.findZ by PySem.W.S.findZ_eq
name_quick tw16341539999144021244 for PySem.W.S.findZ by PySem.W.S.findZ_eq
name_quick tw16417414304733367168 for PySem.W.S.findZ by PySem.W.S.findZ_eq
name_quick tw16418655559689164315 for PySem.W.S.findZ by PySem.W.S.findZ_eq
name_quick tw1653611938877873295 for PySem.W.S.findZ by PySem.W.S.findZ_eq
name_quick tw16544862997125475887 for PySem.W.S.findZ by PySem.W.S.findZ_eq
name_quick tw16548292307027261098 for PySem.W.S.findZ by PySem.W.S.findZ_eq
name_quick tw16560946485091916634 for PySem.W.S.findZ by PySem.W.S.findZ_eq
name_quick tw16604261199341489196 for PySem.W.S.findZ by PySem.W.S.findZ_eq
name_quick tw166478682990236386 for PySem.W.S.findZ by PySem.W.S.findZ_eq
name_quick tw16677264000725485639 for PySem.W.S.findZ by PySem.W.S.findZ_eq
name_quick tw1669917507165134011 for PySem.W.S.findZ by PySem.W.S.findZ_eq
name_quick tw16699224123072113775 for PySem.W.S.findZ by PySem.W.S.findZ_eq
name_quick tw16709011795967756973 for PySem.W.S.findZ by PySem.W.S.findZ_eq
name_quick tw16729918179107554489 for PySem.W.S.findZ by PySem.W.S.findZ_eq
name_quick tw16816902088582221304 for PySem.W.S.findZ by PySem.W.S.findZ_eq
name_quick tw16826047325253751945 for PySem.W.S.findZ by PySem.W.S.findZ_eq
name_quick tw16889766410699299979 for PySem.W.S.findZ by PySem.W.S.findZ_eq
name_quick tw16892648525056892545 for PySem.W.S.findZ by PySem.W.S.findZ_eq
name_quick tw16909533297478857634 for PySem.W.S.findZ by PySem.W.S.findZ_eq
name_quick tw16939332434877504876 for PySem.W.S.findZ by PySem.W.S.findZ_eq
name_quick tw16974726461945342280 for PySem.W.S.findZ by PySem.W.S.findZ_eq
name_quick tw17001344503515848909 for PySem.W.S.findZ by PySem.W.S.findZ_eq
name_quick tw17003292974920359767 for PySem.W.S.findZ by PySem.W.S.findZ_eq
name_quick tw17033509527190025651 for PySem.W.S.findZ by PySem.W.S.findZ_eq
name_quick tw1704416572073787611 for PySem.W.S.findZ by PySem.W.S.findZ_eq
name_quick tw17056954916375140904 for PySem.W.S.findZ by PySem.W.S.findZ_eq
name_quick tw1708243331024060793 for PySem.W.S.findZ by PySem.W.S.findZ_eq
name_quick tw17131441193038235028 for PySem.W.S.findZ by PySem.W.S.findZ_eq
name_quick tw17148842149139304132 for PySem.W.S.findZ by PySem.W.S.findZ_eq
name_quick tw17152361094044385371 for PySem.W.S.findZ by PySem.W.S.findZ_eq
name_quick tw17175800440536476387 for PySem.W.S.findZ by PySem.W.S.findZ_eq
name_quick tw17187823107665538963 for PySem.W.S.findZ by PySem.W.S.findZ_eq
name_quick tw17274358774105936912 for PySem.W.S.findZ by PySem.W.S.findZ_eq
name_quick tw17274449181598783038 for PySem.W.S.findZ by PySem.W.S.findZ_eq
name_quick tw17369927119569001037 for PySem.W.S.findZ by PySem.W.S.findZ_eq
name_quick tw17374792593955850956 for PySem.W.S.findZ by PySem.W.S.findZ_eq
name_quick tw1737703009129356249 for PySem.W.S.findZ by PySem.W.S.findZ_eq
name_quick tw17400948383967190974 for PySem.W.S.findZ by PySem.W.S.findZ_eq
name_quick tw17424942924514700228 for PySem.W.S.findZ by PySem.W.S.findZ_eq
name_quick tw17479977007838215309 for PySem.W.S.findZ by PySem.W.S.findZ_eq
name_quick tw1751166925558552917 for PySem.W.S.findZ by PySem.W.S.findZ_eq
name_quick tw17590994298969239623 for PySem.W.S.findZ by PySem.W.S.findZ_eq
name_quick tw17626197934784361746 for PySem.W.S.findZ by PySem.W.S.findZ_eq
name_quick tw17628762713563905259 for PySem.W.S.findZ by PySem.W.S.findZ_eq
name_quick tw17663941002034068747 for PySem.W.S.findZ by PySem.W.S.findZ_eq
name_quick tw17740021399035800906 for PySem.W.S.findZ by PySem.W.S.findZ_eq
name_quick tw17765568420609844679 for PySem.W.S.findZ by PySem.W.S.findZ_eq
name_quick tw17799795453383942597 for PySem.W.S.findZ by PySem.W.S.findZ_eq
name_quick tw17830334879654136755 for PySem.W.S.findZ by PySem.W.S.findZ_eq
name_quick tw17874665824580003188 for PySem.W.S.findZ by PySem.W.S.findZ_eq
name_quick tw17927644517572161502 for PySem.W.S.findZ by PySem.W.S.findZ_eq
name_quick tw17951672921925319187 for PySem.W.S.findZ by PySem.W.S.findZ_eq
name_quick tw17955386320233023507 for PySem.W.S.findZ by PySem.W.S.findZ_eq
name_quick tw17964149302230484429 for PySem.W.S.findZ by PySem.W.S.findZ_eq
name_quick tw17974598782079222649 for PySem.W.S.findZ by PySem.W.S.findZ_eq
name_quick tw17983257536184785576 for PySem.W.S.findZ by PySem.W.S.findZ_eq
name_quick tw17991568908045257771 for PySem.W.S.findZ by PySem.W.S.findZ_eq
name_quick tw18012513229183483405 for PySem.W.S.findZ by PySem.W.S.findZ_eq
name_quick tw18117799239686901481 for PySem.W.S.findZ by PySem.W.S.findZ_eq
name_quick tw18152317820509288855 for PySem.W.S.findZ by PySem.W.S.findZ_eq
name_quick tw18196260858315209703 for PySem.W.S.findZ by PySem.W.S.findZ_eq
name_quick tw18203696935906689694 for PySem.W.S.findZ by PySem.W.S.findZ_eq
name_quick tw18217765798087951407 for PySem.W.S.findZ by PySem.W.S.findZ_eq
name_quick tw18219729807763935567 for PySem.W.S.findZ by PySem.W.S.findZ_eq
name_quick tw18237447739291192106 for PySem.W.S.findZ by PySem.W.S.findZ_eq
name_quick tw18274914081465462118 for PySem.W.S.findZ by PySem.W.S.findZ_eq
name_quick tw18283859031198384861 for PySem.W.S.findZ by PySem.W.S.findZ_eq
name_quick tw18290708041361110335 for PySem.W.S.findZ by PySem.W.S.findZ_eq
name_quick tw18292776907938382014 for PySem.W.S.findZ by PySem.W.S.findZ_eq
name_quick tw18310926629334871730 for PySem.W.S.findZ by PySem.W.S.findZ_eq
name_quick tw18321210156818640051 for PySem.W.S.findZ by PySem.W.S.findZ_eq
name_quick tw18327597968815382141 for PySem.W.S.findZ by PySem.W.S.findZ_eq
name_quick tw18333419396348966029 for PySem.W.S.findZ by PySem.W.S.findZ_eq
name_quick tw18372439421413008158 for PySem.W.S.findZ by PySem.W.S.findZ_eq
name_quick tw1837842435108689027 for PySem.W.S.findZ by PySem.W.S.findZ_eq
name_quick tw18388754092563598322 for PySem.W.S.findZ by PySem.W.S.findZ_eq
name_quick tw18393878335503223041 for PySem.W.S.findZ by PySem.W.S.findZ_eq
name_quick tw18412817633793353648 for PySem.W.S.findZ by PySem.W.S.findZ_eq
name_quick tw18422977522892966586 for PySem.W.S.findZ by PySem.W.S.findZ_eq
name_quick tw18428642569156838589 for PySem.W.S.findZ by PySem.W.S.findZ_eq
name_quick tw1877514684729513986 for PySem.W.S.findZ by PySem.W.S.findZ_eq
name_quick tw1879615769770095601 for PySem.W.S.findZ by PySem.W.S.findZ_eq
name_quick tw189592707807693084 for PySem.W.S.findZ by PySem.W.S.findZ_eq
name_quick tw1903279159608735782 for PySem.W.S.findZ by PySem.W.S.findZ_eq
name_quick tw1957093796713678634 for PySem.W.S.findZ by PySem.W.S.findZ_eq
name_quick tw19735022015650564 for PySem.W.S.findZ by PySem.W.S.findZ_eq
name_quick tw1976106173162530380 for PySem.W.S.findZ by PySem.W.S.findZ_eq
name_quick tw1993781998679341863 for PySem.W.S.findZ by PySem.W.S.findZ_eq
name_quick tw1993881531699002572 for PySem.W.S.findZ by PySem.W.S.findZ_eq
name_quick tw202406247684689108 for PySem.W.S.findZ by PySem.W.S.findZ_eq
name_quick tw2058395715485016556 for PySem.W.S.findZ by PySem.W.S.findZ_eq
name_quick tw2094205097924739413 for PySem.W.S.findZ by PySem.W.S.findZ_eq
name_quick tw2117195050335092527 for PySem.W.S.findZ by PySem.W.S.findZ_eq
name_quick tw2138732413894572761 for PySem.W.S.findZ by PySem.W.S.findZ_eq
name_quick tw214423444070323899 for PySem.W.S.findZ by PySem.W.S.findZ_eq
name_quick tw2162371638582578708 for PySem.W.S.findZ by PySem.W.S.findZ_eq
name_quick tw2168450633601946764 for PySem.W.S.findZ by PySem.W.S.findZ_eq
name_quick tw217258271517296757 for PySem.W.S.findZ by PySem.W.S.findZ_eq
name_quick tw2174161851298882160 for PySem.W.S.findZ by PySem.W.S.findZ_eq
name_quick tw2185312719280951224 for PySem.W.S.findZ by PySem.W.S.findZ_eq
name_quick tw2200730503233435880 for PySem.W.S.findZ by PySem.W.S.findZ_eq
name_quick tw2210478770914187501 for PySem.W.S.findZ by PySem.W.S.findZ_eq
name_quick tw2221844975730854038 for PySem.W.S.findZ by PySem.W.S.findZ_eq
name_quick tw2247265025512478102 for PySem.W.S.findZ by PySem.W.S.findZ_eq
name_quick tw2253409480973573294 for PySem.W.S.findZ by PySem.W.S.findZ_eq
name_quick tw2265985150322179429 for PySem.W.S.findZ by PySem.W.S.findZ_eq
name_quick tw2292684818992383558 for PySem.W.S.findZ by PySem.W.S.findZ_eq
name_quick tw2309503327941615754 for PySem.W.S.findZ by PySem.W.S.findZ_eq
name_quick tw2325187339420547660 for PySem.W.S.findZ by PySem.W.S.findZ_eq
name_quick tw2366143623851510298 for PySem.W.S.findZ by PySem.W.S.findZ_eq
name_quick tw2392972147726177995 for PySem.W.S.findZ by PySem.W.S.findZ_eq
name_quick tw2426786922422166633 for PySem.W.S.findZ by PySem.W.S.findZ_eq
name_quick tw243151297206693100 for PySem.W.S.findZ by PySem.W.S.findZ_eq
name_quick tw2454950089372081690 for PySem.W.S.findZ by PySem.W.S.findZ_eq
name_quick tw2574499588587674773 for PySem.W.S.findZ by PySem.W.S.findZ_eq
name_quick tw2598343897791413835 for PySem.W.S.findZ by PySem.W.S.findZ_eq
name_quick tw2639479554166161367 for PySem.W.S.findZ by PySem.W.S.findZ_eq
name_quick tw2649752924203659178 for PySem.W.S.findZ by PySem.W.S.findZ_eq
name_quick tw2659348413770113217 for PySem.W.S.findZ by PySem.W.S.findZ_eq
name_quick tw2679833889816600805 for PySem.W.S.findZ by PySem.W.S.findZ_eq
name_quick tw2703495253494216824 for PySem.W.S.findZ by PySem.W.S.findZ_eq
name_quick tw2744490271888831758 for PySem.W.S.findZ by PySem.W.S.findZ_eq
name_quick tw2785217763227593265 for PySem.W.S.findZ by PySem.W.S.findZ_eq
name_quick tw2797441933774018048 for PySem.W.S.findZ by PySem.W.S.findZ_eq
name_quick tw2906398105994940705 for PySem.W.S.findZ by PySem.W.S.findZ_eq
name_quick tw2923914503642087071 for PySem.W.S.findZ by PySem.W.S.findZ_eq
name_quick tw3054834739526091649 for PySem.W.S.findZ by PySem.W.S.findZ_eq
name_quick tw314544140300407978 for PySem.W.S.findZ by PySem.W.S.findZ_eq
name_quick tw3211376382658948838 for PySem.W.S.findZ by PySem.W.S.findZ_eq
name_quick tw3214472977224344708 for PySem.W.S.findZ by PySem.W.S.findZ_eq
name_quick tw3219660819907434306 for PySem.W.S.findZ by PySem.W.S.findZ_eq
name_quick tw3228777539740597526 for PySem.W.S.findZ by PySem.W.S.findZ_eq
name_quick tw3368065094922448006 for PySem.W.S.findZ by PySem.W.S.findZ_eq
name_quick tw3375052641843740504 for PySem.W.S.findZ by PySem.W.S.findZ_eq
name_quick tw3386514684873119662 for PySem.W.S.findZ by PySem.W.S.findZ_eq
name_quick tw3415794296933458965 for PySem.W.S.findZ by PySem.W.S.findZ_eq
name_quick tw3521679349091913204 for PySem.W.S.findZ by PySem.W.S.findZ_eq
name_quick tw3541727244685802691 for PySem.W.S.findZ by PySem.W.S.findZ_eq
name_quick tw3542112859567761372 for PySem.W.S.findZ by PySem.W.S.findZ_eq
name_quick tw3573218989442207436 for PySem.W.S.findZ by PySem.W.S.findZ_eq
name_quick tw3591543507217503900 for PySem.W.S.findZ by PySem.W.S.findZ_eq
name_quick tw3627868924472358483 for PySem.W.S.findZ by PySem.W.S.findZ_eq
name_quick tw3632757055718404916 for PySem.W.S.findZ by PySem.W.S.findZ_eq
name_quick tw3717192861028684071 for PySem.W.S.findZ by PySem.W.S.findZ_eq
name_quick tw3725160278046457321 for PySem.W.S.findZ by PySem.W.S.findZ_eq
name_quick tw3808326472940198115 for PySem.W.S.findZ by PySem.W.S.findZ_eq
name_quick tw3816813420396894177 for PySem.W.S.findZ by PySem.W.S.findZ_eq
name_quick tw3864228965913830141 for PySem.W.S.findZ by PySem.W.S.findZ_eq
name_quick tw3945824947071448987 for PySem.W.S.findZ by PySem.W.S.findZ_eq
name_quick tw3997485171985668109 for PySem.W.S.findZ by PySem.W.S.findZ_eq
name_quick tw4007235216159149016 for PySem.W.S.findZ by PySem.W.S.findZ_eq
name_quick tw4027877867139844140 for PySem.W.S.findZ by PySem.W.S.findZ_eq
name_quick tw409636150704870242 for PySem.W.S.findZ by PySem.W.S.findZ_eq
name_quick tw413467327181130625 for PySem.W.S.findZ by PySem.W.S.findZ_eq
name_quick tw4149899970675562489 for PySem.W.S.findZ by PySem.W.S.findZ_eq
name_quick tw4224468710476854973 for PySem.W.S.findZ by PySem.W.S.findZ_eq
name_quick tw4233870092810182869 for PySem.W.S.findZ by PySem.W.S.findZ_eq
name_quick tw4246494836179540768 for PySem.W.S.findZ by PySem.W.S.findZ_eq
name_quick tw426734185165432893 for PySem.W.S.findZ by PySem.W.S.findZ_eq
name_quick tw4308469221537945241 for PySem.W.S.findZ by PySem.W.S.findZ_eq
name_quick tw4311066112205741620 for PySem.W.S.findZ by PySem.W.S.findZ_eq
name_quick tw4359366714234587298 for PySem.W.S.findZ by PySem.W.S.findZ_eq
name_quick tw4370194380114934551 for PySem.W.S.findZ by PySem.W.S.findZ_eq
name_quick tw4380459136155518048 for PySem.W.S.findZ by PySem.W.S.findZ_eq
name_quick tw4388918688570171384 for PySem.W.S.findZ by PySem.W.S.findZ_eq
name_quick tw444184016753951897 for PySem.W.S.findZ by PySem.W.S.findZ_eq
name_quick tw4458382861564578871 for PySem.W.S.findZ by PySem.W.S.findZ_eq
name_quick tw4510309793880252884 for PySem.W.S.findZ by PySem.W.S.findZ_eq
name_quick tw4522162061775787074 for PySem.W.S.findZ by PySem.W.S.findZ_eq
name_quick tw4550771296063203815 for PySem.W.S.findZ by PySem.W.S.findZ_eq
name_quick tw4569100825216643176 for PySem.W.S.findZ by PySem.W.S.findZ_eq
name_quick tw4648088996908593903 for PySem.W.S.findZ by PySem.W.S.findZ_eq
name_quick tw4685279483267400035 for PySem.W.S.findZ by PySem.W.S.findZ_eq
name_quick tw4690671566526666273 for PySem.W.S.findZ by PySem.W.S.findZ_eq
name_quick tw4690735485896992818 for PySem.W.S.findZ by PySem.W.S.findZ_eq
name_quick tw46916973862178988 for PySem.W.S.findZ by PySem.W.S.findZ_eq
name_quick tw4695155082477884504 for PySem.W.S.findZ by PySem.W.S.findZ_eq
name_quick tw472235778862753896 for PySem.W.S.findZ by PySem.W.S.findZ_eq
name_quick tw4739074865610866654 for PySem.W.S.findZ by PySem.W.S.findZ_eq
name_quick tw4745960554657068862 for PySem.W.S.findZ by PySem.W.S.findZ_eq
name_quick tw4851532939023154422 for PySem.W.S.findZ by PySem.W.S.findZ_eq
name_quick tw486018312287563629 for PySem.W.S.findZ by PySem.W.S.findZ_eq
name_quick tw4905777391386619035 for PySem.W.S.findZ by PySem.W.S.findZ_eq
name_quick tw492509759291170049 for PySem.W.S.findZ by PySem.W.S.findZ_eq
name_quick tw4927606742634902378 for PySem.W.S.findZ by PySem.W.S.findZ_eq
name_quick tw4934289772344945054 for PySem.W.S.findZ by PySem.W.S.findZ_eq
name_quick tw4936259992672533289 for PySem.W.S.findZ by PySem.W.S.findZ_eq
name_quick tw4937472690758352183 for PySem.W.S.findZ by PySem.W.S.findZ_eq
name_quick tw4952762428066398453 for PySem.W.S.findZ by PySem.W.S.findZ_eq
name_quick tw4970658626838376503 for PySem.W.S.findZ by PySem.W.S.findZ_eq
name_quick tw5075328348286002945 for PySem.W.S.findZ by PySem.W.S.findZ_eq
name_quick tw5093864139026768231 for PySem.W.S.findZ by PySem.W.S.findZ_eq
name_quick tw509482533805510936 for PySem.W.S.findZ by PySem.W.S.findZ_eq
name_quick tw5097628696454615644 for PySem.W.S.findZ by PySem.W.S.findZ_eq
name_quick tw5109304082862443687 for PySem.W.S.findZ by PySem.W.S.findZ_eq
name_quick tw5125057305237198608 for PySem.W.S.findZ by PySem.W.S.findZ_eq
name_quick tw5152686813602787807 for PySem.W.S.findZ by PySem.W.S.findZ_eq
name_quick tw5162797598232716627 for PySem.W.S.findZ by PySem.W.S.findZ_eq
name_quick tw5190552019876578273 for PySem.W.S.findZ by PySem.W.S.findZ_eq
name_quick tw5207637738701311565 for PySem.W.S.findZ by PySem.W.S.findZ_eq
name_quick tw5222398709414106271 for PySem.W.S.findZ by PySem.W.S.findZ_eq
name_quick tw5228289497382000759 for PySem.W.S.findZ by PySem.W.S.findZ_eq
name_quick tw5230841703414984743 for PySem.W.S.findZ by PySem.W.S.findZ_eq
name_quick tw5265585648800566199 for PySem.W.S.findZ by PySem.W.S.findZ_eq
name_quick tw5273562950287797771 for PySem.W.S.findZ by PySem.W.S.findZ_eq
name_quick tw5278620920162665015 for PySem.W.S.findZ by PySem.W.S.findZ_eq
name_quick tw5297199420682613091 for PySem.W.S.findZ by PySem.W.S.findZ_eq
name_quick tw53013287136617882 for PySem.W.S.findZ by PySem.W.S.findZ_eq
name_quick tw5332913990891062628 for PySem.W.S.findZ by PySem.W.S.findZ_eq
name_quick tw5349444611073508994 for PySem.W.S.findZ by PySem.W.S.findZ_eq
name_quick tw5476553020148312338 for PySem.W.S.findZ by PySem.W.S.findZ_eq
name_quick tw5486858506658474002 for PySem.W.S.findZ by PySem.W.S.findZ_eq
name_quick tw5520928261513566353 for PySem.W.S.findZ by PySem.W.S.findZ_eq
name_quick tw5598231424497759723 for PySem.W.S.findZ by PySem.W.S.findZ_eq
name_quick tw5608985731836967902 for PySem.W.S.findZ by PySem.W.S.findZ_eq
name_quick tw5616935017374565217 for PySem.W.S.findZ by PySem.W.S.findZ_eq
name_quick tw5629733500462113599 for PySem.W.S.findZ by PySem.W.S.findZ_eq
name_quick tw5676602609719731080 for PySem.W.S.findZ by PySem.W.S.findZ_eq
name_quick tw5686443849597088684 for PySem.W.S.findZ by PySem.W.S.findZ_eq
name_quick tw5761779257288567936 for PySem.W.S.findZ by PySem.W.S.findZ_eq
name_quick tw5784492080592931286 for PySem.W.S.findZ by PySem.W.S.findZ_eq
name_quick tw5809184695940191199 for PySem.W.S.findZ by PySem.W.S.findZ_eq
name_quick tw5828446347407244422 for PySem.W.S.findZ by PySem.W.S.findZ_eq
name_quick tw585189316175903690 for PySem.W.S.findZ by PySem.W.S.findZ_eq
name_quick tw5964582547460372544 for PySem.W.S.findZ by PySem.W.S.findZ_eq
name_quick tw5967548353070335567 for PySem.W.S.findZ by PySem.W.S.findZ_eq
name_quick tw6018784162420004412 for PySem.W.S.findZ by PySem.W.S.findZ_eq
name_quick tw6022717824989193165 for PySem.W.S.findZ by PySem.W.S.findZ_eq
name_quick tw6062484252504684206 for PySem.W.S.findZ by PySem.W.S.findZ_eq
name_quick tw6112057998999603137 for PySem.W.S.findZ by PySem.W.S.findZ_eq
name_quick tw6141194957090958583 for PySem.W.S.findZ by PySem.W.S.findZ_eq
name_quick tw6181324962821216976 for PySem.W.S.findZ by PySem.W.S.findZ_eq
name_quick tw6229244617249164120 for PySem.W.S.findZ by PySem.W.S.findZ_eq
name_quick tw6255218925319308411 for PySem.W.S.findZ by PySem.W.S.findZ_eq
name_quick tw6287079104424322504 for PySem.W.S.findZ by PySem.W.S.findZ_eq
name_quick tw6299648998368352842 for PySem.W.S.findZ by PySem.W.S.findZ_eq
name_quick tw6313755351284888515 for PySem.W.S.findZ by PySem.W.S.findZ_eq
name_quick tw6355357643279807576 for PySem.W.S.findZ by PySem.W.S.findZ_eq
name_quick tw6413228724699309528 for PySem.W.S.findZ by PySem.W.S.findZ_eq
name_quick tw6466189473348711539 for PySem.W.S.findZ by PySem.W.S.findZ_eq
name_quick tw6519006531587801967 for PySem.W.S.findZ by PySem.W.S.findZ_eq
name_quick tw6525516583044670598 for PySem.W.S.findZ by PySem.W.S.findZ_eq
name_quick tw6567703754405149943 for PySem.W.S.findZ by PySem.W.S.findZ_eq
name_quick tw6584693562045855019 for PySem.W.S.findZ by PySem.W.S.findZ_eq
name_quick tw6586719537240883937 for PySem.W.S.findZ by PySem.W.S.findZ_eq
name_quick tw6616154147688744444 for PySem.W.S.findZ by PySem.W.S.findZ_eq
name_quick tw6635050024208941729 for PySem.W.S.findZ by PySem.W.S.findZ_eq
name_quick tw6655547686047802719 for PySem.W.S.findZ by PySem.W.S.findZ_eq
name_quick tw6674311260162290818 for PySem.W.S.findZ by PySem.W.S.findZ_eq
name_quick tw6709507461365824540 for PySem.W.S.findZ by PySem.W.S.findZ_eq
name_quick tw6781335054911492003 for PySem.W.S.findZ by PySem.W.S.findZ_eq
name_quick tw6783885802443579336 for PySem.W.S.findZ by PySem.W.S.findZ_eq
name_quick tw6785320924359086978 for PySem.W.S.findZ by PySem.W.S.findZ_eq
name_quick tw6793051748997217008 for PySem.W.S.findZ by PySem.W.S.findZ_eq
name_quick tw679673844098913275 for PySem.W.S.findZ by PySem.W.S.findZ_eq
name_quick tw6808020960491281530 for PySem.W.S.findZ by PySem.W.S.findZ_eq
name_quick tw6808351685346241600 for PySem.W.S.findZ by PySem.W.S.findZ_eq
name_quick tw6821450714507315580 for PySem.W.S.findZ by PySem.W.S.findZ_eq
name_quick tw6842208099495020840 for PySem.W.S.findZ by PySem.W.S.findZ_eq
name_quick tw6846856765763503582 for PySem.W.S.findZ by PySem.W.S.findZ_eq
name_quick tw6865924036772776525 for PySem.W.S.findZ by PySem.W.S.findZ_eq
name_quick tw6927408573631179120 for PySem.W.S.findZ by PySem.W.S.findZ_eq
name_quick tw6944048515862057408 for PySem.W.S.findZ by PySem.W.S.findZ_eq
name_quick tw6974348558633252317 for PySem.W.S.findZ by PySem.W.S.findZ_eq
name_quick tw7011117942811920038 for PySem.W.S.findZ by PySem.W.S.findZ_eq
name_quick tw7034360531604879098 for PySem.W.S.findZ by PySem.W.S.findZ_eq
name_quick tw7121710318869813717 for PySem.W.S.findZ by PySem.W.S.findZ_eq
name_quick tw7123249892071109434 for PySem.W.S.findZ by PySem.W.S.findZ_eq
name_quick tw7130271830772358093 for PySem.W.S.findZ by PySem.W.S.findZ_eq
name_quick tw7198712771802281445 for PySem.W.S.findZ by PySem.W.S.findZ_eq
name_quick tw7211407276923549975 for PySem.W.S.findZ by PySem.W.S.findZ_eq
name_quick tw7212704603388107876 for PySem.W.S.findZ by PySem.W.S.findZ_eq
name_quick tw7270736655454078174 for PySem.W.S.findZ by PySem.W.S.findZ_eq
name_quick tw7279822929430248564 for PySem.W.S.findZ by PySem.W.S.findZ_eq
name_quick tw7286241349319638361 for PySem.W.S.findZ by PySem.W.S.findZ_eq
name_quick tw7305791558991269228 for PySem.W.S.findZ by PySem.W.S.findZ_eq
name_quick tw7324293881455899596 for PySem.W.S.findZ by PySem.W.S.findZ_eq
name_quick tw7433184397013657072 for PySem.W.S.findZ by PySem.W.S.findZ_eq
name_quick tw7515585028739687200 for PySem.W.S.findZ by PySem.W.S.findZ_eq
name_quick tw7610509106811615981 for PySem.W.S.findZ by PySem.W.S.findZ_eq
name_quick tw7692502284856747000 for PySem.W.S.findZ by PySem.W.S.findZ_eq
name_quick tw7760856828891844197 for PySem.W.S.findZ by PySem.W.S.findZ_eq
name_quick tw7767119060054337079 for PySem.W.S.findZ by PySem.W.S.findZ_eq
name_quick tw7770439566671275057 for PySem.W.S.findZ by PySem.W.S.findZ_eq
name_quick tw7787768435932022320 for PySem.W.S.findZ by PySem.W.S.findZ_eq
name_quick tw7791197196436793980 for PySem.W.S.findZ by PySem.W.S.findZ_eq
name_quick tw7818984567447126217 for PySem.W.S.findZ by PySem.W.S.findZ_eq
name_quick tw7867159579155630180 for PySem.W.S.findZ by PySem.W.S.findZ_eq
name_quick tw7871413396361979341 for PySem.W.S.findZ by PySem.W.S.findZ_eq
name_quick tw787797274194851332 for PySem.W.S.findZ by PySem.W.S.findZ_eq
name_quick tw7910841249855942717 for PySem.W.S.findZ by PySem.W.S.findZ_eq
name_quick tw7969508834946289879 for PySem.W.S.findZ by PySem.W.S.findZ_eq
name_quick tw8032888155822664417 for PySem.W.S.findZ by PySem.W.S.findZ_eq
name_quick tw8048408242354651108 for PySem.W.S.findZ by PySem.W.S.findZ_eq
name_quick tw8057787790334108692 for PySem.W.S.findZ by PySem.W.S.findZ_eq
name_quick tw8102154549545282533 for PySem.W.S.findZ by PySem.W.S.findZ_eq
name_quick tw8177748629618352550 for PySem.W.S.findZ by PySem.W.S.findZ_eq
name_quick tw8262938371589343327 for PySem.W.S.findZ by PySem.W.S.findZ_eq
name_quick tw8273911972003406276 for PySem.W.S.findZ by PySem.W.S.findZ_eq
name_quick tw830040617744889601 for PySem.W.S.findZ by PySem.W.S.findZ_eq
name_quick tw8334409145075138146 for PySem.W.S.findZ by PySem.W.S.findZ_eq
name_quick tw8355140354873260990 for PySem.W.S.findZ by PySem.W.S.findZ_eq
name_quick tw8394388337530158721 for PySem.W.S.findZ by PySem.W.S.findZ_eq
name_quick tw8398532289531032019 for PySem.W.S.findZ by PySem.W.S.findZ_eq
name_quick tw841947036386052095 for PySem.W.S.findZ by PySem.W.S.findZ_eq
name_quick tw8428195558443565838 for PySem.W.S.findZ by PySem.W.S.findZ_eq
name_quick tw8432361502814904266 for PySem.W.S.findZ by PySem.W.S.findZ_eq
name_quick tw8444740952582335150 for PySem.W.S.findZ by PySem.W.S.findZ_eq
name_quick tw854222463176926342 for PySem.W.S.findZ by PySem.W.S.findZ_eq
name_quick tw8565839462302025126 for PySem.W.S.findZ by PySem.W.S.findZ_eq
name_quick tw8576795792138061137 for PySem.W.S.findZ by PySem.W.S.findZ_eq
name_quick tw8640610500543521820 for PySem.W.S.findZ by PySem.W.S.findZ_eq
name_quick tw8695639371261206291 for PySem.W.S.findZ by PySem.W.S.findZ_eq
name_quick tw8727903700745695888 for PySem.W.S.findZ by PySem.W.S.findZ_eq
name_quick tw8793311312221241173 for PySem.W.S.findZ by PySem.W.S.findZ_eq
name_quick tw8852421554373938870 for PySem.W.S.findZ by PySem.W.S.findZ_eq
name_quick tw887821657913679410 for PySem.W.S.findZ by PySem.W.S.findZ_eq
name_quick tw8900460455935357388 for PySem.W.S.findZ by PySem.W.S.findZ_eq
name_quick tw8953094266210523430 for PySem.W.S.findZ by PySem.W.S.findZ_eq
name_quick tw9005108816376852140 for PySem.W.S.findZ by PySem.W.S.findZ_eq
name_quick tw9028096440619350360 for PySem.W.S.findZ by PySem.W.S.findZ_eq
name_quick tw9072319706669675813 for PySem.W.S.findZ by PySem.W.S.findZ_eq
name_quick tw9079215650222327619 for PySem.W.S.findZ by PySem.W.S.findZ_eq
name_quick tw9110116005175100305 for PySem.W.S.findZ by PySem.W.S.findZ_eq
name_quick tw9123601891965648248 for PySem.W.S.findZ by PySem.W.S.findZ_eq
name_quick tw9127636681585075303 for PySem.W.S.findZ by PySem.W.S.findZ_eq
name_quick tw9159349556842206570 for PySem.W.S.findZ by PySem.W.S.findZ_eq
name_quick tw9271077119455470271 for PySem.W.S.findZ by PySem.W.S.findZ_eq
name_quick tw9344880081624298264 for PySem.W.S.findZ by PySem.W.S.findZ_eq
name_quick tw9354106366917817180 for PySem.W.S.findZ by PySem.W.S.findZ_eq
name_quick tw9357568357883081509 for PySem.W.S.findZ by PySem.W.S.findZ_eq
name_quick tw9357654409997510193 for PySem.W.S.findZ by PySem.W.S.findZ_eq
name_quick tw9411197870240035496 for PySem.W.S.findZ by PySem.W.S.findZ_eq
name_quick tw9422841977531631520 for PySem.W.S.findZ by PySem.W.S.findZ_eq
name_quick tw9447175931729915244 for PySem.W.S.findZ by PySem.W.S.findZ_eq
name_quick tw9460184773571636958 for PySem.W.S.findZ by PySem.W.S.findZ_eq
name_quick tw9467036199164220054 for PySem.W.S.findZ by PySem.W.S.findZ_eq
name_quick tw9514919266066971322 for PySem.W.S.findZ by PySem.W.S.findZ_eq
name_quick tw9525185624951263201 for PySem.W.S.findZ by PySem.W.S.findZ_eq
name_quick tw9534911374112671270 for PySem.W.S.findZ by PySem.W.S.findZ_eq
name_quick tw9560009924763041298 for PySem.W.S.findZ by PySem.W.S.findZ_eq
name_quick tw9571633032036878951 for PySem.W.S.findZ by PySem.W.S.findZ_eq
name_quick tw9596179035402564705 for PySem.W.S.findZ by PySem.W.S.findZ_eq
name_quick tw9620181470516282968 for PySem.W.S.findZ by PySem.W.S.findZ_eq
name_quick tw9620784636228542823 for PySem.W.S.findZ by PySem.W.S.findZ_eq
name_quick tw9621396008399823264 for PySem.W.S.findZ by PySem.W.S.findZ_eq
name_quick tw9622375213025386685 for PySem.W.S.findZ by PySem.W.S.findZ_eq
name_quick tw9704114869927578775 for PySem.W.S.findZ by PySem.W.S.findZ_eq
name_quick tw9706112446689555344 for PySem.W.S.findZ by PySem.W.S.findZ_eq
name_quick tw9714550446652603187 for PySem.W.S.findZ by PySem.W.S.findZ_eq
name_quick tw9736238609267064119 for PySem.W.S.findZ by PySem.W.S.findZ_eq
name_quick tw9782937791706605292 for PySem.W.S.findZ by PySem.W.S.findZ_eq
name_quick tw9785687899052844074 for PySem.W.S.findZ by PySem.W.S.findZ_eq
name_quick tw9789602472503030333 for PySem.W.S.findZ by PySem.W.S.findZ_eq
name_quick tw9793297582721125934 for PySem.W.S.findZ by PySem.W.S.findZ_eq
name_quick tw9856408166172209393 for PySem.W.S.findZ by PySem.W.S.findZ_eq
name_quick tw9885928818704858652 for PySem.W.S.findZ by PySem.W.S.findZ_eq
name_quick tw9886991129948273375 for PySem.W.S.findZ by PySem.W.S.findZ_eq
name_quick tw9894006960503828858 for PySem.W.S.findZ by PySem.W.S.findZ_eq
name_quick tw9923306827126180738 for PySem.W.S.findZ by PySem.W.S.findZ_eq
name_quick tw9926758485404853212 for PySem.W.S.findZ by PySem.W.S.findZ_eq
name_quick tw9944872832587289211 for PySem.W.S.findZ by PySem.W.S.findZ_eq
name_quick tw9993771561099967805 for PySem.W.S.findZ by PySem.W.S.findZ_eq
namespace Mine
set_option maxRecDepth 100000 in
set_option maxHeartbeats 8000000 in
open_top tpx for PySem.Challenge.rw_pp0017_01
theorem fill_all : (PySem.Challenge.rw_pp0017_01.prog = PySem.Challenge.rw_pp0017_01.prog) ∧ tpx.heap_39 = tpx.heap_39 := by
  k_fill
  exact ⟨rfl, rfl⟩
abbrev Fld := Str → Option Value
inductive AO where
  | inst (C d : Addr)
  | attrs (f : Fld) (n : Nat)
  | list (vs : List Value)
  | tup (vs : List Value)
  | sd (f : Fld) (n : Nat)
  | idict (f : Int → Option Value) (n : Nat)
  | cell (v : Option Value)
  | rng (a b : Int)
  | exc (C : Addr) (d : Option Addr) (tb : Value)
  | trb (fl : Value)
inductive Hid where
  | fr (m : Fld)
  | ob (P : Obj → Prop)
abbrev Led := Addr → Option (Nat × AO)
noncomputable def up (led : Led) (a : Addr) (e : Nat × AO) : Led := fun b => if b = a then some e else led b
theorem up_eq (led : Led) (a : Addr) (e : Nat × AO) : up led a e a = some e := by simp [up]
theorem up_ne {led : Led} {a b : Addr} {e : Nat × AO} (h : b ≠ a) : up led a e b = led b := by simp [up, h]
structure Gd where
  prog : Program
  w : World
  base : Heap
  gens : Array GenState
  drawn : Drawn
  os : OsState
  p : Program
  loose : List Str
  mean : ExcName → Option Value
  mg : Str → Option Value
  mb : Str → Option Value
  X : (tpx.heap_39 w.params).In base
  T : Top p loose mean mg mb base
noncomputable def Gd.sh (G : Gd) (h : Heap) (tk : Nat) : Shared := { heap := h, gens := G.gens, drawn := G.drawn, toks := tk, os := G.os }
@[simp] theorem Gd.sh_heap (G : Gd) (h : Heap) (tk : Nat) : (G.sh h tk).heap = h := rfl
noncomputable def Rep (G : Gd) (h : Heap) (a : Addr) : AO → Prop
  | .inst C d => h.get? a = some (instObj C d)
  | .attrs f n => ∃ es k, h.get? a = some (dictOf es k) ∧ es.length ≤ n ∧ n ≤ 900 ∧ es.any (·.refKey) = false ∧ ∀ x, (es.find? (·.key.isStr x)).map (·.val) = f x
  | .list vs => PlainL h a vs.toArray
  | .tup vs => IsTup h a vs.toArray
  | .cell v => ∃ o, h.get? a = some o ∧ o.data = .cell v
  | .rng i j => ∃ t u v, IsRange h a i j 1 t u v
  | .exc C d tb => ∃ o vs, h.get? a = some o ∧ o.cls = .ref C ∧ o.dict = d ∧ o.data = .fields vs ∧ vs[1]? = some tb
  | .trb fl => ∃ o vs, h.get? a = some o ∧ o.data = .fields vs ∧ vs[3]? = some fl
  | .sd f n => ∃ kvs, h.DictOf (strKind G.prog G.w) a kvs ∧ kvs.length ≤ n ∧ n ≤ 900 ∧ (a == sysModules) = false ∧ ∀ x, valueAt kvs x = f x
  | .idict f n => ∃ kvs, h.DictOf (intKind G.prog G.w) a kvs ∧ kvs.length ≤ n ∧ n ≤ 900 ∧ (a == sysModules) = false ∧ ∀ x, valueAt kvs x = f x
theorem Rep.at {G : Gd} {h h' : Heap} {a : Addr} {o : AO} (R : Rep G h a o) (k : ∀ x, h.get? a = some x → h'.get? a = some x) : Rep G h' a o := by
  cases o with
  | inst C d => exact k _ R
  | attrs f n => obtain ⟨es, n', e, r⟩ := R; exact ⟨es, n', k _ e, r⟩
  | list vs => obtain ⟨o, n', e, r⟩ := R; exact ⟨o, n', k _ e, r⟩
  | tup vs => obtain ⟨o, e, r⟩ := R; exact ⟨o, k _ e, r⟩
  | cell v => obtain ⟨o, e, r⟩ := R; exact ⟨o, k _ e, r⟩
  | rng i j => obtain ⟨t, u, v, e⟩ := R; exact ⟨t, u, v, k _ e⟩
  | exc C d tb => obtain ⟨o, vs, e, r⟩ := R; exact ⟨o, vs, k _ e, r⟩
  | trb fl => obtain ⟨o, vs, e, r⟩ := R; exact ⟨o, vs, k _ e, r⟩
  | sd f n =>
    obtain ⟨kvs, ⟨o, es, ep, ho, r⟩, b⟩ := R
    exact ⟨kvs, ⟨o, es, ep, k _ ho, r⟩, b⟩
  | idict f n =>
    obtain ⟨kvs, ⟨o, es, ep, ho, r⟩, b⟩ := R
    exact ⟨kvs, ⟨o, es, ep, k _ ho, r⟩, b⟩
theorem Rep.some {G : Gd} {h : Heap} {a : Addr} {o : AO} (R : Rep G h a o) : ∃ x, h.get? a = some x := by
  cases o with
  | inst C d => exact ⟨_, R⟩
  | attrs f n => obtain ⟨es, n', e, r⟩ := R; exact ⟨_, e⟩
  | list vs => obtain ⟨o, n', e, r⟩ := R; exact ⟨_, e⟩
  | tup vs => obtain ⟨o, e, r⟩ := R; exact ⟨_, e⟩
  | cell v => obtain ⟨o, e, r⟩ := R; exact ⟨_, e⟩
  | rng i j => obtain ⟨t, u, v, e⟩ := R; exact ⟨_, e⟩
  | exc C d tb => obtain ⟨o, vs, e, r⟩ := R; exact ⟨_, e⟩
  | trb fl => obtain ⟨o, vs, e, r⟩ := R; exact ⟨_, e⟩
  | sd f n => obtain ⟨kvs, ⟨o, es, ep, ho, r⟩, b⟩ := R; exact ⟨_, ho⟩
  | idict f n => obtain ⟨kvs, ⟨o, es, ep, ho, r⟩, b⟩ := R; exact ⟨_, ho⟩
noncomputable def HRep (G : Gd) (h : Heap) (a : Addr) : Hid → Prop
  | .fr m => h.Ns a m ∧ G.base.objs.size ≤ a
  | .ob P => ∃ o, h.get? a = some o ∧ P o
theorem HRep.at {G : Gd} {h h' : Heap} {a : Addr} {o : Hid} (R : HRep G h a o) (k : ∀ x, h.get? a = some x → h'.get? a = some x) : HRep G h' a o := by
  cases o with
  | fr m => obtain ⟨⟨o, es, ep, e, r⟩, z⟩ := R; exact ⟨⟨o, es, ep, k o e, r⟩, z⟩
  | ob P => obtain ⟨o, e, r⟩ := R; exact ⟨o, k _ e, r⟩
theorem HRep.some {G : Gd} {h : Heap} {a : Addr} {o : Hid} (R : HRep G h a o) : ∃ x, h.get? a = some x := by
  cases o with
  | fr m => obtain ⟨⟨o, es, ep, e, r⟩, z⟩ := R; exact ⟨_, e⟩
  | ob P => obtain ⟨o, e, r⟩ := R; exact ⟨_, e⟩
structure Inv (G : Gd) (stk : List (Addr × Hid)) (L : Addr) (m : Fld) (led : Led) (h : Heap) : Prop where
  keep : ∀ b o, G.base.get? b = some o → h.get? b = some o
  ns : h.Ns L m
  above : G.base.objs.size ≤ L
  nd : (L :: stk.map Prod.fst).Nodup
  sk : ∀ p ∈ stk, HRep G h p.1 p.2 ∧ G.base.get? p.1 = none
  led : ∀ a t o, led a = some (t, o) → Rep G h a o ∧ G.base.get? a = none ∧ a ∉ L :: stk.map Prod.fst
theorem Inv.fr {G : Gd} {stk L m led h} (I : Inv G stk L m led h) : Fr G.base L h m := ⟨I.ns, I.keep, I.above⟩
theorem none_of_ge {h : Heap} {a : Addr} (e : h.objs.size ≤ a) : h.get? a = none := by
  cases q : h.get? a with
  | none => rfl
  | some o => exact absurd (Heap.lt_size q) (Nat.not_lt.mpr e)
theorem Inv.old {G : Gd} {stk L m led h} (I : Inv G stk L m led h) {a t o} (e : led a = some (t, o)) : G.base.get? a = none := (I.led a t o e).2.1
theorem Inv.neL {G : Gd} {stk L m led h} (I : Inv G stk L m led h) {a t o} (e : led a = some (t, o)) : a ≠ L := fun q => (I.led a t o e).2.2 (q ▸ List.mem_cons_self)
theorem Inv.neS {G : Gd} {stk L m led h} (I : Inv G stk L m led h) {a t o} (e : led a = some (t, o)) {p} (hp : p ∈ stk) : p.1 ≠ a :=
  fun q => (I.led a t o e).2.2 (List.mem_cons_of_mem _ (q ▸ List.mem_map_of_mem hp))
theorem Inv.neLS {G : Gd} {stk L m led h} (I : Inv G stk L m led h) {p} (hp : p ∈ stk) : p.1 ≠ L :=
  fun q => (List.nodup_cons.mp I.nd).1 (q ▸ List.mem_map_of_mem hp)
theorem ns_at {h h' : Heap} {a : Addr} {m : Fld} (x : h.Ns a m) (k : ∀ o, h.get? a = some o → h'.get? a = some o) : h'.Ns a m := let ⟨o, es, ep, e, r⟩ := x; ⟨o, es, ep, k o e, r⟩
/-- the top frame's map turns; all else stays -/
theorem Inv.top {G : Gd} {stk L m m' led h h'} (I : Inv G stk L m led h) (hn : h'.Ns L m') (hs : ∀ b o, h.get? b = some o → b ≠ L → h'.get? b = some o) : Inv G stk L m' led h' :=
  ⟨fun b o e => hs b o (I.keep b o e) (Nat.ne_of_lt (Nat.lt_of_lt_of_le (Heap.lt_size e) I.above)), hn, I.above, I.nd,
   fun p hp => ⟨(I.sk p hp).1.at fun o e => hs _ o e (I.neLS hp), (I.sk p hp).2⟩,
   fun a t o e => ⟨(I.led a t o e).1.at fun x hx => hs a x hx (I.neL e), (I.led a t o e).2⟩⟩
/-- all stays -/
theorem Inv.keeps {G : Gd} {stk L m led h h'} (I : Inv G stk L m led h) (hs : ∀ b o, h.get? b = some o → h'.get? b = some o) : Inv G stk L m led h' :=
  I.top (ns_at I.ns fun o e => hs _ o e) fun b o e _ => hs b o e
/-- one object of the ledger turns -/
theorem Inv.put {G : Gd} {stk L m led h h'} (I : Inv G stk L m led h) {a t o t' o'} (e : led a = some (t, o)) (hn : h'.Ns L m) (hs : ∀ b x, h.get? b = some x → b ≠ a → b ≠ L → h'.get? b = some x) (R : Rep G h' a o') : Inv G stk L m (up led a (t', o')) h' :=
  ⟨fun b x q => hs b x (I.keep b x q) (fun z => by rw [z, I.old e] at q; cases q) (Nat.ne_of_lt (Nat.lt_of_lt_of_le (Heap.lt_size q) I.above)), hn, I.above, I.nd,
   fun p hp => ⟨(I.sk p hp).1.at fun x q => hs _ x q (I.neS e hp) (I.neLS hp), (I.sk p hp).2⟩,
   fun b u x q => by
    by_cases hb : b = a
    · subst hb
      rw [up_eq] at q
      cases q
      exact ⟨R, (I.led _ _ _ e).2⟩
    · rw [up_ne hb] at q
      exact ⟨(I.led b u x q).1.at fun y hy => hs b y hy hb (I.neL q), (I.led b u x q).2⟩⟩
/-- the same, the other objects stay -/
theorem Inv.put1 {G : Gd} {stk L m led h h'} (I : Inv G stk L m led h) {a t o t' o'} (e : led a = some (t, o)) (hs : Heap.SameBut a h h') (R : Rep G h' a o') : Inv G stk L m (up led a (t', o')) h' :=
  I.put e (ns_at I.ns fun x q => (hs.2 _ (I.neL e).symm).trans q) (fun b x q hb _ => (hs.2 b hb).trans q) R
theorem Inv.lt {G : Gd} {stk L m led h} (I : Inv G stk L m led h) : G.base.objs.size ≤ h.objs.size := Nat.le_of_lt (Nat.lt_of_le_of_lt I.above I.ns.lt)
/-- a new object -/
theorem Inv.new {G : Gd} {stk L m led h h'} (I : Inv G stk L m led h) {a t o} (ha : h.objs.size ≤ a) (hs : ∀ b x, h.get? b = some x → h'.get? b = some x) (R : Rep G h' a o) :
    led a = none ∧ Inv G stk L m (up led a (t, o)) h' := by
  have hn : led a = none := by
    cases q : led a with
    | none => rfl
    | some e =>
      obtain ⟨t, o⟩ := e
      obtain ⟨x, hx⟩ := (I.led a t o q).1.some
      exact absurd (Heap.lt_size hx) (Nat.not_lt.mpr ha)
  refine ⟨hn, fun b x q => hs b x (I.keep b x q), ns_at I.ns fun x q => hs _ x q, I.above, I.nd, fun p hp => ⟨(I.sk p hp).1.at fun x q => hs _ x q, (I.sk p hp).2⟩, fun b u x q => ?_⟩
  by_cases hb : b = a
  · subst hb
    rw [up_eq] at q
    cases q
    refine ⟨R, none_of_ge (Nat.le_trans I.lt ha), fun hm => ?_⟩
    rcases List.mem_cons.mp hm with z | z
    · exact absurd I.ns.lt (z ▸ Nat.not_lt.mpr ha)
    · obtain ⟨p, hp, z⟩ := List.mem_map.mp z
      exact absurd (Heap.lt_size (I.sk p hp).1.some.choose_spec) (z ▸ Nat.not_lt.mpr ha)
  · rw [up_ne hb] at q
    exact ⟨(I.led b u x q).1.at fun y hy => hs b y hy, (I.led b u x q).2⟩
/-- a new object, laid behind the old heap's end -/
theorem Inv.new' {G : Gd} {stk L m m0 led h h'} (I' : Inv G stk L m led h') {a t o} (ha : h.objs.size ≤ a) (I : Inv G stk L m0 led h) (R : Rep G h' a o) :
    led a = none ∧ Inv G stk L m (up led a (t, o)) h' := by
  have hn : led a = none := by
    cases q : led a with
    | none => rfl
    | some e =>
      obtain ⟨t, o⟩ := e
      obtain ⟨x, hx⟩ := (I.led a t o q).1.some
      exact absurd (Heap.lt_size hx) (Nat.not_lt.mpr ha)
  refine ⟨hn, I'.keep, I'.ns, I'.above, I'.nd, I'.sk, fun b u x q => ?_⟩
  by_cases hb : b = a
  · subst hb
    rw [up_eq] at q
    cases q
    refine ⟨R, none_of_ge (Nat.le_trans I.lt ha), fun hm => ?_⟩
    rcases List.mem_cons.mp hm with z | z
    · exact absurd I.ns.lt (z ▸ Nat.not_lt.mpr ha)
    · obtain ⟨p, hp, z⟩ := List.mem_map.mp z
      exact absurd (Heap.lt_size (I.sk p hp).1.some.choose_spec) (z ▸ Nat.not_lt.mpr ha)
  · rw [up_ne hb] at q
    exact I'.led b u x q
/-- an object that the new heap holds and that no fact names -/
theorem Inv.newAt {G : Gd} {stk L m led h} (I : Inv G stk L m led h) {a t o} (hb : G.base.get? a = none) (hm : a ∉ L :: stk.map Prod.fst) (R : Rep G h a o) : Inv G stk L m (up led a (t, o)) h :=
  ⟨I.keep, I.ns, I.above, I.nd, I.sk, fun b u x q => by
    by_cases z : b = a
    · subst z
      rw [up_eq] at q
      cases q
      exact ⟨R, hb, hm⟩
    · rw [up_ne z] at q
      exact I.led b u x q⟩
/-- fewer facts -/
theorem Inv.less {G : Gd} {stk L m led led' h} (I : Inv G stk L m led h) (hs : ∀ a e, led' a = some e → led a = some e) : Inv G stk L m led' h :=
  ⟨I.keep, I.ns, I.above, I.nd, I.sk, fun a t o e => I.led a t o (hs a _ e)⟩
/-- a hidden object is laid upon the stack -/
theorem Inv.hide {G : Gd} {stk L m led h h'} (I : Inv G stk L m led h) {it : Addr} {P : Obj → Prop} {o : Obj} (hit : h.objs.size ≤ it) (hs : ∀ b x, h.get? b = some x → h'.get? b = some x) (ho : h'.get? it = some o) (hP : P o) : Inv G ((it, .ob P) :: stk) L m led h' := by
  refine ⟨fun b x q => hs b x (I.keep b x q), ns_at I.ns fun x q => hs _ x q, I.above, ?_, ?_, ?_⟩
  · have hnot : it ∉ L :: stk.map Prod.fst := fun hm => by
      rcases List.mem_cons.mp hm with z | z
      · exact absurd I.ns.lt (z ▸ Nat.not_lt.mpr hit)
      · obtain ⟨p, hp, z⟩ := List.mem_map.mp z
        exact absurd (Heap.lt_size (I.sk p hp).1.some.choose_spec) (z ▸ Nat.not_lt.mpr hit)
    have := I.nd
    rw [List.nodup_cons] at this
    simp only [List.map_cons, List.nodup_cons, List.mem_cons, not_or] at hnot ⊢
    exact ⟨⟨fun e => hnot.1 e.symm, this.1⟩, hnot.2, this.2⟩
  · intro p hp
    rcases List.mem_cons.mp hp with rfl | hp
    · exact ⟨⟨o, ho, hP⟩, none_of_ge (Nat.le_trans I.lt hit)⟩
    · exact ⟨(I.sk p hp).1.at fun x q => hs _ x q, (I.sk p hp).2⟩
  · intro c t o' e
    obtain ⟨h1, h2, h3⟩ := I.led c t o' e
    refine ⟨h1.at fun y hy => hs _ y hy, h2, fun hm => ?_⟩
    rcases List.mem_cons.mp hm with z | z
    · exact h3 (z ▸ List.mem_cons_self)
    · rcases List.mem_cons.mp z with z | z
      · obtain ⟨y, hy⟩ := h1.some
        exact absurd (Heap.lt_size hy) (z ▸ Nat.not_lt.mpr hit)
      · exact h3 (List.mem_cons_of_mem _ z)
theorem Inv.hidTurn {G : Gd} {stk L m led h h'} {it : Addr} {P P' : Obj → Prop} (I : Inv G ((it, .ob P) :: stk) L m led h) {o : Obj} (hs : ∀ b x, h.get? b = some x → b ≠ it → h'.get? b = some x) (ho : h'.get? it = some o) (hP : P' o) : Inv G ((it, .ob P') :: stk) L m led h' := by
  have hL : L ≠ it := fun e => (List.nodup_cons.mp I.nd).1 (e ▸ List.mem_cons_self)
  have nd2 := (List.nodup_cons.mp (List.nodup_cons.mp I.nd).2).1
  have old : G.base.get? it = none := (I.sk _ (.head _)).2
  refine ⟨fun b x q => hs b x (I.keep b x q) (fun z => by rw [z, old] at q; cases q), ns_at I.ns fun x q => hs _ x q hL, I.above, I.nd, ?_, ?_⟩
  · intro p hp
    rcases List.mem_cons.mp hp with rfl | hp
    · exact ⟨⟨o, ho, hP⟩, old⟩
    · exact ⟨(I.sk p (.tail _ hp)).1.at fun x q => hs _ x q fun z => nd2 (List.mem_map.mpr ⟨p, hp, z⟩), (I.sk p (.tail _ hp)).2⟩
  · intro c t o' e
    obtain ⟨h1, h2, h3⟩ := I.led c t o' e
    exact ⟨h1.at fun y hy => hs _ y hy fun z => h3 (z ▸ List.mem_cons_of_mem _ List.mem_cons_self), h2, h3⟩
theorem Inv.bare {G : Gd} {stk L m led h} {it : Addr} {P : Hid} (I : Inv G ((it, P) :: stk) L m led h) : Inv G stk L m led h := by
  refine ⟨I.keep, I.ns, I.above, ?_, fun p hp => I.sk p (.tail _ hp), fun c t o e => ⟨(I.led c t o e).1, (I.led c t o e).2.1, fun hm => (I.led c t o e).2.2 ?_⟩⟩
  · have := I.nd
    simp only [List.map_cons, List.nodup_cons, List.mem_cons, not_or] at this ⊢
    exact ⟨this.1.2, this.2.2⟩
  · rcases List.mem_cons.mp hm with z | z
    · exact z ▸ List.mem_cons_self
    · exact List.mem_cons_of_mem _ (List.mem_cons_of_mem _ z)
theorem Inv.hidEnd {G : Gd} {stk L m led h h'} (I : Inv G stk L m led h) {it : Addr} {P : Hid} (I2 : Inv G ((it, P) :: stk) L m led h) (hs : Heap.ExtBut it h h') : Inv G stk L m led h' := by
  have hL : L ≠ it := fun e => (List.nodup_cons.mp I2.nd).1 (e ▸ List.mem_cons_self)
  have nd2 := (List.nodup_cons.mp (List.nodup_cons.mp I2.nd).2).1
  have old : G.base.get? it = none := (I2.sk _ (.head _)).2
  refine ⟨fun b x q => hs b x (fun z => by rw [z, old] at q; cases q) (I.keep b x q), ns_at I.ns fun x q => hs _ x hL q, I.above, I.nd, fun p hp => ⟨(I.sk p hp).1.at fun x q => hs _ x (fun z => nd2 (List.mem_map.mpr ⟨p, hp, z⟩)) q, (I.sk p hp).2⟩, fun c t o e => ?_⟩
  exact ⟨(I.led c t o e).1.at fun y hy => hs _ y (fun z => (I2.led c t o e).2.2 (z ▸ List.mem_cons_of_mem _ List.mem_cons_self)) hy, (I.led c t o e).2⟩
section news
variable {base h : Heap} {L : Addr} {m : Fld}
noncomputable def cellOf (base h : Heap) (L : Addr) (a : Addr) : Option (Addr × Obj) := if a = L then none else if (base.get? a).isSome then none else (h.get? a).map fun o => (a, o)
theorem cellOf_some {a : Addr} {p : Addr × Obj} (e : cellOf base h L a = some p) : p.1 = a ∧ h.get? a = some p.2 ∧ a ≠ L ∧ base.get? a = none := by
  unfold cellOf at e
  split at e
  · cases e
  · rename_i h1
    split at e
    · cases e
    · rename_i h2
      obtain ⟨o, ho, rfl⟩ := Option.map_eq_some_iff.mp e
      exact ⟨rfl, ho, h1, by simpa using h2⟩
theorem cellOf_of {a : Addr} {o : Obj} (e : h.get? a = some o) (h1 : a ≠ L) (h2 : base.get? a = none) : cellOf base h L a = some (a, o) := by
  unfold cellOf
  rw [if_neg h1, h2, e]
  rfl
noncomputable def allN (base h : Heap) (L : Addr) : List (Addr × Obj) := (List.range h.objs.size).filterMap (cellOf base h L)
theorem news_of {l : List Nat} : News base L h (l.filterMap (cellOf base h L)) := fun p hp => by
  obtain ⟨a, _, e⟩ := List.mem_filterMap.mp hp
  obtain ⟨rfl, q, r⟩ := cellOf_some e
  exact ⟨q, r⟩
theorem allN_news : News base L h (allN base h L) := news_of
theorem mem_allN {a : Addr} {o : Obj} (e : h.get? a = some o) (h1 : a ≠ L) (h2 : base.get? a = none) : (a, o) ∈ allN base h L :=
  List.mem_filterMap.mpr ⟨a, List.mem_range.mpr (Heap.lt_size e), cellOf_of e h1 h2⟩
theorem allN_kept {h' : Heap} {m' : Fld} (F : Fr base L h m) (F' : Fr base L h' m') (N : News base L h' (allN base h L)) : ∀ b o, h.get? b = some o → b ≠ L → h'.get? b = some o := fun b o e hb => by
  cases q : base.get? b with
  | none => exact (N _ (mem_allN e hb q)).1
  | some o' => exact (Option.some.inj (e.symm.trans (F.keep b o' q))) ▸ F'.keep b o' q
theorem range_at (n d : Nat) (e : d < n) : List.range n = List.range d ++ d :: (List.range' (d + 1) (n - (d + 1))) := by
  have h1 : List.range n = List.range' 0 (d + (1 + (n - (d + 1)))) := by rw [List.range_eq_range']; congr 1; omega
  rw [h1, ← List.range'_append_1, ← List.range'_append_1, List.range_eq_range']
  simp [List.range'_one]
theorem ne_of_ltN {a b : Nat} (h : a < b) : a ≠ b := Nat.ne_of_lt h
theorem ne_of_leN {a b : Nat} (h : b + 1 ≤ a) : a ≠ b := Nat.ne_of_gt h
theorem allN_split {d : Addr} {od : Obj} (e : h.get? d = some od) (h1 : d ≠ L) (h2 : base.get? d = none) :
    ∃ pre post, allN base h L = pre ++ (d, od) :: post ∧ (∀ p ∈ pre, p.1 ≠ d) ∧ ∀ p ∈ post, p.1 ≠ d := by
  refine ⟨(List.range d).filterMap (cellOf base h L), (List.range' (d + 1) (h.objs.size - (d + 1))).filterMap (cellOf base h L), ?_, ?_, ?_⟩
  · unfold allN
    rw [range_at h.objs.size d (Heap.lt_size e), List.filterMap_append, List.filterMap_cons, cellOf_of e h1 h2]
  · intro p hp
    obtain ⟨a, ha, q⟩ := List.mem_filterMap.mp hp
    rw [(cellOf_some q).1]
    exact ne_of_ltN (List.mem_range.mp ha)
  · intro p hp
    obtain ⟨a, ha, q⟩ := List.mem_filterMap.mp hp
    rw [(cellOf_some q).1]
    exact ne_of_leN (List.mem_range'_1.mp ha).1
theorem split_kept {h' : Heap} {m' : Fld} {d : Addr} {od od' : Obj} {pre post : List (Addr × Obj)} (F : Fr base L h m) (e : allN base h L = pre ++ (d, od) :: post) (F' : Fr base L h' m') (N : News base L h' (pre ++ (d, od') :: post)) :
    (∀ b o, h.get? b = some o → b ≠ d → b ≠ L → h'.get? b = some o) ∧ h'.get? d = some od' := by
  refine ⟨fun b o q hd hb => ?_, (N (d, od') (by simp)).1⟩
  cases z : base.get? b with
  | some o' => exact (Option.some.inj (q.symm.trans (F.keep b o' z))) ▸ F'.keep b o' z
  | none =>
    have := mem_allN q hb z
    rw [e] at this
    refine (N (b, o) ?_).1
    rcases List.mem_append.mp this with y | y
    · exact List.mem_append_left _ y
    · rcases List.mem_cons.mp y with y | y
      · cases y; exact absurd rfl hd
      · exact List.mem_append_right _ (List.mem_cons_of_mem _ y)
end news
noncomputable def W (G : Gd) (A : Around) (stk : List (Addr × Hid)) (L : Addr) (m : Fld) (led : Led) {α : Type} (t : Sem α) (Q : α → Fld → Led → Prop) (E : Value → Shared → Prop) : Prop :=
  ∀ h tk, Inv G stk L m led h → wpAny (model G.prog G.w) A t (fun v s' => ∃ h' tk' m' led', s' = G.sh h' tk' ∧ Inv G stk L m' led' h' ∧ Q v m' led') E (G.sh h tk)
section rules
variable {G : Gd} {A : Around} {stk : List (Addr × Hid)} {L : Addr} {m : Fld} {led : Led} {α β : Type} {E : Value → Shared → Prop}
theorem W.use {t : Sem α} {Q : α → Fld → Led → Prop} (H : W G A stk L m led t Q E) {h tk} (I : Inv G stk L m led h) {Q' : α → Shared → Prop}
    (k : ∀ v h' tk' m' led', Inv G stk L m' led' h' → Q v m' led' → Q' v (G.sh h' tk')) : wpAny (model G.prog G.w) A t Q' E (G.sh h tk) :=
  wpAny_mono (H h tk I) (fun v s' ⟨h', tk', m', led', e, I', q⟩ => by subst e; exact k v h' tk' m' led' I' q) fun _ _ e => e
theorem W.mono {t : Sem α} {Q Q' : α → Fld → Led → Prop} (H : W G A stk L m led t Q E) (k : ∀ v m' led', Q v m' led' → Q' v m' led') : W G A stk L m led t Q' E :=
  fun _ _ I => H.use I fun _ _ _ _ _ I' q => ⟨_, _, _, _, rfl, I', k _ _ _ q⟩
theorem W_less {led' : Led} {t : Sem α} {Q : α → Fld → Led → Prop} (hs : ∀ a e, led' a = some e → led a = some e) (H : W G A stk L m led' t Q E) : W G A stk L m led t Q E :=
  fun h tk I => H h tk (I.less hs)
theorem W_pure {v : α} {Q : α → Fld → Led → Prop} (q : Q v m led) : W G A stk L m led (pure v) Q E := fun _ _ I => wpAny_pure ⟨_, _, _, _, rfl, I, q⟩
theorem W_bind {t : Sem α} {f : α → Sem β} {Q : β → Fld → Led → Prop} (H : W G A stk L m led t (fun v m' led' => W G A stk L m' led' (f v) Q E) E) : W G A stk L m led (t >>= f) Q E :=
  fun _ _ I => wpAny_bind (H.use I fun _ h' tk' _ _ I' q => q h' tk' I')
end rules
noncomputable def fup (f : Fld) (x : Str) (v : Value) : Fld := fun y => if y = x then some v else f y
theorem fup_eq (f : Fld) (x : Str) (v : Value) : fup f x v x = some v := by simp [fup]
theorem fup_ne {f : Fld} {x y : Str} {v : Value} (h : y ≠ x) : fup f x v y = f y := by simp [fup, h]
section rules
variable {G : Gd} {A : Around} {stk : List (Addr × Hid)} {L : Addr} {m : Fld} {led : Led} {α β : Type} {E : Value → Shared → Prop}
variable {cn : Str} {cs : Scope} {a : Addr} {ccd : Value} {cl : List (Str × Addr)} {x : Str} {pos : Pos} {v : Value} {env : Env}
theorem W_nameL {Q : Value → Fld → Led → Prop} (hv : m x = some v) (q : Q v m led) (hk : cs.kind = .function := by rfl) (hx : (envX cn cs L a ccd cl).kindOf x = some .local := by rfl) (hd : (x == ("__debug__" : Str)) = false := by decide) :
    W G A stk L m led (eval (.Name x pos) (envX cn cs L a ccd cl)) Q E := fun _ _ I => nameX_L I.fr hv ⟨_, _, _, _, rfl, I, q⟩ hk hx hd
theorem W_nameK {Q : Value → Fld → Led → Prop} (hv : nsIn (tpx.heap_39 G.w.params) mainGlobals x = some (some v)) (q : Q v m led) (hk : cs.kind = .function := by rfl) (hx : (envX cn cs L a ccd cl).kindOf x = some .globalImplicit := by rfl) (hd : (x == ("__debug__" : Str)) = false := by decide) :
    W G A stk L m led (eval (.Name x pos) (envX cn cs L a ccd cl)) Q E := fun _ _ I => nameX_K I.fr G.X (topRead_of G.T) hv ⟨_, _, _, _, rfl, I, q⟩ hk hx hd
theorem W_nameB {Q : Value → Fld → Led → Prop} (hv : nsIn (tpx.heap_39 G.w.params) mainGlobals x = some none) (hb : bootBuiltins x = some v) (q : Q v m led) (hn : x ≠ "__name__" := by decide) (hk : cs.kind = .function := by rfl) (hx : (envX cn cs L a ccd cl).kindOf x = some .globalImplicit := by rfl) (hd : (x == ("__debug__" : Str)) = false := by decide) :
    W G A stk L m led (eval (.Name x pos) (envX cn cs L a ccd cl)) Q E := fun _ _ I => nameX_B I.fr G.X (topRead_of G.T) hv hb hn ⟨_, _, _, _, rfl, I, q⟩ hk hx hd
theorem W_nameC {Q : Value → Fld → Led → Prop} {c : Addr} {t : Nat} (hc : cl.lookup x = some c) (hl : led c = some (t, .cell (some v))) (q : Q v m led) (hk : cs.kind = .function := by rfl) (hx : (envX cn cs L a ccd cl).kindOf x = some .cell := by rfl) (hd : (x == ("__debug__" : Str)) = false := by decide) :
    W G A stk L m led (eval (.Name x pos) (envX cn cs L a ccd cl)) Q E := fun h tk I => by
  obtain ⟨o, e, d⟩ := (I.led c t _ hl).1
  exact nameX_C (h₀ := G.base) (L := L) (news := [(c, o)]) (fun p hp => by cases List.mem_singleton.mp hp; exact ⟨e, I.neL hl, I.old hl⟩) hc (.head _) d ⟨_, _, _, _, rfl, I, q⟩ hk hx hd
theorem W_none {Q : Value → Fld → Led → Prop} {k : Nat} (q : Q .none m led) : W G A stk L m led (eval (.Constant .none k pos) env) Q E := fun _ _ I => wpAny_Constant_none ⟨_, _, _, _, rfl, I, q⟩
theorem W_bool {Q : Value → Fld → Led → Prop} {k : Nat} {b : Bool} (q : Q (.bool b) m led) : W G A stk L m led (eval (.Constant (.bool b) k pos) env) Q E := fun _ _ I => Constant_bool ⟨_, _, _, _, rfl, I, q⟩
theorem W_int {Q : Value → Fld → Led → Prop} {k : Nat} {i : Int} (q : ∀ t, Q (.int i t) m led) : W G A stk L m led (eval (.Constant (.int i) k pos) env) Q E := fun _ tk I => wpAny_Constant_int ⟨_, tk + 1, _, _, rfl, I, q _⟩
theorem W_str {Q : Value → Fld → Led → Prop} {k : Nat} {i : Str} (q : ∀ t, Q (.str i t) m led) : W G A stk L m led (eval (.Constant (.str i) k pos) env) Q E := fun _ tk I => Calls.Constant_str ⟨_, tk + 1, _, _, rfl, I, q _⟩
theorem W_attrN {Q : Value → Fld → Led → Prop} {xp : Pos} {attr : Str} (H : W G A stk L m led (eval (.Name x xp) env) (fun o m' led' => W G A stk L m' led' (getAttr o attr true) Q E) E) : W G A stk L m led (eval (.Attribute (.Name x xp) attr pos) env) Q E :=
  fun _ _ I => Attribute_any_ (H.use I fun _ h' tk' _ _ I' q => q h' tk' I')
theorem W_attrA {Q : Value → Fld → Led → Prop} {xp : Pos} {attr at2 : Str} {e : Expr} (H : W G A stk L m led (eval (.Attribute e at2 xp) env) (fun o m' led' => W G A stk L m' led' (getAttr o attr true) Q E) E) : W G A stk L m led (eval (.Attribute (.Attribute e at2 xp) attr pos) env) Q E :=
  fun _ _ I => Attribute_any_ (H.use I fun _ h' tk' _ _ I' q => q h' tk' I')
theorem W_attrS {Q : Value → Fld → Led → Prop} {xp : Pos} {attr : Str} {e i : Expr} (H : W G A stk L m led (eval (.Subscript e i xp) env) (fun o m' led' => W G A stk L m' led' (getAttr o attr true) Q E) E) : W G A stk L m led (eval (.Attribute (.Subscript e i xp) attr pos) env) Q E :=
  fun _ _ I => Attribute_any_ (H.use I fun _ h' tk' _ _ I' q => q h' tk' I')
noncomputable def okGet (K : Frag) (C : Addr) (name : Str) : Bool := plainGet K C name && hasDictIn K C && (findIn K (.ref C) name == some none)
theorem getL_of {es : List DictEntry} {f : Fld} (hr : es.any (·.refKey) = false) (hf : ∀ x, (es.find? (·.key.isStr x)).map (·.val) = f x) (x : Str) : getL x es = some (f x) := by
  unfold getL
  have := hf x
  cases q : es.find? (·.key.isStr x) with
  | none => rw [q] at this; rw [← this]; simp [hr]
  | some e => rw [q] at this; rw [← this]; rfl
theorem inst_at {h : Heap} {c d x : Addr} {es : List DictEntry} {k : Nat} (hx : h.get? x = some (instObj c d)) (hd : h.get? d = some (dictOf es k)) : W.InstAt h x (instObj c d) c (some (dictOf es k)) := ⟨hx, rfl, rfl, hd⟩
theorem W_get {Q : Value → Fld → Led → Prop} {o C d : Addr} {f : Fld} {n t t' : Nat} {name : Str} {expr : Bool} (hx : led o = some (t, .inst C d)) (hd : led d = some (t', .attrs f n)) (hv : f name = some v) (hk : okGet (tpx.heap_39 G.w.params) C name = true) (hh : handedIn v = true)
    (q : Q v m led) : W G A stk L m led (getAttr (.ref o) name expr) Q E := fun h tk I => by
  obtain ⟨es, k, e, _, _, hr, hf⟩ := (I.led d t' _ hd).1
  obtain ⟨hk, k3⟩ := Bool.and_eq_true_iff.mp hk
  obtain ⟨k1, k2⟩ := Bool.and_eq_true_iff.mp hk
  exact get_own I.fr G.X (inst_at (I.led o t _ hx).1 e) k1 k2 (beq_iff_eq.mp k3) rfl (by rw [getL_of hr hf, hv]) hh ⟨_, _, _, _, rfl, I, q⟩
noncomputable def okSet (K : Frag) (C : Addr) (name : Str) : Bool := (findIn K (.ref C) "__setattr__" == some (some (.builtin "object.__setattr__"))) && plainOver K C && (takerIn K C name == some none) && hasDictIn K C
theorem putL_length (name : Str) (hsh : Int) (key v : Value) : ∀ es : List DictEntry, (putL name hsh key v es).length ≤ es.length + 1
  | [] => by simp [putL]
  | e :: r => by
    unfold putL
    split
    · simp
    · simpa using putL_length name hsh key v r
theorem putL_length_old (name : Str) (hsh : Int) (key v : Value) : ∀ es : List DictEntry, (es.find? (·.key.isStr name)).isSome = true → (putL name hsh key v es).length = es.length
  | [], h => by simp at h
  | e :: r, h => by
    unfold putL
    split
    · simp
    · rename_i q
      rw [List.find?_cons] at h
      simp only [Bool.not_eq_true] at q
      rw [q] at h
      simpa using putL_length_old name hsh key v r h
theorem putL_refKey (name : Str) (hsh : Int) (t : Tok) (v : Value) : ∀ es : List DictEntry, es.any (·.refKey) = false → (putL name hsh (.str name t) v es).any (·.refKey) = false
  | [], _ => rfl
  | e :: r, h => by
    rw [List.any_cons, Bool.or_eq_false_iff] at h
    unfold putL
    split
    · rw [List.any_cons, Bool.or_eq_false_iff]; exact h
    · rw [List.any_cons, Bool.or_eq_false_iff]; exact ⟨h.1, putL_refKey name hsh t v r h.2⟩
theorem isStr_iff {x : Str} {t : Tok} {y : Str} : (Value.str x t).isStr y = decide (y = x) := by
  unfold Value.isStr
  by_cases h : y = x
  · subst h; simp
  · have : (x == y) = false := by simp; exact fun e => h e.symm
    simp [h, this]
theorem isStr_both {v : Value} {x y : Str} (h : v.isStr x = true) : v.isStr y = decide (y = x) := by
  cases v <;> simp only [Value.isStr, Bool.false_eq_true] at h
  rename_i z t
  have : z = x := by simpa using h
  subst this
  exact isStr_iff
theorem putL_look (name : Str) (hsh : Int) (t : Tok) (v : Value) (x : Str) : ∀ es : List DictEntry, ((putL name hsh (.str name t) v es).find? (·.key.isStr x)).map (·.val) = if x = name then some v else (es.find? (·.key.isStr x)).map (·.val)
  | [] => by
    unfold putL
    rw [List.find?_cons, isStr_iff]
    by_cases h : x = name <;> simp [h]
  | e :: r => by
    unfold putL
    split
    · rename_i q
      rw [List.find?_cons, List.find?_cons, isStr_both q]
      by_cases h : x = name <;> simp [h]
    · rename_i q
      rw [List.find?_cons, List.find?_cons, putL_look_aux q]
      have ih := putL_look name hsh t v x r
      by_cases h : x = name
      · subst h
        simp only [Bool.not_eq_true] at q
        rw [q]
        simpa using ih
      · cases e.key.isStr x
        · simpa [h] using ih
        · simp [h]
where
  putL_look_aux {e : DictEntry} {name x : Str} (_ : ¬ e.key.isStr name = true) : e.key.isStr x = e.key.isStr x := rfl
theorem W_setL {Q : Unit → Fld → Led → Prop} {o C d : Addr} {f : Fld} {n n' t t' : Nat} {name : Str} (hx : led o = some (t, .inst C d)) (hd : led d = some (t', .attrs f n)) (hk : okSet (tpx.heap_39 G.w.params) C name = true)
    (hn : ∀ es : List DictEntry, es.length ≤ n → (∀ x, (es.find? (·.key.isStr x)).map (·.val) = f x) → ∀ hsh key, (putL name hsh key v es).length ≤ n') (hn' : n' ≤ 900)
    (q : Q () m (up led d (t', .attrs (fup f name v) n'))) : W G A stk L m led (setAttr (.ref o) name v) Q E := fun h tk I => by
  obtain ⟨es, k, e, hl, _, hr, hf⟩ := (I.led d t' _ hd).1
  obtain ⟨hk, k4⟩ := Bool.and_eq_true_iff.mp hk
  obtain ⟨hk, k3⟩ := Bool.and_eq_true_iff.mp hk
  obtain ⟨k1, k2⟩ := Bool.and_eq_true_iff.mp hk
  have Ix := inst_at (I.led o t _ hx).1 e
  obtain ⟨pre, post, es0, hp, hq⟩ := allN_split e (I.neL hd) (I.old hd)
  have X := G.X.keeps I.keep
  have hz := hn es hl hf (PyData.keyHash G.w.params name) (.str name (tk + 1))
  refine set_plain X Ix (beq_iff_eq.mp k1) (osa_dict (s := G.sh h (tk + 1)) (h₀ := G.base) (L := L) (m := m) (n := putN name es k) I.fr (es0 ▸ allN_news) X Ix rfl k2 (beq_iff_eq.mp k3) k4
    (by rw [lookIn_dict, getL_of hr hf]; rfl) hp hq (by rw [putName_dict]) rfl (Nat.le_trans hz (Nat.le_trans hn' (by decide))) fun h' F' N' => ?_)
  obtain ⟨k5, k6⟩ := split_kept I.fr es0 F' N'
  exact ⟨h', tk + 2, m, _, rfl, I.put hd F'.ns k5 (show Rep G h' d (.attrs (fup f name v) n') from ⟨_, _, k6, hz, hn', putL_refKey _ _ _ _ _ hr, fun x => by rw [putL_look]; unfold fup; rw [hf]⟩), q⟩
theorem W_setNew {Q : Unit → Fld → Led → Prop} {o C d : Addr} {f : Fld} {n t t' : Nat} {name : Str} (hx : led o = some (t, .inst C d)) (hd : led d = some (t', .attrs f n)) (hk : okSet (tpx.heap_39 G.w.params) C name = true) (hn : n + 1 ≤ 900)
    (q : Q () m (up led d (t', .attrs (fup f name v) (n + 1)))) : W G A stk L m led (setAttr (.ref o) name v) Q E :=
  W_setL hx hd hk (fun es hl _ _ _ => Nat.le_trans (putL_length _ _ _ _ _) (Nat.succ_le_succ hl)) hn q
theorem W_setOld {Q : Unit → Fld → Led → Prop} {o C d : Addr} {f : Fld} {n t t' : Nat} {name : Str} {v0 : Value} (hx : led o = some (t, .inst C d)) (hd : led d = some (t', .attrs f n)) (hk : okSet (tpx.heap_39 G.w.params) C name = true) (ho : f name = some v0)
    (q : Q () m (up led d (t', .attrs (fup f name v) n))) : W G A stk L m led (setAttr (.ref o) name v) Q E := fun h tk I => by
  have hn : n ≤ 900 := by
    obtain ⟨es, k, e, hl, hz, hr, hf⟩ := (I.led d t' _ hd).1
    exact hz
  exact W_setL hx hd hk (fun es hl hf _ _ => by rw [putL_length_old _ _ _ _ _ (by have := hf name; rw [ho] at this; cases z : es.find? (·.key.isStr name) with | none => rw [z] at this; cases this | some _ => rfl)]; exact hl) hn q h tk I
end rules
section rules
variable {G : Gd} {A : Around} {stk : List (Addr × Hid)} {L : Addr} {m : Fld} {led : Led} {α β : Type} {E : Value → Shared → Prop}
variable {cn : Str} {cs : Scope} {a : Addr} {ccd : Value} {cl : List (Str × Addr)} {x : Str} {pos : Pos} {v : Value} {env : Env}
/- statements -/
noncomputable def AfterS (G : Gd) (A : Around) (stk : List (Addr × Hid)) (L : Addr) (rest : List Stmt) (env : Env) (Q : Flow → Fld → Led → Prop) (E : Value → Shared → Prop) (f : Flow) (m : Fld) (led : Led) : Prop := match f with
  | .next => W G A stk L m led (execs rest env) Q E
  | f => Q f m led
theorem W_cons {Q : Flow → Fld → Led → Prop} {st : Stmt} {rest : List Stmt} (H : W G A stk L m led (exec st env) (AfterS G A stk L rest env Q E) E) : W G A stk L m led (execs (st :: rest) env) Q E :=
  fun _ _ I => wpAny_execs_cons (H.use I fun f h' tk' _ _ I' q => by cases f <;> first | exact q h' tk' I' | exact ⟨_, _, _, _, rfl, I', q⟩)
theorem W_nil {Q : Flow → Fld → Led → Prop} (q : Q .next m led) : W G A stk L m led (execs [] env) Q E := fun _ _ I => wpAny_execs_nil ⟨_, _, _, _, rfl, I, q⟩
theorem W_store {Q : Unit → Fld → Led → Prop} (q : Q () (fup m x v) led) (hk : cs.kind = .function := by rfl) (hx : (envX cn cs L a ccd cl).kindOf x = some .local := by rfl) :
    W G A stk L m led (storeName (envX cn cs L a ccd cl) x v) Q E := fun h tk I =>
  wpAny_storeName_local hx I.ns (fun h' hn hs => ⟨h', tk + 1, _, led, rfl, I.top hn fun b o e hb => (hs.2 b hb).trans e, q⟩) (by show (cs.kind == .class || (cs.kind == .module && L != mainGlobals)) = false; rw [hk]; rfl)
theorem W_assignN {Q : Flow → Fld → Led → Prop} {p' : Pos} {e : Expr} (H : W G A stk L m led (eval e env) (fun v m1 led1 => W G A stk L m1 led1 (storeName env x v) (fun _ => Q .next) E) E) (hs : swapsWith e (some (.Name x p')) pos.line env = pure false := by rfl) :
    W G A stk L m led (exec (.Assign [.Name x p'] e pos) env) Q E := fun _ _ I => wpAny_Assign_Name (H.use I fun _ h' tk' _ _ I' q => q h' tk' I') hs
theorem W_assignA {Q : Flow → Fld → Led → Prop} {p' : Pos} {o e : Expr} {attr : Str} (H : W G A stk L m led (eval e env) (fun v m1 led1 => W G A stk L m1 led1 (eval o env) (fun ov m2 led2 => W G A stk L m2 led2 (setAttr ov attr v) (fun _ => Q .next) E) E) E)
    (hs : swapsWith e (some (.Attribute o attr p')) pos.line env = pure false := by rfl) :
    W G A stk L m led (exec (.Assign [.Attribute o attr p'] e pos) env) Q E := fun _ _ I => plainObj_wpAny_Assign_Attribute (H.use I fun _ h' tk' _ _ I' q => q.use I' fun _ h' tk' _ _ I' q => q h' tk' I') hs
theorem W_assignI {Q : Flow → Fld → Led → Prop} {p' : Pos} {o i e : Expr} (H : W G A stk L m led (eval e env) (fun v m1 led1 => W G A stk L m1 led1 (eval o env) (fun ov m2 led2 => W G A stk L m2 led2 (eval i env) (fun iv m3 led3 => W G A stk L m3 led3 (setItem ov iv v) (fun _ => Q .next) E) E) E) E)
    (hs : swapsWith e (some (.Subscript o i p')) pos.line env = pure false := by rfl) :
    W G A stk L m led (exec (.Assign [.Subscript o i p'] e pos) env) Q E := fun _ _ I => wpAny_Assign_Subscript (H.use I fun _ h' tk' _ _ I' q => q.use I' fun _ h' tk' _ _ I' q => q.use I' fun _ h' tk' _ _ I' q => q h' tk' I') hs
theorem W_augA {Q : Flow → Fld → Led → Prop} {p' : Pos} {o e : Expr} {attr : Str} {op : Operator} (H : W G A stk L m led (eval o env) (fun ov m1 led1 => W G A stk L m1 led1 (getAttr ov attr true) (fun old m2 led2 => W G A stk L m2 led2 (eval e env) (fun v m3 led3 => W G A stk L m3 led3 (inplaceOp op old v)
      (fun new m4 led4 => W G A stk L m4 led4 (setAttr ov attr new) (fun _ => Q .next) E) E) E) E) E) :
    W G A stk L m led (exec (.AugAssign (.Attribute o attr p') op e pos) env) Q E := fun _ _ I => wpAny_AugAssign_AttributeAny (H.use I fun _ h' tk' _ _ I' q => q.use I' fun _ h' tk' _ _ I' q => q.use I' fun _ h' tk' _ _ I' q => q.use I' fun _ h' tk' _ _ I' q => q h' tk' I')
theorem W_ret {Q : Flow → Fld → Led → Prop} {e : Expr} (H : W G A stk L m led (eval e env) (fun v => Q (.ret v)) E) : W G A stk L m led (exec (.Return (some e) pos) env) Q E := fun _ _ I => wpAny_Return_some (H _ _ I)
theorem W_ret0 {Q : Flow → Fld → Led → Prop} (q : Q (.ret .none) m led) : W G A stk L m led (exec (.Return none pos) env) Q E := fun _ _ I => wpAny_Return_none ⟨_, _, _, _, rfl, I, q⟩
theorem W_cont {Q : Flow → Fld → Led → Prop} (q : Q .cont m led) : W G A stk L m led (exec (.Continue pos) env) Q E := fun _ _ I => wpAny_Continue ⟨_, _, _, _, rfl, I, q⟩
noncomputable def IfS (G : Gd) (A : Around) (stk : List (Addr × Hid)) (L : Addr) (body orelse : List Stmt) (env : Env) (Q : Flow → Fld → Led → Prop) (E : Value → Shared → Prop) (b : Bool) (m : Fld) (led : Led) : Prop := match b with
  | true => W G A stk L m led (execs body env) Q E
  | false => W G A stk L m led (execs orelse env) Q E
theorem W_if {Q : Flow → Fld → Led → Prop} {test : Expr} {body orelse : List Stmt} (H : W G A stk L m led (PySem.isTrue test env (eval test env)) (IfS G A stk L body orelse env Q E) E) : W G A stk L m led (exec (.If test body orelse pos) env) Q E :=
  fun _ _ I => wpAny_If (H.use I fun b h' tk' _ _ I' q => by cases b <;> exact q h' tk' I')
/- tests -/
theorem W_tcmp {Q : Bool → Fld → Led → Prop} {l r : Expr} {op : CmpOp} {whole : Sem Value} (H : W G A stk L m led (eval l env) (fun u m1 led1 => W G A stk L m1 led1 (eval r env) (fun v m2 led2 => W G A stk L m2 led2 (compareOp op u v) (fun c m3 led3 => W G A stk L m3 led3 (truthy c) Q E) E) E) E)
    (hb : behindInMarks op r = false := by rfl) : W G A stk L m led (PySem.isTrue (.Compare l [op] [r] pos) env whole) Q E := fun _ _ I => wpAny_isTrue_Compare1 (H.use I fun _ h' tk' _ _ I' q => q.use I' fun _ h' tk' _ _ I' q => q.use I' fun _ h' tk' _ _ I' q => q h' tk' I') hb
theorem W_tnot {Q : Bool → Fld → Led → Prop} {e : Expr} {whole : Sem Value} (H : W G A stk L m led (PySem.isTrue e env (eval e env)) (fun b => Q (!b)) E) : W G A stk L m led (PySem.isTrue (.UnaryOp .Not e pos) env whole) Q E := fun _ _ I => isTrue_not (H _ _ I)
theorem W_tplain {Q : Bool → Fld → Led → Prop} {e : Expr} {whole : Sem Value} (H : W G A stk L m led whole (fun c m1 led1 => W G A stk L m1 led1 (truthy c) Q E) E)
    (he : PySem.isTrue e env whole = (do let v ← whole; standAt e.pos; holding [v] (truthy v)) := by rfl) : W G A stk L m led (PySem.isTrue e env whole) Q E := fun _ _ I => isTrue_plain (H.use I fun _ h' tk' _ _ I' q => q h' tk' I') he
theorem W_truthyB {Q : Bool → Fld → Led → Prop} {b : Bool} (q : Q b m led) : W G A stk L m led (truthy (.bool b)) Q E := fun _ _ I => wpAny_truthy_bool ⟨_, _, _, _, rfl, I, q⟩
/- operators -/
theorem W_binop {Q : Value → Fld → Led → Prop} {l r : Expr} {op : Operator} (H : W G A stk L m led (eval l env) (fun u m1 led1 => W G A stk L m1 led1 (eval r env) (fun v m2 led2 => W G A stk L m2 led2 (binaryOp op u v) Q E) E) E) : W G A stk L m led (eval (.BinOp l op r pos) env) Q E :=
  fun _ _ I => wpAny_BinOp (H.use I fun _ h' tk' _ _ I' q => q.use I' fun _ h' tk' _ _ I' q => q h' tk' I')
theorem W_cmp {Q : Value → Fld → Led → Prop} {l r : Expr} {op : CmpOp} (H : W G A stk L m led (eval l env) (fun u m1 led1 => W G A stk L m1 led1 (eval r env) (fun v m2 led2 => W G A stk L m2 led2 (compareOp op u v) Q E) E) E) (hb : behindInMarks op r = false := by rfl) :
    W G A stk L m led (eval (.Compare l [op] [r] pos) env) Q E := fun _ _ I => wpAny_Compare1 (H.use I fun _ h' tk' _ _ I' q => q.use I' fun _ h' tk' _ _ I' q => q h' tk' I') hb
theorem W_addI {Q : Value → Fld → Led → Prop} {i j : Int} {t u : Tok} (q : ∀ t, Q (.int (i + j) t) m led) : W G A stk L m led (binaryOp .Add (.int i t) (.int j u)) Q E := fun _ tk I => add_int ⟨_, tk + 1, _, _, rfl, I, q _⟩
theorem W_subI {Q : Value → Fld → Led → Prop} {i j : Int} {t u : Tok} (q : ∀ t, Q (.int (i - j) t) m led) : W G A stk L m led (binaryOp .Sub (.int i t) (.int j u)) Q E := fun _ tk I => sub_int ⟨_, tk + 1, _, _, rfl, I, q _⟩
theorem W_modI {Q : Value → Fld → Led → Prop} {i j : Int} {t u : Tok} (hj : j ≠ 0) (q : ∀ t, Q (.int (i.fmod j) t) m led) : W G A stk L m led (binaryOp .Mod (.int i t) (.int j u)) Q E := fun _ tk I => mod_int hj ⟨_, tk + 1, _, _, rfl, I, q _⟩
theorem W_divI {Q : Value → Fld → Led → Prop} {i j : Int} {t u : Tok} (hj : j ≠ 0) (hp : Builtin.divisionGoesByPylong i j = false) (q : ∀ t, Q (.int (i.fdiv j) t) m led) : W G A stk L m led (binaryOp .FloorDiv (.int i t) (.int j u)) Q E :=
  fun _ tk I => floordiv_int hj ⟨_, tk + 1, _, _, rfl, I, q _⟩ (.inl hp)
theorem W_iaddI {Q : Value → Fld → Led → Prop} {i j : Int} {t u : Tok} (q : ∀ t, Q (.int (i + j) t) m led) : W G A stk L m led (inplaceOp .Add (.int i t) (.int j u)) Q E := fun _ tk I => iadd_int ⟨_, tk + 1, _, _, rfl, I, q _⟩
theorem W_addS {Q : Value → Fld → Led → Prop} {y z : Str} {t u : Tok} (hz : y.length + z.length ≤ 100000) (q : ∀ t, Q (.str (y ++ z) t) m led) : W G A stk L m led (binaryOp .Add (.str y t) (.str z u)) Q E :=
  fun _ tk I => add_str (fun t' tk' => ⟨_, tk', _, _, rfl, I, q _⟩) (Nat.le_trans hz (by rw [sizeLine_eq]; decide))
theorem W_eqI {Q : Value → Fld → Led → Prop} {i j : Int} {t u : Tok} (q : Q (.bool (i == j)) m led) : W G A stk L m led (compareOp .Eq (.int i t) (.int j u)) Q E := fun _ tk I => eq_int ⟨_, _, _, _, rfl, I, q⟩
theorem W_neI {Q : Value → Fld → Led → Prop} {i j : Int} {t u : Tok} (q : Q (.bool (i != j)) m led) : W G A stk L m led (compareOp .NotEq (.int i t) (.int j u)) Q E := fun _ tk I => ne_int ⟨_, _, _, _, rfl, I, q⟩
theorem W_gtI {Q : Value → Fld → Led → Prop} {i j : Int} {t u : Tok} (q : Q (.bool (decide (j < i))) m led) : W G A stk L m led (compareOp .Gt (.int i t) (.int j u)) Q E := fun _ tk I => gt_int ⟨_, _, _, _, rfl, I, q⟩
theorem W_eqS {Q : Value → Fld → Led → Prop} {y z : Str} {t u : Tok} (q : Q (.bool (y == z)) m led) : W G A stk L m led (compareOp .Eq (.str y t) (.str z u)) Q E := fun _ tk I => eq_str ⟨_, _, _, _, rfl, I, q⟩
theorem W_is {Q : Value → Fld → Led → Prop} {u v : Value} (hp : plainIs u v = true) (q : Q (.bool (u == v)) m led) : W G A stk L m led (compareOp .Is u v) Q E := fun _ tk I => wpAny_is_plain hp ⟨_, _, _, _, rfl, I, q⟩
theorem W_isNot {Q : Value → Fld → Led → Prop} {u v : Value} (hp : plainIs u v = true) (q : Q (.bool (!(u == v))) m led) : W G A stk L m led (compareOp .IsNot u v) Q E := fun _ tk I => wpAny_isNot_plain hp ⟨_, _, _, _, rfl, I, q⟩
/- displays -/
theorem W_args {Q : List Value → Fld → Led → Prop} {e : Expr} {rest : List Expr} (H : W G A stk L m led (eval e env) (fun v m1 led1 => W G A stk L m1 led1 (spliced (backTo pos (starEach rest env))) (fun vs => Q (v :: vs)) E) E)
    (he : starEach (e :: rest) env = (false, eval e env) :: starEach rest env := by rfl) : W G A stk L m led (spliced (backTo pos (starEach (e :: rest) env))) Q E := fun _ _ I => args_cons (H.use I fun _ h' tk' _ _ I' q => q h' tk' I') he
theorem W_args0 {Q : List Value → Fld → Led → Prop} (q : Q [] m led) : W G A stk L m led (spliced (backTo pos (starEach [] env))) Q E := fun _ _ I => args_nil ⟨_, _, _, _, rfl, I, q⟩
noncomputable def NewAt (led : Led) (e : Nat × AO) (P : Addr → Led → Prop) : Prop := ∀ a, led a = none → P a (up led a e)
theorem W_newList {Q : Value → Fld → Led → Prop} {vs : List Value} (t : Nat) (hz : vs.length ≤ 1000) (q : NewAt led (t, .list vs) fun a led' => Q (.ref a) m led') : W G A stk L m led (newList vs) Q E := fun h tk I => by
  have hz' : vs.length ≤ sizeLine := Nat.le_trans hz (by rw [sizeLine_eq]; decide)
  obtain ⟨n, I'⟩ := I.new (h' := h.push { cls := .type "list", data := .seq vs.toArray }) (t := t) (o := .list vs) (Nat.le_refl _) (fun b x e => Heap.get?_push_of_some _ e) ⟨_, _, Heap.get?_push_size _ rfl, rfl, rfl, rfl⟩
  exact wpAny_newObj_type ⟨_, tk, _, _, rfl, I', q _ n⟩ (by show vs.toArray.size ≤ sizeLine; simpa using hz')
theorem W_newTup {Q : Value → Fld → Led → Prop} {vs : List Value} (t : Nat) (hz : vs.length ≤ 1000) (q : NewAt led (t, .tup vs) fun a led' => Q (.ref a) m led') : W G A stk L m led (newTuple vs) Q E := fun h tk I => by
  have hz' : vs.length ≤ sizeLine := Nat.le_trans hz (by rw [sizeLine_eq]; decide)
  obtain ⟨n, I'⟩ := I.new (h' := h.push { cls := .type "tuple", data := .seq vs.toArray }) (t := t) (o := .tup vs) (Nat.le_refl _) (fun b x e => Heap.get?_push_of_some _ e) ⟨_, Heap.get?_push_size _ rfl, rfl, _, rfl⟩
  exact wpAny_newObj_type ⟨_, tk, _, _, rfl, I', q _ n⟩ (by show vs.toArray.size ≤ sizeLine; simpa using hz')
theorem W_list {Q : Value → Fld → Led → Prop} {es : List Expr} (t : Nat) (H : W G A stk L m led (spliced (backTo pos (starEach es env))) (fun vs m1 led1 => vs.length ≤ 1000 ∧ NewAt led1 (t, .list vs) fun a led' => Q (.ref a) m1 led') E) : W G A stk L m led (eval (.List es pos) env) Q E :=
  fun _ _ I => List_ (H.use I fun _ h' tk' _ _ I' q => W_newList t q.1 q.2 h' tk' I')
theorem W_tup {Q : Value → Fld → Led → Prop} {es : List Expr} {k : Nat} (t : Nat) (H : W G A stk L m led (spliced (backTo pos (starEach es env))) (fun vs m1 led1 => vs.length ≤ 1000 ∧ NewAt led1 (t, .tup vs) fun a led' => Q (.ref a) m1 led') E) : W G A stk L m led (eval (.Tuple es k pos) env) Q E :=
  fun _ _ I => Tuple_ (H.use I fun _ h' tk' _ _ I' q => W_newTup t q.1 q.2 h' tk' I')
theorem Gd.low (G : Gd) : sysModules < G.base.objs.size := modules_low G.T.nolimit
theorem dictOf_nil {K : Type} [DecidableEq K] {knd : PySem.KeyKind G.prog G.w K} {h : Heap} {d : Addr} {o : Obj} (e : h.get? d = some o) (hd : o.IsDictOf knd []) : h.DictOf knd d [] := Heap.dictOf_iff.mpr ⟨o, e, hd⟩
theorem W_dict0 {Q : Value → Fld → Led → Prop} (t : Nat) (q : NewAt led (t, .sd (fun _ => none) 0) fun a led' => Q (.ref a) m led') : W G A stk L m led (eval (.Dict [] [] pos) env) Q E := fun h tk I =>
  Dict_empty_made2 I.fr allN_news G.low fun h' o F' N' hsy hd _ _ _ _ => by
    have k := allN_kept I.fr F' fun p hp => N' p (List.mem_cons_of_mem _ hp)
    have e := (N' (_, o) (.head _)).1
    have I1 := I.top F'.ns k
    obtain ⟨n, I'⟩ := Inv.new' I1 (t := t) (o := .sd (fun _ => none) 0) (h := h) (Nat.le_refl _) I ⟨[], dictOf_nil e hd, Nat.le_refl _, by decide, hsy, fun x => rfl⟩
    exact ⟨_, tk, _, _, rfl, I', q _ n⟩
theorem W_idict0 {Q : Value → Fld → Led → Prop} (t : Nat) (q : NewAt led (t, .idict (fun _ => none) 0) fun a led' => Q (.ref a) m led') : W G A stk L m led (eval (.Dict [] [] pos) env) Q E := fun h tk I =>
  Dict_empty_made2 I.fr allN_news G.low fun h' o F' N' hsy _ _ hd _ _ => by
    have k := allN_kept I.fr F' fun p hp => N' p (List.mem_cons_of_mem _ hp)
    have e := (N' (_, o) (.head _)).1
    have I1 := I.top F'.ns k
    obtain ⟨n, I'⟩ := Inv.new' I1 (t := t) (o := .idict (fun _ => none) 0) (h := h) (Nat.le_refl _) I ⟨[], dictOf_nil e hd, Nat.le_refl _, by decide, hsy, fun x => rfl⟩
    exact ⟨_, tk, _, _, rfl, I', q _ n⟩
end rules
noncomputable def Res (G : Gd) (stk : List (Addr × Hid)) (L : Addr) (m : Fld) (Q : Value → Led → Prop) (E : Value → Shared → Prop) : Result → Shared → Prop := fun r s' => match r with
  | .ok (.ret v) => ∃ h' tk' led', s' = G.sh h' tk' ∧ Inv G stk L m led' h' ∧ Q v led'
  | .ok _ => False
  | .error e => E e s'
noncomputable def FnC (G : Gd) (A : Around) (stk : List (Addr × Hid)) (L : Addr) (m : Fld) (led : Led) (f : Value) (args : List Value) (Q : Value → Led → Prop) (E : Value → Shared → Prop) : Prop :=
  ∀ h tk, Inv G stk L m led h → codeAny (model G.prog G.w) A (.call f ⟨args, []⟩) (Res G stk L m Q E) (G.sh h tk)
noncomputable def retOf (fl : Flow) : Value := match fl with | .ret v => v | _ => .none
noncomputable def Leav (G : Gd) (A : Around) (env : Env) (E : Value → Shared → Prop) (e : Value) (s' : Shared) : Prop :=
  wpAny (model G.prog G.w) (A.deeper env) (leaving env e) (fun _ s'' => E e s'') (fun e' s'' => E e' s'') s'
section rules
variable {G : Gd} {A : Around} {stk : List (Addr × Hid)} {L : Addr} {m : Fld} {led : Led} {α β : Type} {E : Value → Shared → Prop}
variable {cn : Str} {cs : Scope} {a : Addr} {ccd : Value} {cl : List (Str × Addr)} {x : Str} {pos : Pos} {v : Value} {env : Env}
theorem FnC.mono {f : Value} {args : List Value} {Q Q' : Value → Led → Prop} (H : FnC G A stk L m led f args Q E) (k : ∀ v led', Q v led' → Q' v led') : FnC G A stk L m led f args Q' E := fun h tk I =>
  codeAny_mono (H h tk I) fun r s' z => by
    rcases r with e | (v | _ | _ | _)
    · exact z
    all_goals first | exact z.elim | (obtain ⟨h', tk', led', e, I', q⟩ := z; exact ⟨h', tk', led', e, I', k _ _ q⟩)
theorem W_call {Q : Value → Fld → Led → Prop} {f : Value} {args : List Value} (H : FnC G A stk L m led f args (fun v led' => Q v m led') E) : W G A stk L m led (call f args) Q E := fun h tk I =>
  wpAny_call (codeAny_mono (H h tk I) fun r s' z => by
    rcases r with e | (v | _ | _ | _)
    · exact z
    all_goals first | exact z.elim | (obtain ⟨h', tk', led', e, I', q⟩ := z; exact ⟨h', tk', m, led', e, I', q⟩))
theorem Inv.push {h h₁ : Heap} {b : Fld} (I : Inv G stk L m led h) (hn : h₁.Ns h.objs.size b) (hk : ∀ c o, h.get? c = some o → h₁.get? c = some o) : Inv G ((L, .fr m) :: stk) h.objs.size b led h₁ := by
  refine ⟨fun c o e => hk c o (I.keep c o e), hn, I.lt, ?_, ?_, ?_⟩
  · refine List.nodup_cons.mpr ⟨fun hm => ?_, I.nd⟩
    rcases List.mem_cons.mp hm with z | z
    · exact absurd I.ns.lt (z ▸ Nat.lt_irrefl _)
    · obtain ⟨p, hp, z⟩ := List.mem_map.mp z
      exact absurd (Heap.lt_size (I.sk p hp).1.some.choose_spec) (z ▸ Nat.lt_irrefl _)
  · intro p hp
    rcases List.mem_cons.mp hp with rfl | hp
    · exact ⟨⟨ns_at I.ns fun o e => hk _ o e, I.above⟩, none_of_ge I.above⟩
    · exact ⟨(I.sk p hp).1.at fun o e => hk _ o e, (I.sk p hp).2⟩
  · intro c t o e
    obtain ⟨h1, h2, h3⟩ := I.led c t o e
    refine ⟨h1.at fun y hy => hk _ y hy, h2, fun hm => ?_⟩
    rcases List.mem_cons.mp hm with z | z
    · obtain ⟨y, hy⟩ := h1.some
      exact absurd (Heap.lt_size hy) (z ▸ Nat.lt_irrefl _)
    · exact h3 z
theorem Inv.pop {h : Heap} {L' : Addr} {b : Fld} (I : Inv G ((L, .fr m) :: stk) L' b led h) : Inv G stk L m led h :=
  ⟨I.keep, (I.sk _ (.head _)).1.1, (I.sk _ (.head _)).1.2, (List.nodup_cons.mp I.nd).2, fun p hp => I.sk p (.tail _ hp), fun c t o e => ⟨(I.led c t o e).1, (I.led c t o e).2.1, fun hm => (I.led c t o e).2.2 (.tail _ hm)⟩⟩
theorem Fn_def {Q : Value → Led → Prop} {name qual : Str} {params : Arguments} {body : List Stmt} {scope : Scope} {dV kV doc pm cdv ct oc : Value} {an od : Option Addr} {osl : Array (Option Value)} {f : Addr} {args : List Value} {binds : List (Str × Value)}
    (ho : (tpx.heap_39 G.w.params).lookup f = some ⟨oc, od, .func (fnOf name qual params body scope dV kV doc pm an cdv ct), osl⟩) (hcd : codeIn (tpx.heap_39 G.w.params) cdv qual = true) (hroom : A.depth < recursionLimit)
    (hbind : ∀ s : Shared, (tpx.heap_39 G.w.params).In s.heap → BindsTo s (fnOf name qual params body scope dV kV doc pm an cdv ct) ⟨args, []⟩ binds) (hloc : ∀ y ∈ binds, scope.names.lookup y.1 = some .local)
    (H : ∀ L', W G (A.deeper (envX qual scope L' f cdv [])) ((L, .fr m) :: stk) L' (fun y => binds.reverse.lookup y) led (execs body (envX qual scope L' f cdv [])) (fun fl _ led' => Q (retOf fl) led') (Leav G A (envX qual scope L' f cdv []) E))
    (hco : scope.isCoroutine = false := by rfl) (hgen : scope.isGenerator = false := by rfl) (hk : scope.kind = .function := by rfl) (hcell : ∀ x ∈ scope.names, x.2 ≠ .cell := by decide) :
    FnC G A stk L m led (.ref f) args Q E := fun h tk I => by
  have X := G.X.keeps I.keep
  refine codeAny_call_def (fd := fnOf name qual params body scope dV kV doc pm an cdv ct) hroom (X _ _ ho) rfl (G.T.nolimit.keeps I.keep) (codeRec_of X hcd) rfl (hbind _ X) hcell hloc (fun h₁ hn hk₁ => ?_) hco hgen hk
  exact wpAny_mono ((H h.objs.size).use (I.push hn hk₁) fun fl h' tk' m' led' I' q => (⟨h', tk', led', rfl, I'.pop, q⟩ : Res G stk L m Q E (.ok (.ret (retOf fl))) (G.sh h' tk'))) (fun fl s' z => z) fun _ _ z => z
theorem Fn_make {Q : Value → Led → Prop} {C fI : Addr} {args : List Value} (tx td : Nat) (hm : makesIn (tpx.heap_39 G.w.params) C = true) (hi : findIn (tpx.heap_39 G.w.params) (.ref C) "__init__" = some (some (.ref fI))) (hf : isFn (tpx.heap_39 G.w.params) (.ref fI) = true)
    (H : ∀ x d, led x = none → led d = none → x ≠ d →
      FnC G (A.under (.builtin "type.__call__" ⟨.ref C :: args, []⟩)) stk L m (up (up led d (td, .attrs (fun _ => none) 0)) x (tx, .inst C d)) (.ref fI) (.ref x :: args) (fun v led' => v = .none ∧ Q (.ref x) led') E) :
    FnC G A stk L m led (.ref C) args Q E := fun h tk I =>
  W.make_K I.fr allN_news (G.X.keeps I.keep) hm hi (beq_iff_eq.mp hf) fun x dx h' F' N' hlt hlt2 => by
    have k := allN_kept I.fr F' fun p hp => N' p (List.mem_cons_of_mem _ (List.mem_cons_of_mem _ hp))
    have I1 := I.top F'.ns k
    have ex := (N' (x, instObj C dx) (.head _)).1
    have ed := (N' (dx, emptyDict) (.tail _ (.head _))).1
    have fresh : ∀ (z : Addr) (t : Nat) (o : AO), led z = some (t, o) → z < dx := fun z t o e => by
      obtain ⟨y, hy⟩ := (I.led z t o e).1.some
      exact hlt (z, y) (mem_allN hy (I.neL e) (I.old e))
    have none_of : ∀ z : Addr, dx ≤ z → led z = none := fun z hz => by
      cases q : led z with
      | none => rfl
      | some e => exact absurd (fresh z e.1 e.2 q) (Nat.not_lt.mpr hz)
    have offS : ∀ z : Addr, dx ≤ z → z ≠ L → z ∉ L :: stk.map Prod.fst := fun z hz hL hm => by
      rcases List.mem_cons.mp hm with q | q
      · exact hL q
      · obtain ⟨p, hp, q⟩ := List.mem_map.mp q
        obtain ⟨o, ho⟩ := (I.sk p hp).1.some
        have := hlt (p.1, o) (mem_allN ho (I.neLS hp) (I.sk p hp).2)
        exact absurd this (Nat.not_lt.mpr (q ▸ hz))
    have I2 : Inv G stk L m (up led dx (td, .attrs (fun _ => none) 0)) h' := I1.newAt (N' (dx, emptyDict) (.tail _ (.head _))).2.2 (offS dx (Nat.le_refl _) (N' (dx, emptyDict) (.tail _ (.head _))).2.1) ⟨[], 0, ed, Nat.le_refl _, by decide, rfl, fun _ => rfl⟩
    have I3 : Inv G stk L m (up (up led dx (td, .attrs (fun _ => none) 0)) x (tx, .inst C dx)) h' := I2.newAt (N' (x, instObj C dx) (.head _)).2.2 (offS x (Nat.le_of_lt hlt2) (N' (x, instObj C dx) (.head _)).2.1) ex
    refine codeAny_mono (H x dx (none_of x (Nat.le_of_lt hlt2)) (none_of dx (Nat.le_refl _)) (Nat.ne_of_gt hlt2) h' tk I3) fun r s' z => ?_
    rcases r with e | (v | _ | _ | _)
    · exact z
    all_goals first | exact z.elim | (obtain ⟨h', tk', led', e, I', q⟩ := z; exact ⟨q.1, h', tk', led', e, I', q.2⟩)
end rules
section rules
variable {G : Gd} {A : Around} {stk : List (Addr × Hid)} {L : Addr} {m : Fld} {led : Led} {α β : Type} {E : Value → Shared → Prop}
variable {cn : Str} {cs : Scope} {a : Addr} {ccd : Value} {cl : List (Str × Addr)} {x : Str} {pos : Pos} {v : Value} {env : Env}
theorem W_expr {Q : Flow → Fld → Led → Prop} {e : Expr} (H : W G A stk L m led (eval e env) (fun _ => Q .next) E) (h1 : interactive env = false := by rfl) (h2 : swapsWith e none pos.line env = pure false := by rfl) : W G A stk L m led (exec (.Expr e pos) env) Q E :=
  fun _ _ I => wpAny_Expr_any (H _ _ I) h1 h2
theorem W_callE {Q : Value → Fld → Led → Prop} {func : Expr} {args : List Expr} (H : W G A stk L m led (eval func env) (fun f m1 led1 => W G A stk L m1 led1 (callWith pos f [] (backTo pos (starEach args env)) []) Q E) E)
    (he : eval (.Call func args [] pos) env = (do callWith pos (← eval func env) [] (backTo pos (starEach args env)) (backToKw pos (keywordEach [] env))) := by rfl) : W G A stk L m led (eval (.Call func args [] pos) env) Q E :=
  fun _ _ I => Call_ (H.use I fun _ h' tk' _ _ I' q => q h' tk' I') he
theorem W_methE {Q : Value → Fld → Led → Prop} {o : Expr} {name : Str} {ap : Pos} {args : List Expr} {pl : Sem Bool} (H : W G A stk L m led (eval o env) (fun ov m1 led1 => W G A stk L m1 led1 (getMethod ov name pl) (fun fx m2 led2 => W G A stk L m2 led2 (callWith pos fx.1 fx.2 (backTo pos (starEach args env)) []) Q E) E) E)
    (he : eval (.Call (.Attribute o name ap) args [] pos) env = (do let ov ← eval o env; standAt ap.atName; let (f, first) ← holding [ov] (getMethod ov name pl); callWith pos f first (backTo pos (starEach args env)) []) := by rfl) :
    W G A stk L m led (eval (.Call (.Attribute o name ap) args [] pos) env) Q E := fun _ _ I => MethodCall_ (H.use I fun _ h' tk' _ _ I' q => q.use I' fun _ h' tk' _ _ I' q => q h' tk' I') he
theorem W_cwK {Q : Value → Fld → Led → Prop} {f : Value} {first : List Value} {e : Expr} {rest : List Expr} (hk : keepIn (tpx.heap_39 G.w.params) f = true) (H : W G A stk L m led (spliced (backTo pos (starEach (e :: rest) env))) (fun vs m1 led1 => W G A stk L m1 led1 (call f (first ++ vs)) Q E) E)
    (he : starEach (e :: rest) env = (false, eval e env) :: starEach rest env := by rfl) (hp : (backTo pos (starEach rest env)).any (·.1) = false := by rfl) : W G A stk L m led (callWith pos f first (backTo pos (starEach (e :: rest) env)) []) Q E :=
  fun _ _ I => callWith_K (h₀ := G.base) G.X hk (H.use I fun _ h' tk' _ _ I' q => ⟨G.X.keeps I'.keep, q h' tk' I'⟩) he hp
theorem W_cwK0 {Q : Value → Fld → Led → Prop} {f : Value} {first : List Value} (hk : keepIn (tpx.heap_39 G.w.params) f = true) (H : W G A stk L m led (call f (first ++ [])) Q E) : W G A stk L m led (callWith pos f first (backTo pos (starEach [] env)) []) Q E :=
  fun _ _ I => callWith_K0 (G.X.keeps I.keep) hk (H _ _ I)
theorem W_cwB {Q : Value → Fld → Led → Prop} {id : String} {first : List Value} {e : Expr} {rest : List Expr} (H : W G A stk L m led (spliced (backTo pos (starEach (e :: rest) env))) (fun vs m1 led1 => W G A stk L m1 led1 (call (.builtin id) (first ++ vs)) Q E) E)
    (he : starEach (e :: rest) env = (false, eval e env) :: starEach rest env := by rfl) (hp : (backTo pos (starEach rest env)).any (·.1) = false := by rfl) : W G A stk L m led (callWith pos (.builtin id) first (backTo pos (starEach (e :: rest) env)) []) Q E := fun h tk I => by
  have H' := (H.use (tk := tk) I fun _ h' tk' _ _ I' q => q h' tk' I')
  rw [he] at H' ⊢
  exact Calls.callWith_builtin (by show (false || (backTo pos (starEach rest env)).any (·.1)) = false; rw [hp]; rfl) (Calls.evalArgs_plain H')
theorem W_cwT {Q : Value → Fld → Led → Prop} {id : String} {first : List Value} {e : Expr} {rest : List Expr} (H : W G A stk L m led (spliced (backTo pos (starEach (e :: rest) env))) (fun vs m1 led1 => W G A stk L m1 led1 (call (.type id) (first ++ vs)) Q E) E)
    (he : starEach (e :: rest) env = (false, eval e env) :: starEach rest env := by rfl) (hp : (backTo pos (starEach rest env)).any (·.1) = false := by rfl) : W G A stk L m led (callWith pos (.type id) first (backTo pos (starEach (e :: rest) env)) []) Q E := fun h tk I => by
  have H' := (H.use (tk := tk) I (Q' := fun vs s => True ∧ wpAny (model G.prog G.w) A (call (.type id) (first ++ vs)) (fun v s' => ∃ h' tk' m' led', s' = G.sh h' tk' ∧ Inv G stk L m' led' h' ∧ Q v m' led') E s) fun _ h' tk' _ _ I' q => ⟨trivial, q h' tk' I'⟩)
  rw [he] at H' ⊢
  exact callWith_of (P := fun _ => True) (by show ((false || (backTo pos (starEach rest env)).any (·.1)) || false) = false; rw [hp]; rfl) (fun h _ => ⟨.machine, .inr (.inl rfl), Looks.of_pure rfl⟩) (Calls.evalArgs_plain H')
theorem W_methI {Q : Value × List Value → Fld → Led → Prop} {o C d f : Addr} {g : Fld} {n t t' : Nat} {name : Str} {pl : Sem Bool} (hx : led o = some (t, .inst C d)) (hd : led d = some (t', .attrs g n)) (hv : g name = none) (hg : plainGet (tpx.heap_39 G.w.params) C name = true)
    (hf : findIn (tpx.heap_39 G.w.params) (.ref C) name = some (some (.ref f))) (hfn : isFn (tpx.heap_39 G.w.params) (.ref f) = true) (q : Q (.ref f, [.ref o]) m led) : W G A stk L m led (getMethod (.ref o) name pl) Q E := fun h tk I => by
  obtain ⟨es, k, e, _, _, hr, hf'⟩ := (I.led d t' _ hd).1
  exact method_inst I.fr G.X (inst_at (I.led o t _ hx).1 e) hg hf hfn (by rw [getL_of hr hf', hv]) ⟨_, _, _, _, rfl, I, q⟩
theorem W_methL {Q : Value × List Value → Fld → Led → Prop} {o : Addr} {vs : List Value} {t : Nat} {pl : Sem Bool} (hx : led o = some (t, .list vs)) (q : Q (.builtin "list.append", [.ref o]) m led) : W G A stk L m led (getMethod (.ref o) "append" pl) Q E := fun h tk I => by
  obtain ⟨ob, n', e, hc, hdn, hd⟩ := (I.led o t _ hx).1
  exact getMethod_list_append e hc hdn ⟨_, _, _, _, rfl, I, q⟩
theorem methD {K : Type} [DecidableEq K] {knd : PySem.KeyKind G.prog G.w K} {h : Heap} {tk : Nat} {o : Addr} {f : K → Option Value} {name : Str} {id : String} {pl : Sem Bool} {Q : Value × List Value → Shared → Prop} (slot : Slot "dict" name id) (hty : typeOf (.builtin id) = pure (.type "method_descriptor"))
    (T : h.MapOf knd o f) (q : Q (.builtin id, [.ref o]) (G.sh h tk)) : wpAny (model G.prog G.w) A (getMethod (.ref o) name pl) Q E (G.sh h tk) := getMethod_builtin (Heap.MapOf.typeIs (s := G.sh h tk) T) PySem.F.plainAttrs_dict slot hty T.noDict q
theorem W_methS {Q : Value × List Value → Fld → Led → Prop} {o : Addr} {f : Fld} {n t : Nat} {name : Str} {id : String} {pl : Sem Bool} (hx : led o = some (t, .sd f n)) (slot : Slot "dict" name id) (hty : typeOf (.builtin id) = pure (.type "method_descriptor")) (q : Q (.builtin id, [.ref o]) m led) :
    W G A stk L m led (getMethod (.ref o) name pl) Q E := fun h tk I => methD slot hty (I.led o t _ hx).1.choose_spec.1.mapOf ⟨_, _, _, _, rfl, I, q⟩
theorem W_methD {Q : Value × List Value → Fld → Led → Prop} {o : Addr} {f : Int → Option Value} {n t : Nat} {name : Str} {id : String} {pl : Sem Bool} (hx : led o = some (t, .idict f n)) (slot : Slot "dict" name id) (hty : typeOf (.builtin id) = pure (.type "method_descriptor")) (q : Q (.builtin id, [.ref o]) m led) :
    W G A stk L m led (getMethod (.ref o) name pl) Q E := fun h tk I => methD slot hty (I.led o t _ hx).1.choose_spec.1.mapOf ⟨_, _, _, _, rfl, I, q⟩
theorem W_methC {Q : Value × List Value → Fld → Led → Prop} {C : Addr} {mc u : Value} {name : Str} {pl : Sem Bool} (hg : specialIn (tpx.heap_39 G.w.params) (.ref C) "__getattribute__" = some (some (.builtin "type.__getattribute__"))) (hm : typeIn (tpx.heap_39 G.w.params) (.ref C) = some mc) (hr : readsIn (tpx.heap_39 G.w.params) C mc = true)
    (e : findCls (tpx.heap_39 G.w.params) (.ref C) mc name = some (.val u)) (hh : handedIn u = true) (q : Q (u, []) m led) : W G A stk L m led (getMethod (.ref C) name pl) Q E := fun h tk I =>
  method_of_cls I.fr G.X hg (cls_val I.fr G.X hm hr e hh ⟨_, tk + 1, _, _, rfl, I, q⟩)
/- calls of built-in methods -/
theorem W_append {Q : Value → Fld → Led → Prop} {o : Addr} {vs : List Value} {t : Nat} (hx : led o = some (t, .list vs)) (hz : vs.length ≤ 1000) (q : Q .none m (up led o (t, .list (vs ++ [v])))) : W G A stk L m led (call (.builtin "list.append") [.ref o, v]) Q E := fun h tk I =>
  list_append_plainL (s := G.sh h tk) (I.led o t _ hx).1 (fun h' hp hs => ⟨h', tk, m, _, rfl, I.put1 hx hs (show Rep G h' o (.list (vs ++ [v])) from by show PlainL h' o (vs ++ [v]).toArray; rw [← List.push_toArray]; exact hp), q⟩) (Nat.le_trans (by simpa using hz) (by rw [sizeLine_eq]; decide))
theorem W_getS {Q : Value → Fld → Led → Prop} {o : Addr} {f : Fld} {n t : Nat} {y : Str} {u : Tok} {dflt : Value} (hx : led o = some (t, .sd f n)) (q : Q ((f y).getD dflt) m led) : W G A stk L m led (call (.builtin "dict.get") [.ref o, .str y u, dflt]) Q E := fun h tk I => by
  obtain ⟨kvs, hm, hl, hn, hs, hf⟩ := (I.led o t _ hx).1
  exact call_meetsIn PySem.F.slot_dict_get (Heap.MapOf.typeIs (s := G.sh h tk) hm.mapOf) PySem.F.entry_dict_get (PySem.F.args_dict_get_3 _ _ _) (meets_dict_get_default (strKind G.prog G.w) o (strKind_is G.prog G.w y u) hs dflt) ⟨_, hm.mapOf, ⟨_, tk + 1, _, _, rfl, I, hf y ▸ q⟩⟩
theorem W_getI {Q : Value → Fld → Led → Prop} {o : Addr} {f : Int → Option Value} {n t : Nat} {y : Int} {u : Tok} (hx : led o = some (t, .idict f n)) (q : Q ((f y).getD .none) m led) : W G A stk L m led (call (.builtin "dict.get") [.ref o, .int y u]) Q E := fun h tk I => by
  obtain ⟨kvs, hm, hl, hn, hs, hf⟩ := (I.led o t _ hx).1
  exact call_meetsIn PySem.F.slot_dict_get (Heap.MapOf.typeIs (s := G.sh h tk) hm.mapOf) PySem.F.entry_dict_get (PySem.F.args_dict_get_2 _ _) (meets_dict_get (intKind G.prog G.w) o (intKind_is G.prog G.w y u) hs) ⟨_, hm.mapOf, ⟨_, tk + 1, _, _, rfl, I, hf y ▸ q⟩⟩
section stored
variable {K : Type} [DecidableEq K]
theorem valueAt_cons (p : K × Value) (r : List (K × Value)) (x : K) : valueAt (p :: r) x = if p.1 = x then some p.2 else valueAt r x := by
  unfold valueAt
  rw [List.find?_cons]
  by_cases h : p.1 = x <;> simp [h]
theorem valueAt_map (k : K) (v : Value) (x : K) : ∀ kvs : List (K × Value), valueAt (kvs.map fun kv => if kv.1 = k then (kv.1, v) else kv) x = if x = k then (valueAt kvs x).map fun _ => v else valueAt kvs x
  | [] => by simp [valueAt]
  | p :: r => by
    rw [List.map_cons, valueAt_cons, valueAt_cons, valueAt_map k v x r]
    by_cases h1 : p.1 = k <;> by_cases h2 : p.1 = x
    · have : x = k := h2 ▸ h1
      simp [h1, this]
    · have h3 : ¬ k = x := fun e => h2 (h1.trans e)
      have h4 : ¬ x = k := fun e => h3 e.symm
      simp [h1, h2, h3, h4]
    · have h4 : ¬ x = k := fun e => h1 (h2.trans e)
      simp [h1, h2, h4]
    · by_cases h4 : x = k <;> simp [h1, h2, h4]
theorem valueAt_any {k : K} : ∀ {kvs : List (K × Value)}, kvs.any (fun kv => kv.1 = k) = (valueAt kvs k).isSome
  | [] => rfl
  | p :: r => by
    rw [valueAt_cons, List.any_cons, valueAt_any (kvs := r)]
    by_cases h : p.1 = k <;> simp [h]
theorem valueAt_stored (kvs : List (K × Value)) (k : K) (v : Value) (x : K) : valueAt (stored kvs k v) x = if x = k then some v else valueAt kvs x := by
  unfold stored
  rw [valueAt_any]
  split
  · rename_i h
    rw [valueAt_map]
    by_cases hx : x = k
    · subst hx
      obtain ⟨u, hu⟩ := Option.isSome_iff_exists.mp h
      simp [hu]
    · simp [hx]
  · rename_i h
    have hn : valueAt kvs k = none := by simpa using h
    have happ : ∀ l : List (K × Value), valueAt (l ++ [(k, v)]) x = match valueAt l x with | some u => some u | none => if k = x then some v else none := by
      intro l
      induction l with
      | nil => rw [List.nil_append, valueAt_cons]; rfl
      | cons p r ih =>
        rw [List.cons_append, valueAt_cons, valueAt_cons, ih]
        by_cases h : p.1 = x <;> simp [h]
    rw [happ]
    by_cases hx : x = k
    · subst hx; simp [hn]
    · have : ¬ k = x := fun e => hx e.symm
      simp only [hx, this, if_false]
      cases valueAt kvs x <;> rfl
theorem stored_old {kvs : List (K × Value)} {k : K} {v u : Value} (h : valueAt kvs k = some u) : (stored kvs k v).length = kvs.length := by
  unfold stored
  rw [valueAt_any, h]
  simp
end stored
noncomputable def iup (f : Int → Option Value) (x : Int) (v : Value) : Int → Option Value := fun y => if y = x then some v else f y
theorem iup_eq (f : Int → Option Value) (x : Int) (v : Value) : iup f x v x = some v := by simp [iup]
theorem iup_ne {f : Int → Option Value} {x y : Int} {v : Value} (h : y ≠ x) : iup f x v y = f y := by simp [iup, h]
theorem W_setS {Q : Unit → Fld → Led → Prop} {o : Addr} {f : Fld} {n t : Nat} {y : Str} {u : Tok} (hx : led o = some (t, .sd f n)) (hn : n + 1 ≤ 900) (q : Q () m (up led o (t, .sd (fup f y v) (n + 1)))) : W G A stk L m led (setItem (.ref o) (.str y u) v) Q E := fun h tk I => by
  obtain ⟨kvs, hm, hl, hn', hs, hf⟩ := (I.led o t _ hx).1
  exact wpAny_setItem_pairs (s := G.sh h tk) (strKind_is G.prog G.w y u) hm (fun h' hm' hs' => ⟨h', tk + 1, m, _, rfl, I.put1 hx hs' (show Rep G h' o (.sd (fup f y v) (n + 1)) from
    ⟨_, hm', Nat.le_trans (stored_length_le _ _ _) (Nat.succ_le_succ hl), hn, hs, fun x => by rw [valueAt_stored, hf]; rfl⟩), q⟩) (Nat.le_trans hl (Nat.le_trans hn' (by rw [sizeLine_eq]; decide)))
theorem W_setSold {Q : Unit → Fld → Led → Prop} {o : Addr} {f : Fld} {n t : Nat} {y : Str} {u : Tok} {v0 : Value} (hx : led o = some (t, .sd f n)) (hn : f y = some v0) (q : Q () m (up led o (t, .sd (fup f y v) n))) : W G A stk L m led (setItem (.ref o) (.str y u) v) Q E := fun h tk I => by
  obtain ⟨kvs, hm, hl, hn', hs, hf⟩ := (I.led o t _ hx).1
  exact wpAny_setItem_pairs (s := G.sh h tk) (strKind_is G.prog G.w y u) hm (fun h' hm' hs' => ⟨h', tk + 1, m, _, rfl, I.put1 hx hs' (show Rep G h' o (.sd (fup f y v) n) from
    ⟨_, hm', by rw [stored_old ((hf y).trans hn)]; exact hl, hn', hs, fun x => by rw [valueAt_stored, hf]; rfl⟩), q⟩) (Nat.le_trans hl (Nat.le_trans hn' (by rw [sizeLine_eq]; decide)))
/- setdefault where the key is new -/
theorem W_setdefS {Q : Value → Fld → Led → Prop} {o : Addr} {f : Fld} {n t : Nat} {y : Str} {u : Tok} (hx : led o = some (t, .sd f n)) (hy : f y = none) (hn : n + 1 ≤ 900) (q : Q v m (up led o (t, .sd (fup f y v) (n + 1)))) :
    W G A stk L m led (call (.builtin "dict.setdefault") [.ref o, .str y u, v]) Q E := fun h tk I => by
  obtain ⟨kvs, hm, hl, hn', hs, hf⟩ := (I.led o t _ hx).1
  refine call_meetsIn PySem.F.slot_dict_setdefault (Heap.MapOf.typeIs (s := G.sh h tk) hm.mapOf) PySem.F.entry_dict_setdefault (PySem.F.args_dict_setdefault_3 _ _ _) (kt_meets_setdefault (strKind G.prog G.w) o (strKind_is G.prog G.w y u) hs v)
    ⟨kvs, hm, Nat.le_trans hl (Nat.le_trans hn' (by rw [sizeLine_eq]; decide)), fun u' hu => absurd (hu.symm.trans ((hf y).trans hy)) (by simp), fun _ h' hm' hs' => ⟨h', tk + 1, m, _, rfl, I.put1 hx hs' (show Rep G h' o (.sd (fup f y v) (n + 1)) from
      ⟨_, hm', Nat.le_trans (stored_length_le _ _ _) (Nat.succ_le_succ hl), hn, hs, fun x => by rw [valueAt_stored, hf]; rfl⟩), q⟩⟩
theorem W_setdefI {Q : Value → Fld → Led → Prop} {o : Addr} {f : Int → Option Value} {n t : Nat} {y : Int} {u : Tok} (hx : led o = some (t, .idict f n)) (hy : f y = none) (hn : n + 1 ≤ 900) (q : Q v m (up led o (t, .idict (iup f y v) (n + 1)))) :
    W G A stk L m led (call (.builtin "dict.setdefault") [.ref o, .int y u, v]) Q E := fun h tk I => by
  obtain ⟨kvs, hm, hl, hn', hs, hf⟩ := (I.led o t _ hx).1
  refine call_meetsIn PySem.F.slot_dict_setdefault (Heap.MapOf.typeIs (s := G.sh h tk) hm.mapOf) PySem.F.entry_dict_setdefault (PySem.F.args_dict_setdefault_3 _ _ _) (kt_meets_setdefault (intKind G.prog G.w) o (intKind_is G.prog G.w y u) hs v)
    ⟨kvs, hm, Nat.le_trans hl (Nat.le_trans hn' (by rw [sizeLine_eq]; decide)), fun u' hu => absurd (hu.symm.trans ((hf y).trans hy)) (by simp), fun _ h' hm' hs' => ⟨h', tk + 1, m, _, rfl, I.put1 hx hs' (show Rep G h' o (.idict (iup f y v) (n + 1)) from
      ⟨_, hm', Nat.le_trans (stored_length_le _ _ _) (Nat.succ_le_succ hl), hn, hs, fun x => by rw [valueAt_stored, hf]; rfl⟩), q⟩⟩
theorem W_inS {Q : Value → Fld → Led → Prop} {o : Addr} {f : Fld} {n t : Nat} {y : Str} {u : Tok} (hx : led o = some (t, .sd f n)) (q : Q (.bool (f y).isSome) m led) : W G A stk L m led (compareOp .In (.str y u) (.ref o)) Q E := fun h tk I => by
  obtain ⟨kvs, hm, hl, hn', hs, hf⟩ := (I.led o t _ hx).1
  exact wpAny_in_of (strKind_is G.prog G.w y u) hs hm.mapOf ⟨_, tk + 1, _, _, rfl, I, hf y ▸ q⟩
theorem W_notinS {Q : Value → Fld → Led → Prop} {o : Addr} {f : Fld} {n t : Nat} {y : Str} {u : Tok} (hx : led o = some (t, .sd f n)) (q : Q (.bool (!(f y).isSome)) m led) : W G A stk L m led (compareOp .NotIn (.str y u) (.ref o)) Q E := fun h tk I => by
  obtain ⟨kvs, hm, hl, hn', hs, hf⟩ := (I.led o t _ hx).1
  exact wpAny_notIn_of (strKind_is G.prog G.w y u) hs hm.mapOf ⟨_, tk + 1, _, _, rfl, I, hf y ▸ q⟩
theorem W_itemS {Q : Value → Fld → Led → Prop} {o : Addr} {f : Fld} {n t : Nat} {y : Str} {u : Tok} (hx : led o = some (t, .sd f n)) (hv : f y = some v) (q : Q v m led) : W G A stk L m led (getItem (.ref o) (.str y u)) Q E := fun h tk I => by
  obtain ⟨kvs, hm, hl, hn', hs, hf⟩ := (I.led o t _ hx).1
  exact wpAny_getItem_of (strKind_is G.prog G.w y u) hm.mapOf ((hf y).trans hv) ⟨_, tk + 1, _, _, rfl, I, q⟩
end rules
section rules
variable {G : Gd} {A : Around} {stk : List (Addr × Hid)} {L : Addr} {m : Fld} {led : Led} {α β : Type} {E : Value → Shared → Prop}
variable {cn : Str} {cs : Scope} {a : Addr} {ccd : Value} {cl : List (Str × Addr)} {x : Str} {pos : Pos} {v : Value} {env : Env}
/- range -/
theorem W_range1 {Q : Value → Fld → Led → Prop} {n : Int} {u : Tok} (t : Nat) (q : NewAt led (t, .rng 0 n) fun a led' => Q (.ref a) m led') : W G A stk L m led (call (.type "range") [.int n u]) Q E := fun h tk I => by
  obtain ⟨hn, I'⟩ := I.new (h' := h.push { cls := .type "range", data := .fields #[.int 0 tk, .int n u, .int 1 (tk + 1)] }) (t := t) (o := .rng 0 n) (Nat.le_refl _) (fun b x e => Heap.get?_push_of_some _ e) ⟨tk, u, tk + 1, IsRange.new _ _ _ _ _ _ _⟩
  exact call_range_1 (s := G.sh h tk) ⟨_, tk + 1 + 1, _, _, rfl, I', q _ hn⟩
theorem W_range2 {Q : Value → Fld → Led → Prop} {i n : Int} {u u' : Tok} (t : Nat) (q : NewAt led (t, .rng i n) fun a led' => Q (.ref a) m led') : W G A stk L m led (call (.type "range") [.int i u, .int n u']) Q E := fun h tk I => by
  obtain ⟨hn, I'⟩ := I.new (h' := h.push { cls := .type "range", data := .fields #[.int i u, .int n u', .int 1 tk] }) (t := t) (o := .rng i n) (Nat.le_refl _) (fun b x e => Heap.get?_push_of_some _ e) ⟨u, u', tk, IsRange.new _ _ _ _ _ _ _⟩
  exact call_range_2 (s := G.sh h tk) ⟨_, tk + 1, _, _, rfl, I', q _ hn⟩
/- for -/
noncomputable def ForQ (Q : Flow → Fld → Led → Prop) (J : Fld → Led → Prop) (f : Flow) (m : Fld) (led : Led) : Prop := match f with
  | .next | .cont => J m led
  | .brk => Q .next m led
  | .ret v => Q (.ret v) m led
noncomputable def LetGoes (G : Gd) (A : Around) (target : Expr) (v : Value) : Prop := ∀ (I : Addr) (s : Shared) (Q : Unit → Shared → Prop) (E : Value → Shared → Prop), (∃ l i, s.heap.IsListIter I l i) → Q () s → wpAny (model G.prog G.w) A (letOwnedTupleGo target (.ref I) v) Q E s
theorem letGoes_name {y : Str} {p : Pos} : LetGoes G A (.Name y p) v := fun I s Q E _ q => wpAny_pure q
theorem letGoes_tup {es : List Expr} {k : Nat} {p : Pos} {b : Addr} : LetGoes G A (.Tuple es k p) (.ref b) := fun I s Q E ⟨l, i, h⟩ q => wpAny_letOwnedTupleGo_listiter h q
noncomputable def TurnL (G : Gd) (A : Around) (L : Addr) (target : Expr) (body : List Stmt) (env : Env) (Q : Flow → Fld → Led → Prop) (J : Nat → Fld → Led → Prop) (vs : List Value) : Prop :=
  ∀ (stk : List (Addr × Hid)) (E : Value → Shared → Prop) i v m led, vs[i]? = some v → J i m led →
    W G A stk L m led (assign target env v) (fun _ m2 led2 => W G A stk L m2 led2 (execs body env) (ForQ Q (J (i + 1))) E) E
noncomputable def IterL (l : Addr) (i : Nat) (o : Obj) : Prop := o.cls = .type "list_iterator" ∧ o.data = .fields #[.ref l, .int (i : Int) 0]
theorem For_list {Q : Flow → Fld → Led → Prop} {target iter : Expr} {body : List Stmt} (hh : A.handled = none)
    (H : W G A stk L m led (eval iter env) (fun x m1 led1 => ∃ l t vs J, x = .ref l ∧ led1 l = some (t, .list vs) ∧ J 0 m1 led1 ∧ (∀ i m' led', J i m' led' → led' l = some (t, .list vs)) ∧ (∀ v ∈ vs, LetGoes G A target v) ∧
      TurnL G A L target body env Q J vs ∧ ∀ m' led', J vs.length m' led' → Q .next m' led') E)
    (hs : ∀ x, foldedSetIterable iter env x = pure x := by intro _; rfl) : W G A stk L m led (exec (.For target iter body [] pos) env) Q E := fun h tk I => by
  refine wpAny_For (H.use I fun x h1 tk1 m1 led1 I1 q => ?_) hs
  obtain ⟨l, t, vs, J, rfl, hl, h0, hJ, hlet, turn, done⟩ := q
  have hlist : h1.IsList l vs.toArray := PlainL.isList (I1.led l t _ hl).1
  refine wpAny_pyIter_list hlist ?_
  let R : Result → Shared → Prop := fun r s' => match r with | .ok f => (∃ h' tk' m' led', s' = G.sh h' tk' ∧ Inv G stk L m' led' h' ∧ Q f m' led') | .error e => cameBackBy (model G.prog G.w) A env E e s'
  show codeAny (model G.prog G.w) A (.forLoop target (.ref h1.objs.size) body [] env) R _
  refine codeAny_forLoop_any (fun n s => ∃ h' tk' m' led' i, s = G.sh h' tk' ∧ Inv G ((h1.objs.size, .ob (IterL l i)) :: stk) L m' led' h' ∧ J i m' led' ∧ i ≤ vs.length ∧ n = vs.length - i) ?_ (vs.length - 0)
    ⟨_, tk1, m1, led1, 0, rfl, I1.hide (Nat.le_refl _) (fun b x e => Heap.get?_push_of_some _ e) (Heap.get?_push_size _ rfl) ⟨rfl, rfl⟩, h0, Nat.zero_le _, rfl⟩
  rintro n s ⟨h2, tk2, m2, led2, i, rfl, I2, hj, hi, rfl⟩
  obtain ⟨oi, e1, e2, e3⟩ := (I2.sk _ (.head _)).1
  have hit : h2.IsListIter h1.objs.size l i := ⟨oi, e1, e2, e3⟩
  have hl2 : h2.IsList l vs.toArray := PlainL.isList (I2.led l t _ (hJ i m2 led2 hj)).1
  by_cases hlt : i < vs.length
  · have hx : vs[i]? = some vs[i] := List.getElem?_eq_getElem hlt
    refine wpAny_pyNext_list_item hit hl2 (x := vs[i]) (by simpa using hx) fun h3 hit3 hs3 => ?_
    obtain ⟨oj, f1, f2, f3⟩ := hit3
    have I3 : Inv G ((h1.objs.size, .ob (IterL l (i + 1))) :: stk) L m2 led2 h3 := I2.hidTurn (fun b x e hb => (hs3.2 b hb).trans e) f1 ⟨f2, f3⟩
    refine hlet vs[i] (List.getElem_mem hlt) _ _ _ _ ⟨l, i + 1, ⟨oj, f1, f2, f3⟩⟩ ?_
    refine (turn _ _ i vs[i] m2 led2 hx hj).use (tk := tk2) I3 fun _ h4 tk4 m4 led4 I4 q4 => q4.use I4 fun f h5 tk5 m5 led5 I5 q5 => ?_
    cases f with
    | next => exact ⟨_, by omega, h5, tk5, m5, led5, i + 1, rfl, I5, q5, hlt, rfl⟩
    | cont => exact ⟨_, by omega, h5, tk5, m5, led5, i + 1, rfl, I5, q5, hlt, rfl⟩
    | brk => exact ⟨h5, tk5, m5, led5, rfl, I5.bare, q5⟩
    | ret v => exact ⟨h5, tk5, m5, led5, rfl, I5.bare, q5⟩
  · have hi' : i = vs.length := by omega
    subst hi'
    refine wpAny_pyNext_list_end hh hit hl2 (by simp) fun h3 hs3 => ?_
    exact wpAny_execs_nil ⟨h3, tk2, m2, led2, rfl, I2.bare.hidEnd I2 hs3, done m2 led2 hj⟩
noncomputable def TurnR (G : Gd) (A : Around) (L : Addr) (target : Expr) (body : List Stmt) (env : Env) (Q : Flow → Fld → Led → Prop) (J : Nat → Fld → Led → Prop) (a : Int) (n : Nat) : Prop :=
  ∀ (stk : List (Addr × Hid)) (E : Value → Shared → Prop) i t m led, i < n → J i m led →
    W G A stk L m led (assign target env (.int (a + i) t)) (fun _ m2 led2 => W G A stk L m2 led2 (execs body env) (ForQ Q (J (i + 1))) E) E
noncomputable def IterR (x left : Int) (o : Obj) : Prop := o = { cls := .type "range_iterator", dict := none, data := .fields #[rawInt x, rawInt left, rawInt 1], slots := #[] }
theorem For_range {Q : Flow → Fld → Led → Prop} {y : Str} {py : Pos} {iter : Expr} {body : List Stmt} (hh : A.handled = none)
    (H : W G A stk L m led (eval iter env) (fun x m1 led1 => ∃ r t a n J, x = .ref r ∧ led1 r = some (t, .rng a (a + (n : Nat))) ∧ -1000 ≤ a ∧ a ≤ 1000 ∧ n ≤ 1000 ∧ J 0 m1 led1 ∧
      TurnR G A L (.Name y py) body env Q J a n ∧ ∀ m' led', J n m' led' → Q .next m' led') E)
    (hs : ∀ x, foldedSetIterable iter env x = pure x := by intro _; rfl) : W G A stk L m led (exec (.For (.Name y py) iter body [] pos) env) Q E := fun h tk I => by
  refine wpAny_For (H.use I fun x h1 tk1 m1 led1 I1 q => ?_) hs
  obtain ⟨l, t, a, n, J, rfl, hl, ha1, ha2, hn, h0, turn, done⟩ := q
  obtain ⟨u1, u2, u3, hr⟩ := (I1.led l t _ hl).1
  have hz : Builtin.Range.rangeSize a (a + (n : Nat)) 1 = (n : Int) := by
    rw [rangeSize_one]
    by_cases hlt : a < a + (n : Nat)
    · rw [if_pos hlt]; omega
    · rw [if_neg hlt]; omega
  have hsm : Builtin.Range.small a (a + (n : Nat)) 1 = true := by
    unfold Builtin.Range.small
    rw [hz]
    simp
    have fl : ∀ z : Int, -5000 ≤ z → z ≤ 5000 → Builtin.Range.rangeFitsLong z = true := fun z h1 h2 => by simp [Builtin.Range.rangeFitsLong]; omega
    exact ⟨⟨⟨⟨fl _ (by omega) (by omega), fl _ (by omega) (by omega)⟩, fl _ (by omega) (by omega)⟩, fl _ (by omega) (by omega)⟩, .inr (fl _ (by omega) (by omega))⟩
  refine wpAny_pyIter_range hr hsm ?_
  rw [hz]
  let R : Result → Shared → Prop := fun r s' => match r with | .ok f => (∃ h' tk' m' led', s' = G.sh h' tk' ∧ Inv G stk L m' led' h' ∧ Q f m' led') | .error e => cameBackBy (model G.prog G.w) A env E e s'
  show codeAny (model G.prog G.w) A (.forLoop (.Name y py) (.ref h1.objs.size) body [] env) R _
  refine codeAny_forLoop_any (fun k s => ∃ h' tk' m' led' i, s = G.sh h' tk' ∧ Inv G ((h1.objs.size, .ob (IterR (a + (i : Nat)) ((n : Int) - (i : Nat)))) :: stk) L m' led' h' ∧ J i m' led' ∧ i ≤ n ∧ k = n - i) ?_ (n - 0)
    ⟨_, tk1, m1, led1, 0, rfl, I1.hide (Nat.le_refl _) (fun b x e => Heap.get?_push_of_some _ e) (Heap.get?_push_size _ rfl) (by simp [IterR]), h0, Nat.zero_le _, rfl⟩
  rintro k s ⟨h2, tk2, m2, led2, i, rfl, I2, hj, hi, rfl⟩
  obtain ⟨oi, e1, e2⟩ := (I2.sk _ (.head _)).1
  have hit : IsRangeIter h2 h1.objs.size (a + (i : Nat)) ((n : Int) - (i : Nat)) 1 := by rw [e2] at e1; exact e1
  by_cases hlt : i < n
  · refine wpAny_pyNext_range_item (s := G.sh h2 tk2) hit (by omega) fun h3 hit3 hs3 => ?_
    have I3 : Inv G ((h1.objs.size, .ob (IterR (a + ((i + 1 : Nat))) ((n : Int) - ((i + 1 : Nat))))) :: stk) L m2 led2 h3 := I2.hidTurn (fun b x e hb => (hs3.2 b hb).trans e) hit3 (by unfold IterR; rw [show a + ((i + 1 : Nat) : Int) = a + (i : Nat) + 1 by omega, show (n : Int) - ((i + 1 : Nat) : Int) = (n : Int) - (i : Nat) - 1 by omega])
    refine wpAny_pure (a := ()) ?_
    refine (turn _ _ i tk2 m2 led2 hlt hj).use (tk := tk2 + 1) I3 fun _ h4 tk4 m4 led4 I4 q4 => q4.use I4 fun f h5 tk5 m5 led5 I5 q5 => ?_
    cases f with
    | next => exact ⟨_, by omega, h5, tk5, m5, led5, i + 1, rfl, I5, q5, hlt, rfl⟩
    | cont => exact ⟨_, by omega, h5, tk5, m5, led5, i + 1, rfl, I5, q5, hlt, rfl⟩
    | brk => exact ⟨h5, tk5, m5, led5, rfl, I5.bare, q5⟩
    | ret v => exact ⟨h5, tk5, m5, led5, rfl, I5.bare, q5⟩
  · have hi' : i = n := by omega
    subst hi'
    refine wpAny_pyNext_range_end hh hit (by omega) fun h3 hs3 => ?_
    exact wpAny_execs_nil ⟨h3, tk2, m2, led2, rfl, I2.bare.hidEnd I2 hs3, done m2 led2 hj⟩
end rules
section rules
variable {G : Gd} {A : Around} {stk : List (Addr × Hid)} {L : Addr} {m : Fld} {led : Led} {α β : Type} {E : Value → Shared → Prop}
variable {cn : Str} {cs : Scope} {a : Addr} {ccd : Value} {cl : List (Str × Addr)} {x : Str} {pos : Pos} {v : Value} {env : Env}
theorem small_line {n k : Nat} (h : n ≤ k) (hk : k ≤ 1000000) : n ≤ sizeLine := Nat.le_trans h (Nat.le_trans hk (by rw [sizeLine_eq]; decide))
/- subscripts -/
theorem W_sub {Q : Value → Fld → Led → Prop} {value slice : Expr} (H : W G A stk L m led (eval value env) (fun o m1 led1 => W G A stk L m1 led1 (eval slice env) (fun i m2 led2 => W G A stk L m2 led2 (subscriptTail value slice o i) Q E) E) E) : W G A stk L m led (eval (.Subscript value slice pos) env) Q E :=
  fun _ _ I => Subscript_ (H.use I fun _ h' tk' _ _ I' q => q.use I' fun _ h' tk' _ _ I' q => q h' tk' I')
theorem W_tailL {Q : Value → Fld → Led → Prop} {value slice : Expr} {o : Addr} {vs : List Value} {t : Nat} {i : Int} {u : Tok} (hx : led o = some (t, .list vs)) (h0 : 0 ≤ i) (h1 : i < 2 ^ 63) (hv : vs[i.toNat]? = some v) (q : Q v m led)
    (hs : subscripted slice false (.ref o) (.int i u) = operate [.ref o, .int i u] (getItem (.ref o) (.int i u)) := by with_unfolding_all rfl) : W G A stk L m led (subscriptTail value slice (.ref o) (.int i u)) Q E := fun h tk I =>
  have hl : h.IsList o vs.toArray := PlainL.isList (I.led o t _ hx).1
  tail_any (s := G.sh h tk) hl.typeIs slot_list_getitem.lookup (wpAny_getItem_list hl h0 h1 (by simpa using hv) ⟨_, _, _, _, rfl, I, q⟩) hs
theorem W_tailT {Q : Value → Fld → Led → Prop} {value slice : Expr} {o : Addr} {vs : List Value} {t : Nat} {i : Nat} {u : Tok} (hx : led o = some (t, .tup vs)) (h1 : i < 1000) (hv : vs[i]? = some v) (q : Q v m led)
    (hs : subscripted slice false (.ref o) (.int (i : Int) u) = operate [.ref o, .int (i : Int) u] (getItem (.ref o) (.int (i : Int) u)) := by with_unfolding_all rfl) : W G A stk L m led (subscriptTail value slice (.ref o) (.int (i : Int) u)) Q E := fun h tk I =>
  have hl : IsTup h o vs.toArray := (I.led o t _ hx).1
  have hi : i < vs.length := by obtain ⟨hi, _⟩ := List.getElem?_eq_some_iff.mp hv; exact hi
  tail_any (s := G.sh h tk) (by obtain ⟨ob, e, c, r⟩ := hl; exact ⟨ob, e, c⟩) slot_tuple_getitem.lookup (getItem_tuple (j := i) hl (by omega) (by omega) (by unfold seqIndex?; simp; rw [if_neg (by omega)]; omega) (by simpa using hv) ⟨_, _, _, _, rfl, I, q⟩) hs
theorem W_tailS {Q : Value → Fld → Led → Prop} {value slice : Expr} {y : Str} {t : Tok} {i : Int} {u : Tok} {c : Nat} (hr : (decide (i < -(2 ^ 63 : Int)) || decide (i ≥ 2 ^ 63)) = false) (hc : (seqIndex? i y.length).bind (y.cps[·]?) = some c) (q : ∀ t, Q (.str ⟨#[c]⟩ t) m led)
    (hs : subscripted slice false (.str y t) (.int i u) = operate [.str y t, .int i u] (getItem (.str y t) (.int i u)) := by with_unfolding_all rfl) : W G A stk L m led (subscriptTail value slice (.str y t) (.int i u)) Q E := fun h tk I =>
  tail_any (s := G.sh h tk) (typeIs_str _ _ _) F.slot_str_getitem.lookup (P.getItem_str hr hc ⟨_, tk + 1, _, _, rfl, I, q _⟩) hs
theorem W_tailD {Q : Value → Fld → Led → Prop} {value slice : Expr} {o : Addr} {f : Fld} {n t : Nat} {y : Str} {u : Tok} (hx : led o = some (t, .sd f n)) (hv : f y = some v) (q : Q v m led)
    (hs : subscripted slice false (.ref o) (.str y u) = operate [.ref o, .str y u] (getItem (.ref o) (.str y u)) := by with_unfolding_all rfl) : W G A stk L m led (subscriptTail value slice (.ref o) (.str y u)) Q E := fun h tk I => by
  obtain ⟨kvs, hm, hl, hn', hs', hf⟩ := (I.led o t _ hx).1
  exact tail_any (s := G.sh h tk) (Heap.MapOf.typeIs (s := G.sh h tk) hm.mapOf) slot_dict_getitem.lookup (W_itemS hx hv q h tk I) hs
/- bool, if-expressions -/
noncomputable def IfE (G : Gd) (A : Around) (stk : List (Addr × Hid)) (L : Addr) (body orelse : Expr) (env : Env) (Q : Value → Fld → Led → Prop) (E : Value → Shared → Prop) (b : Bool) (m : Fld) (led : Led) : Prop := match b with
  | true => W G A stk L m led (eval body env) Q E
  | false => W G A stk L m led (eval orelse env) Q E
theorem W_ifexp {Q : Value → Fld → Led → Prop} {test body orelse : Expr} (H : W G A stk L m led (PySem.isTrue test env (eval test env)) (IfE G A stk L body orelse env Q E) E) : W G A stk L m led (eval (.IfExp test body orelse pos) env) Q E :=
  fun _ _ I => wpAny_IfExp (H.use I fun b h' tk' _ _ I' q => by cases b <;> exact q h' tk' I')
noncomputable def AndQ (G : Gd) (A : Around) (stk : List (Addr × Hid)) (L : Addr) (rest : List Expr) (pos : Pos) (env : Env) (whole : Sem Value) (Q : Bool → Fld → Led → Prop) (E : Value → Shared → Prop) (b : Bool) (m : Fld) (led : Led) : Prop := match b with
  | true => W G A stk L m led (PySem.isTrue (.BoolOp .And rest pos) env whole) Q E
  | false => Q false m led
noncomputable def OrQ (G : Gd) (A : Around) (stk : List (Addr × Hid)) (L : Addr) (rest : List Expr) (pos : Pos) (env : Env) (whole : Sem Value) (Q : Bool → Fld → Led → Prop) (E : Value → Shared → Prop) (b : Bool) (m : Fld) (led : Led) : Prop := match b with
  | false => W G A stk L m led (PySem.isTrue (.BoolOp .Or rest pos) env whole) Q E
  | true => Q true m led
theorem W_tand {Q : Bool → Fld → Led → Prop} {e : Expr} {rest : List Expr} {whole : Sem Value} (H : W G A stk L m led (PySem.isTrue e env (eval e env)) (AndQ G A stk L rest pos env whole Q E) E) : W G A stk L m led (PySem.isTrue (.BoolOp .And (e :: rest) pos) env whole) Q E :=
  fun _ _ I => isTrue_and (H.use I fun b h' tk' _ _ I' q => by
    cases b with
    | true => exact q h' tk' I'
    | false => exact ⟨_, _, _, _, rfl, I', q⟩)
theorem W_tor {Q : Bool → Fld → Led → Prop} {e : Expr} {rest : List Expr} {whole : Sem Value} (H : W G A stk L m led (PySem.isTrue e env (eval e env)) (OrQ G A stk L rest pos env whole Q E) E) : W G A stk L m led (PySem.isTrue (.BoolOp .Or (e :: rest) pos) env whole) Q E :=
  fun _ _ I => isTrue_or (H.use I fun b h' tk' _ _ I' q => by
    cases b with
    | false => exact q h' tk' I'
    | true => exact ⟨_, _, _, _, rfl, I', q⟩)
theorem W_tand0 {Q : Bool → Fld → Led → Prop} {whole : Sem Value} (q : Q true m led) : W G A stk L m led (PySem.isTrue (.BoolOp .And [] pos) env whole) Q E := fun _ _ I => isTrue_and_nil ⟨_, _, _, _, rfl, I, q⟩
theorem W_tor0 {Q : Bool → Fld → Led → Prop} {whole : Sem Value} (q : Q false m led) : W G A stk L m led (PySem.isTrue (.BoolOp .Or [] pos) env whole) Q E := fun _ _ I => isTrue_or_nil ⟨_, _, _, _, rfl, I, q⟩
/- `a and b`, `a or b` as values -/
noncomputable def AndV (G : Gd) (A : Around) (stk : List (Addr × Hid)) (L : Addr) (e : Expr) (rest : List Expr) (pos : Pos) (env : Env) (Q : Value → Fld → Led → Prop) (E : Value → Shared → Prop) (v : Value) (b : Bool) (m : Fld) (led : Led) : Prop := match b with
  | true => W G A stk L m led (eval (.BoolOp .And (e :: rest) pos) env) Q E
  | false => Q v m led
theorem W_vand {Q : Value → Fld → Led → Prop} {e e₂ : Expr} {rest : List Expr} (H : W G A stk L m led (eval e env) (fun v m1 led1 => W G A stk L m1 led1 (truthy v) (AndV G A stk L e₂ rest pos env Q E v) E) E) : W G A stk L m led (eval (.BoolOp .And (e :: e₂ :: rest) pos) env) Q E :=
  fun _ _ I => BoolOp_and (H.use I fun v h' tk' _ _ I' q => q.use I' fun b h' tk' _ _ I' q => by
    cases b with
    | true => exact q h' tk' I'
    | false => exact ⟨_, _, _, _, rfl, I', q⟩)
noncomputable def OrV (G : Gd) (A : Around) (stk : List (Addr × Hid)) (L : Addr) (e : Expr) (rest : List Expr) (pos : Pos) (env : Env) (Q : Value → Fld → Led → Prop) (E : Value → Shared → Prop) (v : Value) (b : Bool) (m : Fld) (led : Led) : Prop := match b with
  | false => W G A stk L m led (eval (.BoolOp .Or (e :: rest) pos) env) Q E
  | true => Q v m led
theorem W_vor {Q : Value → Fld → Led → Prop} {e e₂ : Expr} {rest : List Expr} (H : W G A stk L m led (eval e env) (fun v m1 led1 => W G A stk L m1 led1 (truthy v) (OrV G A stk L e₂ rest pos env Q E v) E) E) : W G A stk L m led (eval (.BoolOp .Or (e :: e₂ :: rest) pos) env) Q E :=
  fun _ _ I => BoolOp_or (H.use I fun v h' tk' _ _ I' q => q.use I' fun b h' tk' _ _ I' q => by
    cases b with
    | false => exact q h' tk' I'
    | true => exact ⟨_, _, _, _, rfl, I', q⟩)
theorem W_vone {Q : Value → Fld → Led → Prop} {e : Expr} {op : BoolOp} (H : W G A stk L m led (eval e env) Q E) : W G A stk L m led (eval (.BoolOp op [e] pos) env) Q E := fun _ _ I => BoolOp_one (H _ _ I)
/- unary -/
theorem W_unary {Q : Value → Fld → Led → Prop} {e : Expr} {op : UnaryOp} (H : W G A stk L m led (eval e env) (fun v m1 led1 => W G A stk L m1 led1 (unaryOp op v) Q E) E) (he : eval (.UnaryOp op e pos) env = (do let v ← eval e env; standAt pos; operate [v] (unaryOp op v)) := by rfl) : W G A stk L m led (eval (.UnaryOp op e pos) env) Q E := fun _ _ I =>
  wpAny_UnaryOp (H.use I fun _ h' tk' _ _ I' q => q h' tk' I')
theorem W_neg {Q : Value → Fld → Led → Prop} {i : Int} {t : Tok} (q : ∀ t, Q (.int (-i) t) m led) : W G A stk L m led (unaryOp .USub (.int i t)) Q E := fun h tk I => neg_int ⟨_, tk + 1, _, _, rfl, I, q _⟩
theorem W_not {Q : Value → Fld → Led → Prop} (H : W G A stk L m led (truthy v) (fun b => Q (.bool (!b))) E) : W G A stk L m led (unaryOp .Not v) Q E := fun h tk I => not_of (H h tk I)
/- tuple targets -/
theorem W_assignT {Q : Flow → Fld → Led → Prop} {es : List Expr} {k : Nat} {tp : Pos} {e : Expr} (H : W G A stk L m led (eval e env) (fun v m1 led1 => W G A stk L m1 led1 (assign (.Tuple es k tp) env v) (fun _ => Q .next) E) E)
    (h1 : swapsWithSole [.Tuple es k tp] e pos.line env = pure false := by rfl) (h2 : swappedStores [.Tuple es k tp] e env = pure none := by rfl) : W G A stk L m led (exec (.Assign [.Tuple es k tp] e pos) env) Q E :=
  fun _ _ I => Assign_Tuple (H.use I fun _ h' tk' _ _ I' q => q h' tk' I') h1 h2
theorem W_untup {Q : Unit → Fld → Led → Prop} {es : List Expr} {k : Nat} {o : Addr} {t : Nat} {vs : List Value} (hA : A.handled = none) (hx : led o = some (t, .tup vs)) (hl : (assignEach es env).length = vs.length) (hp : (assignEach es env).findIdx? (·.1) = none)
    (H : W G A stk L m led (assignInOrder ((assignEach es env).map (·.2)) vs) Q E) : W G A stk L m led (assign (.Tuple es k pos) env (.ref o)) Q E := fun h tk I =>
  wpAny_assign_Tuple (s := G.sh h tk) hA (I.led o t _ hx).1 (by simpa using hl) hp fun h' hs => H h' tk (I.keeps fun b o' e => hs b o' (Nat.ne_of_lt (Heap.lt_size e)) e)
theorem W_inord {Q : Unit → Fld → Led → Prop} {y : Str} {p : Pos} {ts : List (Value → Sem Unit)} {xs : List Value} (H : W G A stk L m led (storeName env y v) (fun _ m1 led1 => W G A stk L m1 led1 (assignInOrder ts xs) Q E) E) :
    W G A stk L m led (assignInOrder ((fun v => assign (.Name y p) env v) :: ts) (v :: xs)) Q E := fun _ _ I => assignInOrder_cons (wpAny_assign_Name (H.use I fun _ h' tk' _ _ I' q => q h' tk' I'))
theorem W_inord0 {Q : Unit → Fld → Led → Prop} (q : Q () m led) : W G A stk L m led (assignInOrder [] []) Q E := fun _ _ I => assignInOrder_nil ⟨_, _, _, _, rfl, I, q⟩
theorem W_asgN {Q : Unit → Fld → Led → Prop} {y : Str} (H : W G A stk L m led (storeName env y v) Q E) : W G A stk L m led (assign (.Name y pos) env v) Q E := fun _ _ I => wpAny_assign_Name (H _ _ I)
/- calls of built-in functions -/
theorem W_isi {Q : Value → Fld → Led → Prop} {o C C' d : Addr} {t : Nat} (hx : led o = some (t, .inst C' d)) (hi : isIn (tpx.heap_39 G.w.params) (.ref C') C = true) (q : Q (.bool true) m led) : W G A stk L m led (call (.builtin "isinstance") [.ref o, .ref C]) Q E := fun h tk I =>
  isi_call (G.X.keeps I.keep) (fun M => by
    have e : h.get? o = some (instObj C' d) := (I.led o t _ hx).1
    intro A Q E s k q
    exact wpAny_typeOf_ref (k _ _ e) q) hi (by intro z; cases z) ⟨_, _, _, _, rfl, I, q⟩
theorem W_len {Q : Value → Fld → Led → Prop} {o : Addr} {t : Nat} {vs : List Value} (hx : led o = some (t, .list vs)) (hz : vs.length ≤ 1000) (q : ∀ t, Q (.int (vs.length : Int) t) m led) : W G A stk L m led (call (.builtin "len") [.ref o]) Q E := fun h tk I =>
  Calls.call_len_list (s := G.sh h tk) (PlainL.isList (I.led o t _ hx).1) (by simp; omega) ⟨_, tk + 1 + 1, _, _, rfl, I, q (tk + 1)⟩
theorem W_abs {Q : Value → Fld → Led → Prop} {i : Int} {t : Tok} (q : ∀ t, Q (.int (if i < 0 then -i else i) t) m led) : W G A stk L m led (call (.builtin "abs") [.int i t]) Q E := fun h tk I => call_abs_int fun u tk' => ⟨_, tk', _, _, rfl, I, q u⟩
theorem W_strI {Q : Value → Fld → Led → Prop} {i : Int} {t : Tok} (h0 : -1000000 < i) (h1 : i < 1000000) (q : ∀ t, Q (.str (Str.ofString (toString i)) t) m led) : W G A stk L m led (call (.type "str") [.int i t]) Q E := fun h tk I =>
  str_of_int_fit (N := 1000000) (by split <;> omega) (by decide) fun _ => ⟨_, tk + 1, _, _, rfl, I, q _⟩
theorem W_listcopy {Q : Value → Fld → Led → Prop} {o : Addr} {t : Nat} {vs : List Value} (t' : Nat) (hx : led o = some (t, .list vs)) (hz : vs.length ≤ 1000) (q : NewAt led (t', .list vs) fun a led' => Q (.ref a) m led') : W G A stk L m led (call (.type "list") [.ref o]) Q E := fun h tk I =>
  list_copyK (s := G.sh h tk) I.fr allN_news (PlainL.isList (I.led o t _ hx).1) (fun D c h' F' N' hlt => by
    have k := allN_kept I.fr F' fun p hp => N' p (List.mem_cons_of_mem _ hp)
    have I1 := I.top F'.ns k
    have e := N' (D, listOf vs.toArray c) (.head _)
    have hn : led D = none := by
      cases q : led D with
      | none => rfl
      | some e =>
        obtain ⟨y, hy⟩ := (I.led D e.1 e.2 q).1.some
        exact absurd (hlt (D, y) (mem_allN hy (I.neL q) (I.old q))) (Nat.lt_irrefl _)
    refine ⟨h', tk, m, _, rfl, I1.newAt (t := t') (o := .list vs) e.2.2 (fun hm => ?_) ⟨_, _, e.1, rfl, rfl, rfl⟩, q D hn⟩
    rcases List.mem_cons.mp hm with z | z
    · exact e.2.1 z
    · obtain ⟨p, hp, z⟩ := List.mem_map.mp z
      obtain ⟨o', ho'⟩ := (I.sk p hp).1.some
      exact absurd (hlt (p.1, o') (mem_allN ho' (I.neLS hp) (I.sk p hp).2)) (z ▸ Nat.lt_irrefl _)) (small_line (k := 1000) (by simpa using hz) (by decide))
theorem W_dictcopy {Q : Value → Fld → Led → Prop} {o : Addr} {t n : Nat} {f : Fld} (t' : Nat) (hx : led o = some (t, .sd f n)) (q : NewAt led (t', .sd f n) fun a led' => Q (.ref a) m led') : W G A stk L m led (call (.type "dict") [.ref o]) Q E := fun h tk I => by
  obtain ⟨kvs, hm, hl, hn', hs', hf⟩ := (I.led o t _ hx).1
  refine kt_call_dict (s := G.sh h tk) hs' hm (small_line (Nat.le_trans hl hn') (by decide)) fun h' hd hsb => ?_
  have k : ∀ b x, h.get? b = some x → h'.get? b = some x := fun b x e => (hsb.2 b (Nat.ne_of_lt (Heap.lt_size e))).trans (Heap.get?_push_of_some _ e)
  have hsz : (h.objs.size == sysModules) = false := beq_false_of_ne (Nat.ne_of_gt (Nat.lt_of_lt_of_le G.low I.lt))
  obtain ⟨hn, I'⟩ := I.new (h' := h') (t := t') (o := .sd f n) (Nat.le_refl _) k ⟨kvs, hd, hl, hn', hsz, hf⟩
  exact ⟨_, tk, _, _, rfl, I', q _ hn⟩
end rules
theorem fillK : (PySem.Challenge.rw_pp0017_01.prog = PySem.Challenge.rw_pp0017_01.prog) ∧ tpx.heap_39 = tpx.heap_39 := by
  k_fill
  exact ⟨rfl, rfl⟩
theorem up_up (led : Led) (a : Addr) (e e' : Nat × AO) : up (up led a e) a e' = up led a e' := by
  funext b
  by_cases h : b = a <;> simp [up, h]
theorem up_comm (led : Led) {a b : Addr} (h : a ≠ b) (e e' : Nat × AO) : up (up led a e) b e' = up (up led b e') a e := by
  funext c
  by_cases h1 : c = a
  · subst h1; simp [up, h]
  · by_cases h2 : c = b
    · subst h2; simp [up, h1]
    · simp [up, h1, h2]
theorem up_none {led : Led} {a b : Addr} {e : Nat × AO} (h : up led a e b = none) : b ≠ a ∧ led b = none := by
  by_cases hb : b = a
  · subst hb; rw [up_eq] at h; cases h
  · exact ⟨hb, by rw [up_ne hb] at h; exact h⟩
theorem up_keep {led : Led} {x b : Addr} {e e' : Nat × AO} (h : led x = some e) (hb : led b = none) : up led b e' x = some e := by
  rw [up_ne (fun z => by rw [z, hb] at h; cases h)]; exact h
theorem ne_sn {led : Led} {a b : Addr} {e : Nat × AO} (h' : led a = none) (h : led b = some e) : b ≠ a := fun z => by rw [z, h'] at h; cases h
noncomputable def AO.kn : AO → Nat
  | .inst .. => 0
  | .attrs .. => 1
  | .list .. => 2
  | .tup .. => 3
  | .sd .. => 4
  | .idict .. => 5
  | .cell .. => 6
  | .rng .. => 7
  | .exc .. => 8
  | .trb .. => 9
theorem ne_kd {led : Led} {a b : Addr} {t1 t2 : Nat} {o1 o2 : AO} (h1 : led b = some (t1, o1)) (h2 : led a = some (t2, o2)) (h : Nat.beq o1.kn o2.kn = false) : b ≠ a := fun z => by
  rw [z, h2] at h1; cases h1; rw [Nat.beq_refl] at h; cases h
theorem ne_tag {led : Led} {a b : Addr} {t1 t2 : Nat} {o1 o2 : AO} (h1 : led b = some (t1, o1)) (h2 : led a = some (t2, o2)) (h : t1 ≠ t2) : b ≠ a := fun z => by
  rw [z, h2] at h1; cases h1; exact h rfl
theorem up_none_iff {led : Led} {a b : Addr} {e : Nat × AO} : up led a e b = none ↔ b ≠ a ∧ led b = none := ⟨up_none, fun ⟨h, k⟩ => by rw [up_ne h]; exact k⟩
theorem upn1 {led : Led} {a b : Addr} {e : Nat × AO} {P : Prop} (h : b ≠ a → led b = none → P) : up led a e b = none → P := fun q => h (up_none q).1 (up_none q).2
theorem upn2 {led : Led} {a1 a2 b : Addr} {e1 e2 : Nat × AO} {P : Prop} (h : b ≠ a2 → b ≠ a1 → led b = none → P) : up (up (led) a1 e1) a2 e2 b = none → P := upn1 fun h0 => upn1 (h h0)
theorem upn4 {led : Led} {a1 a2 a3 a4 b : Addr} {e1 e2 e3 e4 : Nat × AO} {P : Prop} (h : b ≠ a4 → b ≠ a3 → b ≠ a2 → b ≠ a1 → led b = none → P) : up (up (up (up (led) a1 e1) a2 e2) a3 e3) a4 e4 b = none → P := upn2 fun h0 h1 => upn2 (h h0 h1)
theorem upn8 {led : Led} {a1 a2 a3 a4 a5 a6 a7 a8 b : Addr} {e1 e2 e3 e4 e5 e6 e7 e8 : Nat × AO} {P : Prop} (h : b ≠ a8 → b ≠ a7 → b ≠ a6 → b ≠ a5 → b ≠ a4 → b ≠ a3 → b ≠ a2 → b ≠ a1 → led b = none → P) : up (up (up (up (up (up (up (up (led) a1 e1) a2 e2) a3 e3) a4 e4) a5 e5) a6 e6) a7 e7) a8 e8 b = none → P := upn4 fun h0 h1 h2 h3 => upn4 (h h0 h1 h2 h3)
theorem upn16 {led : Led} {a1 a2 a3 a4 a5 a6 a7 a8 a9 a10 a11 a12 a13 a14 a15 a16 b : Addr} {e1 e2 e3 e4 e5 e6 e7 e8 e9 e10 e11 e12 e13 e14 e15 e16 : Nat × AO} {P : Prop} (h : b ≠ a16 → b ≠ a15 → b ≠ a14 → b ≠ a13 → b ≠ a12 → b ≠ a11 → b ≠ a10 → b ≠ a9 → b ≠ a8 → b ≠ a7 → b ≠ a6 → b ≠ a5 → b ≠ a4 → b ≠ a3 → b ≠ a2 → b ≠ a1 → led b = none → P) : up (up (up (up (up (up (up (up (up (up (up (up (up (up (up (up (led) a1 e1) a2 e2) a3 e3) a4 e4) a5 e5) a6 e6) a7 e7) a8 e8) a9 e9) a10 e10) a11 e11) a12 e12) a13 e13) a14 e14) a15 e15) a16 e16 b = none → P := upn8 fun h0 h1 h2 h3 h4 h5 h6 h7 => upn8 (h h0 h1 h2 h3 h4 h5 h6 h7)
theorem W_mg0 {α : Type} {G : Gd} {A : Around} {stk : List (Addr × Hid)} {L : Addr} {m : Fld} {led : Led} {t : Sem α} {Q : α → Fld → Led → Prop} {E : Value → Shared → Prop}    (H : ∀ m1 : Fld, W G A stk L m1 led t Q E) : W G A stk L m led t Q E := H m 
theorem W_mg1 {α : Type} {G : Gd} {A : Around} {stk : List (Addr × Hid)} {L : Addr} {m : Fld} {led : Led} {t : Sem α} {Q : α → Fld → Led → Prop} {E : Value → Shared → Prop} (x0 : Str) {v0 : Value} (h0 : m x0 = some v0) (H : ∀ m1 : Fld, m1 x0 = some v0 → W G A stk L m1 led t Q E) : W G A stk L m led t Q E := H m h0
theorem W_mg2 {α : Type} {G : Gd} {A : Around} {stk : List (Addr × Hid)} {L : Addr} {m : Fld} {led : Led} {t : Sem α} {Q : α → Fld → Led → Prop} {E : Value → Shared → Prop} (x0 : Str) (x1 : Str) {v0 : Value} {v1 : Value} (h0 : m x0 = some v0) (h1 : m x1 = some v1) (H : ∀ m1 : Fld, m1 x0 = some v0 → m1 x1 = some v1 → W G A stk L m1 led t Q E) : W G A stk L m led t Q E := H m h0 h1
theorem W_mg3 {α : Type} {G : Gd} {A : Around} {stk : List (Addr × Hid)} {L : Addr} {m : Fld} {led : Led} {t : Sem α} {Q : α → Fld → Led → Prop} {E : Value → Shared → Prop} (x0 : Str) (x1 : Str) (x2 : Str) {v0 : Value} {v1 : Value} {v2 : Value} (h0 : m x0 = some v0) (h1 : m x1 = some v1) (h2 : m x2 = some v2) (H : ∀ m1 : Fld, m1 x0 = some v0 → m1 x1 = some v1 → m1 x2 = some v2 → W G A stk L m1 led t Q E) : W G A stk L m led t Q E := H m h0 h1 h2
theorem W_mg4 {α : Type} {G : Gd} {A : Around} {stk : List (Addr × Hid)} {L : Addr} {m : Fld} {led : Led} {t : Sem α} {Q : α → Fld → Led → Prop} {E : Value → Shared → Prop} (x0 : Str) (x1 : Str) (x2 : Str) (x3 : Str) {v0 : Value} {v1 : Value} {v2 : Value} {v3 : Value} (h0 : m x0 = some v0) (h1 : m x1 = some v1) (h2 : m x2 = some v2) (h3 : m x3 = some v3) (H : ∀ m1 : Fld, m1 x0 = some v0 → m1 x1 = some v1 → m1 x2 = some v2 → m1 x3 = some v3 → W G A stk L m1 led t Q E) : W G A stk L m led t Q E := H m h0 h1 h2 h3
theorem W_mg5 {α : Type} {G : Gd} {A : Around} {stk : List (Addr × Hid)} {L : Addr} {m : Fld} {led : Led} {t : Sem α} {Q : α → Fld → Led → Prop} {E : Value → Shared → Prop} (x0 : Str) (x1 : Str) (x2 : Str) (x3 : Str) (x4 : Str) {v0 : Value} {v1 : Value} {v2 : Value} {v3 : Value} {v4 : Value} (h0 : m x0 = some v0) (h1 : m x1 = some v1) (h2 : m x2 = some v2) (h3 : m x3 = some v3) (h4 : m x4 = some v4) (H : ∀ m1 : Fld, m1 x0 = some v0 → m1 x1 = some v1 → m1 x2 = some v2 → m1 x3 = some v3 → m1 x4 = some v4 → W G A stk L m1 led t Q E) : W G A stk L m led t Q E := H m h0 h1 h2 h3 h4
theorem W_mg6 {α : Type} {G : Gd} {A : Around} {stk : List (Addr × Hid)} {L : Addr} {m : Fld} {led : Led} {t : Sem α} {Q : α → Fld → Led → Prop} {E : Value → Shared → Prop} (x0 : Str) (x1 : Str) (x2 : Str) (x3 : Str) (x4 : Str) (x5 : Str) {v0 : Value} {v1 : Value} {v2 : Value} {v3 : Value} {v4 : Value} {v5 : Value} (h0 : m x0 = some v0) (h1 : m x1 = some v1) (h2 : m x2 = some v2) (h3 : m x3 = some v3) (h4 : m x4 = some v4) (h5 : m x5 = some v5) (H : ∀ m1 : Fld, m1 x0 = some v0 → m1 x1 = some v1 → m1 x2 = some v2 → m1 x3 = some v3 → m1 x4 = some v4 → m1 x5 = some v5 → W G A stk L m1 led t Q E) : W G A stk L m led t Q E := H m h0 h1 h2 h3 h4 h5
theorem W_mg7 {α : Type} {G : Gd} {A : Around} {stk : List (Addr × Hid)} {L : Addr} {m : Fld} {led : Led} {t : Sem α} {Q : α → Fld → Led → Prop} {E : Value → Shared → Prop} (x0 : Str) (x1 : Str) (x2 : Str) (x3 : Str) (x4 : Str) (x5 : Str) (x6 : Str) {v0 : Value} {v1 : Value} {v2 : Value} {v3 : Value} {v4 : Value} {v5 : Value} {v6 : Value} (h0 : m x0 = some v0) (h1 : m x1 = some v1) (h2 : m x2 = some v2) (h3 : m x3 = some v3) (h4 : m x4 = some v4) (h5 : m x5 = some v5) (h6 : m x6 = some v6) (H : ∀ m1 : Fld, m1 x0 = some v0 → m1 x1 = some v1 → m1 x2 = some v2 → m1 x3 = some v3 → m1 x4 = some v4 → m1 x5 = some v5 → m1 x6 = some v6 → W G A stk L m1 led t Q E) : W G A stk L m led t Q E := H m h0 h1 h2 h3 h4 h5 h6
theorem W_mg8 {α : Type} {G : Gd} {A : Around} {stk : List (Addr × Hid)} {L : Addr} {m : Fld} {led : Led} {t : Sem α} {Q : α → Fld → Led → Prop} {E : Value → Shared → Prop} (x0 : Str) (x1 : Str) (x2 : Str) (x3 : Str) (x4 : Str) (x5 : Str) (x6 : Str) (x7 : Str) {v0 : Value} {v1 : Value} {v2 : Value} {v3 : Value} {v4 : Value} {v5 : Value} {v6 : Value} {v7 : Value} (h0 : m x0 = some v0) (h1 : m x1 = some v1) (h2 : m x2 = some v2) (h3 : m x3 = some v3) (h4 : m x4 = some v4) (h5 : m x5 = some v5) (h6 : m x6 = some v6) (h7 : m x7 = some v7) (H : ∀ m1 : Fld, m1 x0 = some v0 → m1 x1 = some v1 → m1 x2 = some v2 → m1 x3 = some v3 → m1 x4 = some v4 → m1 x5 = some v5 → m1 x6 = some v6 → m1 x7 = some v7 → W G A stk L m1 led t Q E) : W G A stk L m led t Q E := H m h0 h1 h2 h3 h4 h5 h6 h7
theorem W_mg9 {α : Type} {G : Gd} {A : Around} {stk : List (Addr × Hid)} {L : Addr} {m : Fld} {led : Led} {t : Sem α} {Q : α → Fld → Led → Prop} {E : Value → Shared → Prop} (x0 : Str) (x1 : Str) (x2 : Str) (x3 : Str) (x4 : Str) (x5 : Str) (x6 : Str) (x7 : Str) (x8 : Str) {v0 : Value} {v1 : Value} {v2 : Value} {v3 : Value} {v4 : Value} {v5 : Value} {v6 : Value} {v7 : Value} {v8 : Value} (h0 : m x0 = some v0) (h1 : m x1 = some v1) (h2 : m x2 = some v2) (h3 : m x3 = some v3) (h4 : m x4 = some v4) (h5 : m x5 = some v5) (h6 : m x6 = some v6) (h7 : m x7 = some v7) (h8 : m x8 = some v8) (H : ∀ m1 : Fld, m1 x0 = some v0 → m1 x1 = some v1 → m1 x2 = some v2 → m1 x3 = some v3 → m1 x4 = some v4 → m1 x5 = some v5 → m1 x6 = some v6 → m1 x7 = some v7 → m1 x8 = some v8 → W G A stk L m1 led t Q E) : W G A stk L m led t Q E := H m h0 h1 h2 h3 h4 h5 h6 h7 h8
theorem W_mg10 {α : Type} {G : Gd} {A : Around} {stk : List (Addr × Hid)} {L : Addr} {m : Fld} {led : Led} {t : Sem α} {Q : α → Fld → Led → Prop} {E : Value → Shared → Prop} (x0 : Str) (x1 : Str) (x2 : Str) (x3 : Str) (x4 : Str) (x5 : Str) (x6 : Str) (x7 : Str) (x8 : Str) (x9 : Str) {v0 : Value} {v1 : Value} {v2 : Value} {v3 : Value} {v4 : Value} {v5 : Value} {v6 : Value} {v7 : Value} {v8 : Value} {v9 : Value} (h0 : m x0 = some v0) (h1 : m x1 = some v1) (h2 : m x2 = some v2) (h3 : m x3 = some v3) (h4 : m x4 = some v4) (h5 : m x5 = some v5) (h6 : m x6 = some v6) (h7 : m x7 = some v7) (h8 : m x8 = some v8) (h9 : m x9 = some v9) (H : ∀ m1 : Fld, m1 x0 = some v0 → m1 x1 = some v1 → m1 x2 = some v2 → m1 x3 = some v3 → m1 x4 = some v4 → m1 x5 = some v5 → m1 x6 = some v6 → m1 x7 = some v7 → m1 x8 = some v8 → m1 x9 = some v9 → W G A stk L m1 led t Q E) : W G A stk L m led t Q E := H m h0 h1 h2 h3 h4 h5 h6 h7 h8 h9
@[elab_as_elim] theorem gen1 {α : Type} {P : α → Prop} (a : α) (h : ∀ x, P x) : P a := h a
@[elab_as_elim] theorem gen1e {α : Type} {P : α → Prop} (a : α) (h : ∀ x, a = x → P x) : P a := h a rfl
theorem nmE0 {a : Addr} {P : Prop} (h : P) : a ∉ ([] : List Addr) → P := fun _ => h
theorem nmI1 {a x1 : Addr} (h1 : a ≠ x1) : a ∉ [x1] := List.not_mem_cons_of_ne_of_not_mem h1 (List.not_mem_nil)
theorem nmE1 {a x1 : Addr} {P : Prop} (h : a ≠ x1 → P) : a ∉ [x1] → P := fun q => h (List.ne_of_not_mem_cons q)
theorem nmI2 {a x1 x2 : Addr} (h1 : a ≠ x1) (h2 : a ≠ x2) : a ∉ [x1, x2] := List.not_mem_cons_of_ne_of_not_mem h1 (nmI1 h2)
theorem nmE2 {a x1 x2 : Addr} {P : Prop} (h : a ≠ x1 → a ≠ x2 → P) : a ∉ [x1, x2] → P := fun q => nmE1 (h (List.ne_of_not_mem_cons q)) (List.not_mem_of_not_mem_cons q)
theorem nmI3 {a x1 x2 x3 : Addr} (h1 : a ≠ x1) (h2 : a ≠ x2) (h3 : a ≠ x3) : a ∉ [x1, x2, x3] := List.not_mem_cons_of_ne_of_not_mem h1 (nmI2 h2 h3)
theorem nmE3 {a x1 x2 x3 : Addr} {P : Prop} (h : a ≠ x1 → a ≠ x2 → a ≠ x3 → P) : a ∉ [x1, x2, x3] → P := fun q => nmE2 (h (List.ne_of_not_mem_cons q)) (List.not_mem_of_not_mem_cons q)
theorem nmI4 {a x1 x2 x3 x4 : Addr} (h1 : a ≠ x1) (h2 : a ≠ x2) (h3 : a ≠ x3) (h4 : a ≠ x4) : a ∉ [x1, x2, x3, x4] := List.not_mem_cons_of_ne_of_not_mem h1 (nmI3 h2 h3 h4)
theorem nmE4 {a x1 x2 x3 x4 : Addr} {P : Prop} (h : a ≠ x1 → a ≠ x2 → a ≠ x3 → a ≠ x4 → P) : a ∉ [x1, x2, x3, x4] → P := fun q => nmE3 (h (List.ne_of_not_mem_cons q)) (List.not_mem_of_not_mem_cons q)
theorem nmI5 {a x1 x2 x3 x4 x5 : Addr} (h1 : a ≠ x1) (h2 : a ≠ x2) (h3 : a ≠ x3) (h4 : a ≠ x4) (h5 : a ≠ x5) : a ∉ [x1, x2, x3, x4, x5] := List.not_mem_cons_of_ne_of_not_mem h1 (nmI4 h2 h3 h4 h5)
theorem nmE5 {a x1 x2 x3 x4 x5 : Addr} {P : Prop} (h : a ≠ x1 → a ≠ x2 → a ≠ x3 → a ≠ x4 → a ≠ x5 → P) : a ∉ [x1, x2, x3, x4, x5] → P := fun q => nmE4 (h (List.ne_of_not_mem_cons q)) (List.not_mem_of_not_mem_cons q)
theorem nmI6 {a x1 x2 x3 x4 x5 x6 : Addr} (h1 : a ≠ x1) (h2 : a ≠ x2) (h3 : a ≠ x3) (h4 : a ≠ x4) (h5 : a ≠ x5) (h6 : a ≠ x6) : a ∉ [x1, x2, x3, x4, x5, x6] := List.not_mem_cons_of_ne_of_not_mem h1 (nmI5 h2 h3 h4 h5 h6)
theorem nmE6 {a x1 x2 x3 x4 x5 x6 : Addr} {P : Prop} (h : a ≠ x1 → a ≠ x2 → a ≠ x3 → a ≠ x4 → a ≠ x5 → a ≠ x6 → P) : a ∉ [x1, x2, x3, x4, x5, x6] → P := fun q => nmE5 (h (List.ne_of_not_mem_cons q)) (List.not_mem_of_not_mem_cons q)
theorem nmI7 {a x1 x2 x3 x4 x5 x6 x7 : Addr} (h1 : a ≠ x1) (h2 : a ≠ x2) (h3 : a ≠ x3) (h4 : a ≠ x4) (h5 : a ≠ x5) (h6 : a ≠ x6) (h7 : a ≠ x7) : a ∉ [x1, x2, x3, x4, x5, x6, x7] := List.not_mem_cons_of_ne_of_not_mem h1 (nmI6 h2 h3 h4 h5 h6 h7)
theorem nmE7 {a x1 x2 x3 x4 x5 x6 x7 : Addr} {P : Prop} (h : a ≠ x1 → a ≠ x2 → a ≠ x3 → a ≠ x4 → a ≠ x5 → a ≠ x6 → a ≠ x7 → P) : a ∉ [x1, x2, x3, x4, x5, x6, x7] → P := fun q => nmE6 (h (List.ne_of_not_mem_cons q)) (List.not_mem_of_not_mem_cons q)
theorem nmI8 {a x1 x2 x3 x4 x5 x6 x7 x8 : Addr} (h1 : a ≠ x1) (h2 : a ≠ x2) (h3 : a ≠ x3) (h4 : a ≠ x4) (h5 : a ≠ x5) (h6 : a ≠ x6) (h7 : a ≠ x7) (h8 : a ≠ x8) : a ∉ [x1, x2, x3, x4, x5, x6, x7, x8] := List.not_mem_cons_of_ne_of_not_mem h1 (nmI7 h2 h3 h4 h5 h6 h7 h8)
theorem nmE8 {a x1 x2 x3 x4 x5 x6 x7 x8 : Addr} {P : Prop} (h : a ≠ x1 → a ≠ x2 → a ≠ x3 → a ≠ x4 → a ≠ x5 → a ≠ x6 → a ≠ x7 → a ≠ x8 → P) : a ∉ [x1, x2, x3, x4, x5, x6, x7, x8] → P := fun q => nmE7 (h (List.ne_of_not_mem_cons q)) (List.not_mem_of_not_mem_cons q)
theorem nmI9 {a x1 x2 x3 x4 x5 x6 x7 x8 x9 : Addr} (h1 : a ≠ x1) (h2 : a ≠ x2) (h3 : a ≠ x3) (h4 : a ≠ x4) (h5 : a ≠ x5) (h6 : a ≠ x6) (h7 : a ≠ x7) (h8 : a ≠ x8) (h9 : a ≠ x9) : a ∉ [x1, x2, x3, x4, x5, x6, x7, x8, x9] := List.not_mem_cons_of_ne_of_not_mem h1 (nmI8 h2 h3 h4 h5 h6 h7 h8 h9)
theorem nmE9 {a x1 x2 x3 x4 x5 x6 x7 x8 x9 : Addr} {P : Prop} (h : a ≠ x1 → a ≠ x2 → a ≠ x3 → a ≠ x4 → a ≠ x5 → a ≠ x6 → a ≠ x7 → a ≠ x8 → a ≠ x9 → P) : a ∉ [x1, x2, x3, x4, x5, x6, x7, x8, x9] → P := fun q => nmE8 (h (List.ne_of_not_mem_cons q)) (List.not_mem_of_not_mem_cons q)
theorem nmI10 {a x1 x2 x3 x4 x5 x6 x7 x8 x9 x10 : Addr} (h1 : a ≠ x1) (h2 : a ≠ x2) (h3 : a ≠ x3) (h4 : a ≠ x4) (h5 : a ≠ x5) (h6 : a ≠ x6) (h7 : a ≠ x7) (h8 : a ≠ x8) (h9 : a ≠ x9) (h10 : a ≠ x10) : a ∉ [x1, x2, x3, x4, x5, x6, x7, x8, x9, x10] := List.not_mem_cons_of_ne_of_not_mem h1 (nmI9 h2 h3 h4 h5 h6 h7 h8 h9 h10)
theorem nmE10 {a x1 x2 x3 x4 x5 x6 x7 x8 x9 x10 : Addr} {P : Prop} (h : a ≠ x1 → a ≠ x2 → a ≠ x3 → a ≠ x4 → a ≠ x5 → a ≠ x6 → a ≠ x7 → a ≠ x8 → a ≠ x9 → a ≠ x10 → P) : a ∉ [x1, x2, x3, x4, x5, x6, x7, x8, x9, x10] → P := fun q => nmE9 (h (List.ne_of_not_mem_cons q)) (List.not_mem_of_not_mem_cons q)
theorem exE1 {a1 : Type} {p : a1 → Prop} {P : Prop} (h : ∃ x1, p x1) (k : ∀ x1, p x1 → P) : P := Exists.elim h k
theorem exE2 {a1 : Type} {a2 : Type} {p : a1 → a2 → Prop} {P : Prop} (h : ∃ x1 x2, p x1 x2) (k : ∀ x1 x2, p x1 x2 → P) : P := exE1 h fun x1 h => exE1 h (k x1)
theorem exE3 {a1 : Type} {a2 : Type} {a3 : Type} {p : a1 → a2 → a3 → Prop} {P : Prop} (h : ∃ x1 x2 x3, p x1 x2 x3) (k : ∀ x1 x2 x3, p x1 x2 x3 → P) : P := exE2 h fun x1 x2 h => exE1 h (k x1 x2)
theorem exE4 {a1 : Type} {a2 : Type} {a3 : Type} {a4 : Type} {p : a1 → a2 → a3 → a4 → Prop} {P : Prop} (h : ∃ x1 x2 x3 x4, p x1 x2 x3 x4) (k : ∀ x1 x2 x3 x4, p x1 x2 x3 x4 → P) : P := exE2 h fun x1 x2 h => exE2 h (k x1 x2)
theorem exE5 {a1 : Type} {a2 : Type} {a3 : Type} {a4 : Type} {a5 : Type} {p : a1 → a2 → a3 → a4 → a5 → Prop} {P : Prop} (h : ∃ x1 x2 x3 x4 x5, p x1 x2 x3 x4 x5) (k : ∀ x1 x2 x3 x4 x5, p x1 x2 x3 x4 x5 → P) : P := exE4 h fun x1 x2 x3 x4 h => exE1 h (k x1 x2 x3 x4)
theorem exE6 {a1 : Type} {a2 : Type} {a3 : Type} {a4 : Type} {a5 : Type} {a6 : Type} {p : a1 → a2 → a3 → a4 → a5 → a6 → Prop} {P : Prop} (h : ∃ x1 x2 x3 x4 x5 x6, p x1 x2 x3 x4 x5 x6) (k : ∀ x1 x2 x3 x4 x5 x6, p x1 x2 x3 x4 x5 x6 → P) : P := exE4 h fun x1 x2 x3 x4 h => exE2 h (k x1 x2 x3 x4)
theorem exE8 {a1 : Type} {a2 : Type} {a3 : Type} {a4 : Type} {a5 : Type} {a6 : Type} {a7 : Type} {a8 : Type} {p : a1 → a2 → a3 → a4 → a5 → a6 → a7 → a8 → Prop} {P : Prop} (h : ∃ x1 x2 x3 x4 x5 x6 x7 x8, p x1 x2 x3 x4 x5 x6 x7 x8) (k : ∀ x1 x2 x3 x4 x5 x6 x7 x8, p x1 x2 x3 x4 x5 x6 x7 x8 → P) : P := exE4 h fun x1 x2 x3 x4 h => exE4 h (k x1 x2 x3 x4)
theorem exE10 {a1 : Type} {a2 : Type} {a3 : Type} {a4 : Type} {a5 : Type} {a6 : Type} {a7 : Type} {a8 : Type} {a9 : Type} {a10 : Type} {p : a1 → a2 → a3 → a4 → a5 → a6 → a7 → a8 → a9 → a10 → Prop} {P : Prop} (h : ∃ x1 x2 x3 x4 x5 x6 x7 x8 x9 x10, p x1 x2 x3 x4 x5 x6 x7 x8 x9 x10) (k : ∀ x1 x2 x3 x4 x5 x6 x7 x8 x9 x10, p x1 x2 x3 x4 x5 x6 x7 x8 x9 x10 → P) : P := exE8 h fun x1 x2 x3 x4 x5 x6 x7 x8 h => exE2 h (k x1 x2 x3 x4 x5 x6 x7 x8)
theorem exE14 {a1 : Type} {a2 : Type} {a3 : Type} {a4 : Type} {a5 : Type} {a6 : Type} {a7 : Type} {a8 : Type} {a9 : Type} {a10 : Type} {a11 : Type} {a12 : Type} {a13 : Type} {a14 : Type} {p : a1 → a2 → a3 → a4 → a5 → a6 → a7 → a8 → a9 → a10 → a11 → a12 → a13 → a14 → Prop} {P : Prop} (h : ∃ x1 x2 x3 x4 x5 x6 x7 x8 x9 x10 x11 x12 x13 x14, p x1 x2 x3 x4 x5 x6 x7 x8 x9 x10 x11 x12 x13 x14) (k : ∀ x1 x2 x3 x4 x5 x6 x7 x8 x9 x10 x11 x12 x13 x14, p x1 x2 x3 x4 x5 x6 x7 x8 x9 x10 x11 x12 x13 x14 → P) : P := exE8 h fun x1 x2 x3 x4 x5 x6 x7 x8 h => exE6 h (k x1 x2 x3 x4 x5 x6 x7 x8)
theorem exI1 {a1 : Type} {p : a1 → Prop} (x1 : a1) (h : p x1) : ∃ x1, p x1 := ⟨x1, h⟩
theorem exI2 {a1 : Type} {a2 : Type} {p : a1 → a2 → Prop} (x1 : a1) (x2 : a2) (h : p x1 x2) : ∃ x1 x2, p x1 x2 := ⟨x1, x2, h⟩
theorem exI3 {a1 : Type} {a2 : Type} {a3 : Type} {p : a1 → a2 → a3 → Prop} (x1 : a1) (x2 : a2) (x3 : a3) (h : p x1 x2 x3) : ∃ x1 x2 x3, p x1 x2 x3 := ⟨x1, x2, x3, h⟩
theorem exI4 {a1 : Type} {a2 : Type} {a3 : Type} {a4 : Type} {p : a1 → a2 → a3 → a4 → Prop} (x1 : a1) (x2 : a2) (x3 : a3) (x4 : a4) (h : p x1 x2 x3 x4) : ∃ x1 x2 x3 x4, p x1 x2 x3 x4 := ⟨x1, x2, x3, x4, h⟩
theorem exI5 {a1 : Type} {a2 : Type} {a3 : Type} {a4 : Type} {a5 : Type} {p : a1 → a2 → a3 → a4 → a5 → Prop} (x1 : a1) (x2 : a2) (x3 : a3) (x4 : a4) (x5 : a5) (h : p x1 x2 x3 x4 x5) : ∃ x1 x2 x3 x4 x5, p x1 x2 x3 x4 x5 := ⟨x1, x2, x3, x4, x5, h⟩
theorem exI8 {a1 : Type} {a2 : Type} {a3 : Type} {a4 : Type} {a5 : Type} {a6 : Type} {a7 : Type} {a8 : Type} {p : a1 → a2 → a3 → a4 → a5 → a6 → a7 → a8 → Prop} (x1 : a1) (x2 : a2) (x3 : a3) (x4 : a4) (x5 : a5) (x6 : a6) (x7 : a7) (x8 : a8) (h : p x1 x2 x3 x4 x5 x6 x7 x8) : ∃ x1 x2 x3 x4 x5 x6 x7 x8, p x1 x2 x3 x4 x5 x6 x7 x8 := ⟨x1, x2, x3, x4, x5, x6, x7, x8, h⟩
theorem exI10 {a1 : Type} {a2 : Type} {a3 : Type} {a4 : Type} {a5 : Type} {a6 : Type} {a7 : Type} {a8 : Type} {a9 : Type} {a10 : Type} {p : a1 → a2 → a3 → a4 → a5 → a6 → a7 → a8 → a9 → a10 → Prop} (x1 : a1) (x2 : a2) (x3 : a3) (x4 : a4) (x5 : a5) (x6 : a6) (x7 : a7) (x8 : a8) (x9 : a9) (x10 : a10) (h : p x1 x2 x3 x4 x5 x6 x7 x8 x9 x10) : ∃ x1 x2 x3 x4 x5 x6 x7 x8 x9 x10, p x1 x2 x3 x4 x5 x6 x7 x8 x9 x10 := ⟨x1, x2, x3, x4, x5, x6, x7, x8, x9, x10, h⟩
theorem exI14 {a1 : Type} {a2 : Type} {a3 : Type} {a4 : Type} {a5 : Type} {a6 : Type} {a7 : Type} {a8 : Type} {a9 : Type} {a10 : Type} {a11 : Type} {a12 : Type} {a13 : Type} {a14 : Type} {p : a1 → a2 → a3 → a4 → a5 → a6 → a7 → a8 → a9 → a10 → a11 → a12 → a13 → a14 → Prop} (x1 : a1) (x2 : a2) (x3 : a3) (x4 : a4) (x5 : a5) (x6 : a6) (x7 : a7) (x8 : a8) (x9 : a9) (x10 : a10) (x11 : a11) (x12 : a12) (x13 : a13) (x14 : a14) (h : p x1 x2 x3 x4 x5 x6 x7 x8 x9 x10 x11 x12 x13 x14) : ∃ x1 x2 x3 x4 x5 x6 x7 x8 x9 x10 x11 x12 x13 x14, p x1 x2 x3 x4 x5 x6 x7 x8 x9 x10 x11 x12 x13 x14 := ⟨x1, x2, x3, x4, x5, x6, x7, x8, x9, x10, x11, x12, x13, x14, h⟩
theorem andE2 {a1 a2 P : Prop} (k : a1 → a2 → P) (h : a1 ∧ a2) : P := k h.1 h.2
theorem andE3 {a1 a2 a3 P : Prop} (k : a1 → a2 → a3 → P) (h : a1 ∧ a2 ∧ a3) : P := andE2 (fun h1 h => andE2 (k h1) h) h
theorem andE4 {a1 a2 a3 a4 P : Prop} (k : a1 → a2 → a3 → a4 → P) (h : a1 ∧ a2 ∧ a3 ∧ a4) : P := andE3 (fun h1 h2 h => andE2 (k h1 h2) h) h
theorem andE5 {a1 a2 a3 a4 a5 P : Prop} (k : a1 → a2 → a3 → a4 → a5 → P) (h : a1 ∧ a2 ∧ a3 ∧ a4 ∧ a5) : P := andE3 (fun h1 h2 h => andE3 (k h1 h2) h) h
theorem andE6 {a1 a2 a3 a4 a5 a6 P : Prop} (k : a1 → a2 → a3 → a4 → a5 → a6 → P) (h : a1 ∧ a2 ∧ a3 ∧ a4 ∧ a5 ∧ a6) : P := andE3 (fun h1 h2 h => andE4 (k h1 h2) h) h
theorem andE7 {a1 a2 a3 a4 a5 a6 a7 P : Prop} (k : a1 → a2 → a3 → a4 → a5 → a6 → a7 → P) (h : a1 ∧ a2 ∧ a3 ∧ a4 ∧ a5 ∧ a6 ∧ a7) : P := andE5 (fun h1 h2 h3 h4 h => andE3 (k h1 h2 h3 h4) h) h
theorem andE8 {a1 a2 a3 a4 a5 a6 a7 a8 P : Prop} (k : a1 → a2 → a3 → a4 → a5 → a6 → a7 → a8 → P) (h : a1 ∧ a2 ∧ a3 ∧ a4 ∧ a5 ∧ a6 ∧ a7 ∧ a8) : P := andE5 (fun h1 h2 h3 h4 h => andE4 (k h1 h2 h3 h4) h) h
theorem andE10 {a1 a2 a3 a4 a5 a6 a7 a8 a9 a10 P : Prop} (k : a1 → a2 → a3 → a4 → a5 → a6 → a7 → a8 → a9 → a10 → P) (h : a1 ∧ a2 ∧ a3 ∧ a4 ∧ a5 ∧ a6 ∧ a7 ∧ a8 ∧ a9 ∧ a10) : P := andE7 (fun h1 h2 h3 h4 h5 h6 h => andE4 (k h1 h2 h3 h4 h5 h6) h) h
theorem andE11 {a1 a2 a3 a4 a5 a6 a7 a8 a9 a10 a11 P : Prop} (k : a1 → a2 → a3 → a4 → a5 → a6 → a7 → a8 → a9 → a10 → a11 → P) (h : a1 ∧ a2 ∧ a3 ∧ a4 ∧ a5 ∧ a6 ∧ a7 ∧ a8 ∧ a9 ∧ a10 ∧ a11) : P := andE8 (fun h1 h2 h3 h4 h5 h6 h7 h => andE4 (k h1 h2 h3 h4 h5 h6 h7) h) h
theorem andE14 {a1 a2 a3 a4 a5 a6 a7 a8 a9 a10 a11 a12 a13 a14 P : Prop} (k : a1 → a2 → a3 → a4 → a5 → a6 → a7 → a8 → a9 → a10 → a11 → a12 → a13 → a14 → P) (h : a1 ∧ a2 ∧ a3 ∧ a4 ∧ a5 ∧ a6 ∧ a7 ∧ a8 ∧ a9 ∧ a10 ∧ a11 ∧ a12 ∧ a13 ∧ a14) : P := andE8 (fun h1 h2 h3 h4 h5 h6 h7 h => andE7 (k h1 h2 h3 h4 h5 h6 h7) h) h
theorem andE19 {a1 a2 a3 a4 a5 a6 a7 a8 a9 a10 a11 a12 a13 a14 a15 a16 a17 a18 a19 P : Prop} (k : a1 → a2 → a3 → a4 → a5 → a6 → a7 → a8 → a9 → a10 → a11 → a12 → a13 → a14 → a15 → a16 → a17 → a18 → a19 → P) (h : a1 ∧ a2 ∧ a3 ∧ a4 ∧ a5 ∧ a6 ∧ a7 ∧ a8 ∧ a9 ∧ a10 ∧ a11 ∧ a12 ∧ a13 ∧ a14 ∧ a15 ∧ a16 ∧ a17 ∧ a18 ∧ a19) : P := andE14 (fun h1 h2 h3 h4 h5 h6 h7 h8 h9 h10 h11 h12 h13 h => andE6 (k h1 h2 h3 h4 h5 h6 h7 h8 h9 h10 h11 h12 h13) h) h
theorem up_lk {led : Led} {a b : Addr} {e : Nat × AO} {x : Option (Nat × AO)} (h : b ≠ a) (k : led b = x) : up led a e b = x := (up_ne h).trans k
theorem fup_lk {f : Fld} {x y : Str} {v : Value} {z : Option Value} (h : decide (y = x) = false) (k : f y = z) : fup f x v y = z := (fup_ne (of_decide_eq_false h)).trans k
theorem upn3 {led : Led} {a1 a2 a3 b : Addr} {e1 e2 e3 : Nat × AO} {P : Prop} (h : b ≠ a3 → b ≠ a2 → b ≠ a1 → led b = none → P) : up (up (up (led) a1 e1) a2 e2) a3 e3 b = none → P := upn2 fun h0 h1 => upn1 (h h0 h1)
theorem upn5 {led : Led} {a1 a2 a3 a4 a5 b : Addr} {e1 e2 e3 e4 e5 : Nat × AO} {P : Prop} (h : b ≠ a5 → b ≠ a4 → b ≠ a3 → b ≠ a2 → b ≠ a1 → led b = none → P) : up (up (up (up (up (led) a1 e1) a2 e2) a3 e3) a4 e4) a5 e5 b = none → P := upn4 fun h0 h1 h2 h3 => upn1 (h h0 h1 h2 h3)
theorem upn6 {led : Led} {a1 a2 a3 a4 a5 a6 b : Addr} {e1 e2 e3 e4 e5 e6 : Nat × AO} {P : Prop} (h : b ≠ a6 → b ≠ a5 → b ≠ a4 → b ≠ a3 → b ≠ a2 → b ≠ a1 → led b = none → P) : up (up (up (up (up (up (led) a1 e1) a2 e2) a3 e3) a4 e4) a5 e5) a6 e6 b = none → P := upn4 fun h0 h1 h2 h3 => upn2 (h h0 h1 h2 h3)
theorem upn7 {led : Led} {a1 a2 a3 a4 a5 a6 a7 b : Addr} {e1 e2 e3 e4 e5 e6 e7 : Nat × AO} {P : Prop} (h : b ≠ a7 → b ≠ a6 → b ≠ a5 → b ≠ a4 → b ≠ a3 → b ≠ a2 → b ≠ a1 → led b = none → P) : up (up (up (up (up (up (up (led) a1 e1) a2 e2) a3 e3) a4 e4) a5 e5) a6 e6) a7 e7 b = none → P := upn4 fun h0 h1 h2 h3 => upn3 (h h0 h1 h2 h3)
theorem upn9 {led : Led} {a1 a2 a3 a4 a5 a6 a7 a8 a9 b : Addr} {e1 e2 e3 e4 e5 e6 e7 e8 e9 : Nat × AO} {P : Prop} (h : b ≠ a9 → b ≠ a8 → b ≠ a7 → b ≠ a6 → b ≠ a5 → b ≠ a4 → b ≠ a3 → b ≠ a2 → b ≠ a1 → led b = none → P) : up (up (up (up (up (up (up (up (up (led) a1 e1) a2 e2) a3 e3) a4 e4) a5 e5) a6 e6) a7 e7) a8 e8) a9 e9 b = none → P := upn8 fun h0 h1 h2 h3 h4 h5 h6 h7 => upn1 (h h0 h1 h2 h3 h4 h5 h6 h7)
theorem upn10 {led : Led} {a1 a2 a3 a4 a5 a6 a7 a8 a9 a10 b : Addr} {e1 e2 e3 e4 e5 e6 e7 e8 e9 e10 : Nat × AO} {P : Prop} (h : b ≠ a10 → b ≠ a9 → b ≠ a8 → b ≠ a7 → b ≠ a6 → b ≠ a5 → b ≠ a4 → b ≠ a3 → b ≠ a2 → b ≠ a1 → led b = none → P) : up (up (up (up (up (up (up (up (up (up (led) a1 e1) a2 e2) a3 e3) a4 e4) a5 e5) a6 e6) a7 e7) a8 e8) a9 e9) a10 e10 b = none → P := upn8 fun h0 h1 h2 h3 h4 h5 h6 h7 => upn2 (h h0 h1 h2 h3 h4 h5 h6 h7)
theorem upn12 {led : Led} {a1 a2 a3 a4 a5 a6 a7 a8 a9 a10 a11 a12 b : Addr} {e1 e2 e3 e4 e5 e6 e7 e8 e9 e10 e11 e12 : Nat × AO} {P : Prop} (h : b ≠ a12 → b ≠ a11 → b ≠ a10 → b ≠ a9 → b ≠ a8 → b ≠ a7 → b ≠ a6 → b ≠ a5 → b ≠ a4 → b ≠ a3 → b ≠ a2 → b ≠ a1 → led b = none → P) : up (up (up (up (up (up (up (up (up (up (up (up (led) a1 e1) a2 e2) a3 e3) a4 e4) a5 e5) a6 e6) a7 e7) a8 e8) a9 e9) a10 e10) a11 e11) a12 e12 b = none → P := upn8 fun h0 h1 h2 h3 h4 h5 h6 h7 => upn4 (h h0 h1 h2 h3 h4 h5 h6 h7)
theorem upn14 {led : Led} {a1 a2 a3 a4 a5 a6 a7 a8 a9 a10 a11 a12 a13 a14 b : Addr} {e1 e2 e3 e4 e5 e6 e7 e8 e9 e10 e11 e12 e13 e14 : Nat × AO} {P : Prop} (h : b ≠ a14 → b ≠ a13 → b ≠ a12 → b ≠ a11 → b ≠ a10 → b ≠ a9 → b ≠ a8 → b ≠ a7 → b ≠ a6 → b ≠ a5 → b ≠ a4 → b ≠ a3 → b ≠ a2 → b ≠ a1 → led b = none → P) : up (up (up (up (up (up (up (up (up (up (up (up (up (up (led) a1 e1) a2 e2) a3 e3) a4 e4) a5 e5) a6 e6) a7 e7) a8 e8) a9 e9) a10 e10) a11 e11) a12 e12) a13 e13) a14 e14 b = none → P := upn8 fun h0 h1 h2 h3 h4 h5 h6 h7 => upn6 (h h0 h1 h2 h3 h4 h5 h6 h7)
theorem upn20 {led : Led} {a1 a2 a3 a4 a5 a6 a7 a8 a9 a10 a11 a12 a13 a14 a15 a16 a17 a18 a19 a20 b : Addr} {e1 e2 e3 e4 e5 e6 e7 e8 e9 e10 e11 e12 e13 e14 e15 e16 e17 e18 e19 e20 : Nat × AO} {P : Prop} (h : b ≠ a20 → b ≠ a19 → b ≠ a18 → b ≠ a17 → b ≠ a16 → b ≠ a15 → b ≠ a14 → b ≠ a13 → b ≠ a12 → b ≠ a11 → b ≠ a10 → b ≠ a9 → b ≠ a8 → b ≠ a7 → b ≠ a6 → b ≠ a5 → b ≠ a4 → b ≠ a3 → b ≠ a2 → b ≠ a1 → led b = none → P) : up (up (up (up (up (up (up (up (up (up (up (up (up (up (up (up (up (up (up (up (led) a1 e1) a2 e2) a3 e3) a4 e4) a5 e5) a6 e6) a7 e7) a8 e8) a9 e9) a10 e10) a11 e11) a12 e12) a13 e13) a14 e14) a15 e15) a16 e16) a17 e17) a18 e18) a19 e19) a20 e20 b = none → P := upn16 fun h0 h1 h2 h3 h4 h5 h6 h7 h8 h9 h10 h11 h12 h13 h14 h15 => upn4 (h h0 h1 h2 h3 h4 h5 h6 h7 h8 h9 h10 h11 h12 h13 h14 h15)
theorem up_fr {led : Led} {a b : Addr} {e : Nat × AO} (h : b ≠ a) (k : led b = none) : up led a e b = none := by rw [up_ne h]; exact k
noncomputable def Le (led led' : Led) : Prop := ∀ a e, led a = some e → led' a = some e
theorem Le.rfl' {led : Led} : Le led led := fun _ _ h => h
theorem Le.fresh {led : Led} {b : Addr} {e : Nat × AO} (h : led b = none) : Le led (up led b e) := fun a x q => by rw [up_ne (fun z => by rw [z, h] at q; cases q)]; exact q
theorem Le.up {led led' : Led} {b : Addr} {e : Nat × AO} (h : Le led led') : Le (up led b e) (up led' b e) := fun a x q => by
  by_cases z : a = b
  · subst z; rw [up_eq] at q ⊢; exact q
  · rw [up_ne z] at q ⊢; exact h a x q
theorem Le.trans {l1 l2 l3 : Led} (h : Le l1 l2) (k : Le l2 l3) : Le l1 l3 := fun a e q => k a e (h a e q)
section rules
variable {G : Gd} {A : Around} {stk : List (Addr × Hid)} {L : Addr} {m : Fld} {led : Led} {α β : Type} {E : Value → Shared → Prop}
variable {cn : Str} {cs : Scope} {a : Addr} {ccd : Value} {cl : List (Str × Addr)} {x : Str} {pos : Pos} {v : Value} {env : Env}
theorem after_next {Q : Flow → Fld → Led → Prop} {rest : List Stmt} (H : W G A stk L m led (execs rest env) Q E) : AfterS G A stk L rest env Q E .next m led := H
theorem after_ret {Q : Flow → Fld → Led → Prop} {rest : List Stmt} (q : Q (.ret v) m led) : AfterS G A stk L rest env Q E (.ret v) m led := q
theorem after_cont {Q : Flow → Fld → Led → Prop} {rest : List Stmt} (q : Q .cont m led) : AfterS G A stk L rest env Q E .cont m led := q
theorem W_setOldU {Q : Unit → Fld → Led → Prop} {o C d : Addr} {f : Fld} {n t t' : Nat} {name : Str} {v0 : Value} (hx : up led d (t', .attrs f n) o = some (t, .inst C d)) (hk : okSet (tpx.heap_39 G.w.params) C name = true) (ho : f name = some v0)
    (q : Q () m (up led d (t', .attrs (fup f name v) n))) : W G A stk L m (up led d (t', .attrs f n)) (setAttr (.ref o) name v) Q E := W_setOld hx (up_eq _ _ _) hk ho (by rw [up_up]; exact q)
theorem W_setNewU {Q : Unit → Fld → Led → Prop} {o C d : Addr} {f : Fld} {n t t' : Nat} {name : Str} (hx : up led d (t', .attrs f n) o = some (t, .inst C d)) (hk : okSet (tpx.heap_39 G.w.params) C name = true) (hn : n + 1 ≤ 900)
    (q : Q () m (up led d (t', .attrs (fup f name v) (n + 1)))) : W G A stk L m (up led d (t', .attrs f n)) (setAttr (.ref o) name v) Q E := W_setNew hx (up_eq _ _ _) hk hn (by rw [up_up]; exact q)
theorem W_eqNil {Q : Value → Fld → Led → Prop} {o o' : Addr} {t t' : Nat} (hu : A.units ≤ 9000) (hx : led o = some (t, .list [])) (hy : led o' = some (t', .list [])) (q : Q (.bool true) m led) : W G A stk L m led (compareOp .Eq (.ref o) (.ref o')) Q E := fun h tk I =>
  eq_intsK (s := G.sh h tk) (PlainL.isList (I.led o t _ hx).1) .nil (PlainL.isList (I.led o' t' _ hy).1) .nil (Nat.lt_of_le_of_lt (Nat.add_le_add_right hu 64) (by decide)) ⟨_, _, _, _, rfl, I, q⟩
theorem W_neNil {Q : Value → Fld → Led → Prop} {o o' : Addr} {t t' : Nat} (hu : A.units ≤ 9000) (hx : led o = some (t, .list [])) (hy : led o' = some (t', .list [])) (q : Q (.bool false) m led) : W G A stk L m led (compareOp .NotEq (.ref o) (.ref o')) Q E := fun h tk I =>
  ne_intsK (s := G.sh h tk) (PlainL.isList (I.led o t _ hx).1) .nil (PlainL.isList (I.led o' t' _ hy).1) .nil (Nat.lt_of_le_of_lt (Nat.add_le_add_right hu 64) (by decide)) ⟨_, _, _, _, rfl, I, q⟩
theorem W_notinNil {Q : Value → Fld → Led → Prop} {o : Addr} {t : Nat} (hx : led o = some (t, .list [])) (q : Q (.bool true) m led) : W G A stk L m led (compareOp .NotIn v (.ref o)) Q E := fun h tk I =>
  PySem.SeqAt.notIn_listAt (s := G.sh h tk) (fun _ => true) (PlainL.isList (I.led o t _ hx).1) (fun y hy => by simp at hy) ⟨_, _, _, _, rfl, I, by simpa using q⟩
noncomputable def frameKinds : List Str := ["root", "sub", "task", "protected"]
theorem fk_mk {P : Params} {o : Obj} {its : List Value} {n : Nat} (h : List.lookup 411 (tpx.heap_39 P) = some o) (c : o.cls = .type "tuple") (d : o.data = .seq its.toArray n) (s : StrsAre its frameKinds) :
    ∃ (o : Obj) (its : List Value) (n : Nat), List.lookup 411 (tpx.heap_39 P) = some o ∧ o.cls = .type "tuple" ∧ o.data = .seq its.toArray n ∧ StrsAre its frameKinds := ⟨o, its, n, h, c, d, s⟩
theorem fk_at (P : Params) : ∃ (o : Obj) (its : List Value) (n : Nat), List.lookup 411 (tpx.heap_39 P) = some o ∧ o.cls = .type "tuple" ∧ o.data = .seq its.toArray n ∧ StrsAre its frameKinds := by
  refine' fk_mk ?h ?c ?d ?s
  case h => k_is
  case c => exact rfl
  case d => exact rfl
  case s => exact .cons _ _ (.cons _ _ (.cons _ _ (.cons _ _ .nil)))
theorem fk_any (k : Str) : ∀ {its : List Value} {ys : List Str}, StrsAre its ys → its.any (isStrOf k) = ys.contains k
  | _, _, .nil => rfl
  | _, _, .cons y t r => by
    rw [List.any_cons, List.contains_cons, fk_any k r]
    show ((y == k) || _) = _
    by_cases h : y = k
    · subst h; simp
    · have h1 : (y == k) = false := by simpa using h
      have h2 : (k == y) = false := by simpa using fun e => h e.symm
      rw [h1, h2]
theorem W_inFK {Q : Value → Fld → Led → Prop} {k : Str} {u : Tok} (q : Q (.bool (frameKinds.contains k)) m led) : W G A stk L m led (compareOp .In (.str k u) (.ref 411)) Q E := fun h tk I => by
  obtain ⟨o, its, n, h1, h2, h3, h4⟩ := fk_at G.w.params
  have e := G.X.keeps I.keep _ _ h1
  exact PySem.SeqAt.in_tupleAt (s := G.sh h tk) (isStrOf k) ⟨o, e, h2, n, h3⟩ (fun y hy => (eq_isStrOf k u h4 y (by simpa using hy)).at _ _) ⟨_, _, _, _, rfl, I, by rw [List.any_toArray, fk_any k h4]; exact q⟩
theorem W_notinFK {Q : Value → Fld → Led → Prop} {k : Str} {u : Tok} (q : Q (.bool (!(frameKinds.contains k))) m led) : W G A stk L m led (compareOp .NotIn (.str k u) (.ref 411)) Q E := fun h tk I => by
  obtain ⟨o, its, n, h1, h2, h3, h4⟩ := fk_at G.w.params
  have e := G.X.keeps I.keep _ _ h1
  exact PySem.SeqAt.notIn_tupleAt (s := G.sh h tk) (isStrOf k) ⟨o, e, h2, n, h3⟩ (fun y hy => (eq_isStrOf k u h4 y (by simpa using hy)).at _ _) ⟨_, _, _, _, rfl, I, by rw [List.any_toArray, fk_any k h4]; exact q⟩
theorem W_cast {led' : Led} {t : Sem α} {Q : α → Fld → Led → Prop} (h : led = led') (H : W G A stk L m led' t Q E) : W G A stk L m led t Q E := h ▸ H
section bools
variable {b : Bool}
theorem ifS_t {Q : Flow → Fld → Led → Prop} {body orelse : List Stmt} (hb : b = true) (H : W G A stk L m led (execs body env) Q E) : IfS G A stk L body orelse env Q E b m led := by subst hb; exact H
theorem ifS_f {Q : Flow → Fld → Led → Prop} {body orelse : List Stmt} (hb : b = false) (H : W G A stk L m led (execs orelse env) Q E) : IfS G A stk L body orelse env Q E b m led := by subst hb; exact H
theorem ifE_t {Q : Value → Fld → Led → Prop} {body orelse : Expr} (hb : b = true) (H : W G A stk L m led (eval body env) Q E) : IfE G A stk L body orelse env Q E b m led := by subst hb; exact H
theorem ifE_f {Q : Value → Fld → Led → Prop} {body orelse : Expr} (hb : b = false) (H : W G A stk L m led (eval orelse env) Q E) : IfE G A stk L body orelse env Q E b m led := by subst hb; exact H
theorem andQ_t {Q : Bool → Fld → Led → Prop} {rest : List Expr} {whole : Sem Value} (hb : b = true) (H : W G A stk L m led (PySem.isTrue (.BoolOp .And rest pos) env whole) Q E) : AndQ G A stk L rest pos env whole Q E b m led := by subst hb; exact H
theorem andQ_f {Q : Bool → Fld → Led → Prop} {rest : List Expr} {whole : Sem Value} (hb : b = false) (H : Q false m led) : AndQ G A stk L rest pos env whole Q E b m led := by subst hb; exact H
theorem orQ_f {Q : Bool → Fld → Led → Prop} {rest : List Expr} {whole : Sem Value} (hb : b = false) (H : W G A stk L m led (PySem.isTrue (.BoolOp .Or rest pos) env whole) Q E) : OrQ G A stk L rest pos env whole Q E b m led := by subst hb; exact H
theorem orQ_t {Q : Bool → Fld → Led → Prop} {rest : List Expr} {whole : Sem Value} (hb : b = true) (H : Q true m led) : OrQ G A stk L rest pos env whole Q E b m led := by subst hb; exact H
theorem andV_t {Q : Value → Fld → Led → Prop} {e : Expr} {rest : List Expr} (hb : b = true) (H : W G A stk L m led (eval (.BoolOp .And (e :: rest) pos) env) Q E) : AndV G A stk L e rest pos env Q E v b m led := by subst hb; exact H
theorem andV_f {Q : Value → Fld → Led → Prop} {e : Expr} {rest : List Expr} (hb : b = false) (H : Q v m led) : AndV G A stk L e rest pos env Q E v b m led := by subst hb; exact H
theorem orV_f {Q : Value → Fld → Led → Prop} {e : Expr} {rest : List Expr} (hb : b = false) (H : W G A stk L m led (eval (.BoolOp .Or (e :: rest) pos) env) Q E) : OrV G A stk L e rest pos env Q E v b m led := by subst hb; exact H
theorem orV_t {Q : Value → Fld → Led → Prop} {e : Expr} {rest : List Expr} (hb : b = true) (H : Q v m led) : OrV G A stk L e rest pos env Q E v b m led := by subst hb; exact H
end bools
theorem W_nilA {Q : Flow → Fld → Led → Prop} {rest : List Stmt} {env' : Env} {E' : Value → Shared → Prop} (H : W G A stk L m led (execs rest env) Q E) : W G A stk L m led (execs [] env') (AfterS G A stk L rest env Q E) E' := W_nil H
theorem W_nilS {Q : Flow → Fld → Led → Prop} (H : Q .next m led) : W G A stk L m led (execs [] env) Q E := W_nil H
/- lines of an __init__: self.name = e -/
section init
variable {Q : Flow → Fld → Led → Prop} {sf name y : Str} {o C d : Addr} {f : Fld} {n t t' k : Nat} {p1 p2 p3 p4 : Pos} {rest : List Stmt}
theorem I_core (hself : m sf = some (.ref o)) (hx : led o = some (t, .inst C d)) (hne : o ≠ d) (hk : okSet (tpx.heap_39 G.w.params) C name = true) (hn : n + 1 ≤ 900)
    (h1 : cs.kind = .function) (h2 : (envX cn cs L a ccd cl).kindOf sf = some .local) (h3 : (sf == ("__debug__" : Str)) = false)
    (H : W G A stk L m (up led d (t', .attrs (fup f name v) (n + 1))) (execs rest (envX cn cs L a ccd cl)) Q E) :
    W G A stk L m (up led d (t', .attrs f n)) (eval (.Name sf p1) (envX cn cs L a ccd cl)) (fun ov m2 led2 => W G A stk L m2 led2 (setAttr ov name v) (fun _ => AfterS G A stk L rest (envX cn cs L a ccd cl) Q E .next) E) E :=
  W_nameL hself (W_setNew (t := t) (C := C) (by rw [up_ne hne]; exact hx) (up_eq _ _ _) hk hn (by rw [up_up]; exact H)) h1 h2 h3
theorem I_none (hself : m sf = some (.ref o)) (hx : led o = some (t, .inst C d)) (hne : o ≠ d) (hk : okSet (tpx.heap_39 G.w.params) C name = true) (hn : n + 1 ≤ 900)
    (hS : (cs.kind = .function) ∧ ((envX cn cs L a ccd cl).kindOf sf = some .local) ∧ ((sf == ("__debug__" : Str)) = false) ∧ (swapsWith (.Constant .none k p3) (some (.Attribute (.Name sf p1) name p2)) p4.line (envX cn cs L a ccd cl) = pure false))
    (H : W G A stk L m (up led d (t', .attrs (fup f name .none) (n + 1))) (execs rest (envX cn cs L a ccd cl)) Q E) :
    W G A stk L m (up led d (t', .attrs f n)) (execs (.Assign [.Attribute (.Name sf p1) name p2] (.Constant .none k p3) p4 :: rest) (envX cn cs L a ccd cl)) Q E :=
  let ⟨h1, h2, h3, hs⟩ := hS
  W_cons (W_assignA (W_none (I_core hself hx hne hk hn h1 h2 h3 H)) hs)
theorem I_bool {b : Bool} (hself : m sf = some (.ref o)) (hx : led o = some (t, .inst C d)) (hne : o ≠ d) (hk : okSet (tpx.heap_39 G.w.params) C name = true) (hn : n + 1 ≤ 900)
    (hS : (cs.kind = .function) ∧ ((envX cn cs L a ccd cl).kindOf sf = some .local) ∧ ((sf == ("__debug__" : Str)) = false) ∧ (swapsWith (.Constant (.bool b) k p3) (some (.Attribute (.Name sf p1) name p2)) p4.line (envX cn cs L a ccd cl) = pure false))
    (H : W G A stk L m (up led d (t', .attrs (fup f name (.bool b)) (n + 1))) (execs rest (envX cn cs L a ccd cl)) Q E) :
    W G A stk L m (up led d (t', .attrs f n)) (execs (.Assign [.Attribute (.Name sf p1) name p2] (.Constant (.bool b) k p3) p4 :: rest) (envX cn cs L a ccd cl)) Q E :=
  let ⟨h1, h2, h3, hs⟩ := hS
  W_cons (W_assignA (W_bool (I_core hself hx hne hk hn h1 h2 h3 H)) hs)
theorem I_int {i : Int} (hself : m sf = some (.ref o)) (hx : led o = some (t, .inst C d)) (hne : o ≠ d) (hk : okSet (tpx.heap_39 G.w.params) C name = true) (hn : n + 1 ≤ 900)
    (hS : (cs.kind = .function) ∧ ((envX cn cs L a ccd cl).kindOf sf = some .local) ∧ ((sf == ("__debug__" : Str)) = false) ∧ (swapsWith (.Constant (.int i) k p3) (some (.Attribute (.Name sf p1) name p2)) p4.line (envX cn cs L a ccd cl) = pure false))
    (H : ∀ u, W G A stk L m (up led d (t', .attrs (fup f name (.int i u)) (n + 1))) (execs rest (envX cn cs L a ccd cl)) Q E) :
    W G A stk L m (up led d (t', .attrs f n)) (execs (.Assign [.Attribute (.Name sf p1) name p2] (.Constant (.int i) k p3) p4 :: rest) (envX cn cs L a ccd cl)) Q E :=
  let ⟨h1, h2, h3, hs⟩ := hS
  W_cons (W_assignA (W_int fun u => I_core hself hx hne hk hn h1 h2 h3 (H u)) hs)
theorem I_str {i : Str} (hself : m sf = some (.ref o)) (hx : led o = some (t, .inst C d)) (hne : o ≠ d) (hk : okSet (tpx.heap_39 G.w.params) C name = true) (hn : n + 1 ≤ 900)
    (hS : (cs.kind = .function) ∧ ((envX cn cs L a ccd cl).kindOf sf = some .local) ∧ ((sf == ("__debug__" : Str)) = false) ∧ (swapsWith (.Constant (.str i) k p3) (some (.Attribute (.Name sf p1) name p2)) p4.line (envX cn cs L a ccd cl) = pure false))
    (H : ∀ u, W G A stk L m (up led d (t', .attrs (fup f name (.str i u)) (n + 1))) (execs rest (envX cn cs L a ccd cl)) Q E) :
    W G A stk L m (up led d (t', .attrs f n)) (execs (.Assign [.Attribute (.Name sf p1) name p2] (.Constant (.str i) k p3) p4 :: rest) (envX cn cs L a ccd cl)) Q E :=
  let ⟨h1, h2, h3, hs⟩ := hS
  W_cons (W_assignA (W_str fun u => I_core hself hx hne hk hn h1 h2 h3 (H u)) hs)
theorem I_name (hself : m sf = some (.ref o)) (hv : m y = some v) (hx : led o = some (t, .inst C d)) (hne : o ≠ d) (hk : okSet (tpx.heap_39 G.w.params) C name = true) (hn : n + 1 ≤ 900)
    (hS : (cs.kind = .function) ∧ ((envX cn cs L a ccd cl).kindOf sf = some .local) ∧ ((sf == ("__debug__" : Str)) = false) ∧ ((envX cn cs L a ccd cl).kindOf y = some .local) ∧ ((y == ("__debug__" : Str)) = false) ∧ (swapsWith (.Name y p3) (some (.Attribute (.Name sf p1) name p2)) p4.line (envX cn cs L a ccd cl) = pure false))
    (H : W G A stk L m (up led d (t', .attrs (fup f name v) (n + 1))) (execs rest (envX cn cs L a ccd cl)) Q E) :
    W G A stk L m (up led d (t', .attrs f n)) (execs (.Assign [.Attribute (.Name sf p1) name p2] (.Name y p3) p4 :: rest) (envX cn cs L a ccd cl)) Q E :=
  let ⟨h1, h2, h3, h4, h5, hs⟩ := hS
  W_cons (W_assignA (W_nameL hv (I_core hself hx hne hk hn h1 h2 h3 H) h1 h4 h5) hs)
theorem I_list (tg : Nat) (hself : m sf = some (.ref o)) (hx : led o = some (t, .inst C d)) (hne : o ≠ d) (hk : okSet (tpx.heap_39 G.w.params) C name = true) (hn : n + 1 ≤ 900)
    (hS : (cs.kind = .function) ∧ ((envX cn cs L a ccd cl).kindOf sf = some .local) ∧ ((sf == ("__debug__" : Str)) = false) ∧ (swapsWith (.List [] p3) (some (.Attribute (.Name sf p1) name p2)) p4.line (envX cn cs L a ccd cl) = pure false))
    (H : ∀ b, up led d (t', .attrs f n) b = none → W G A stk L m (up (up led b (tg, .list [])) d (t', .attrs (fup f name (.ref b)) (n + 1))) (execs rest (envX cn cs L a ccd cl)) Q E) :
    W G A stk L m (up led d (t', .attrs f n)) (execs (.Assign [.Attribute (.Name sf p1) name p2] (.List [] p3) p4 :: rest) (envX cn cs L a ccd cl)) Q E :=
  let ⟨h1, h2, h3, hs⟩ := hS
  W_cons (W_assignA (W_list tg (W_args0 ⟨by decide, fun b hb => by
    obtain ⟨hbd, hb'⟩ := up_none hb
    rw [up_comm led hbd.symm]
    exact I_core hself (by rw [up_ne (fun e => by rw [← e, hx] at hb'; cases hb')]; exact hx) hne hk hn h1 h2 h3 (H b hb)⟩)) hs)
theorem I_dict (tg : Nat) (hself : m sf = some (.ref o)) (hx : led o = some (t, .inst C d)) (hne : o ≠ d) (hk : okSet (tpx.heap_39 G.w.params) C name = true) (hn : n + 1 ≤ 900)
    (hS : (cs.kind = .function) ∧ ((envX cn cs L a ccd cl).kindOf sf = some .local) ∧ ((sf == ("__debug__" : Str)) = false) ∧ (swapsWith (.Dict [] [] p3) (some (.Attribute (.Name sf p1) name p2)) p4.line (envX cn cs L a ccd cl) = pure false))
    (H : ∀ b, up led d (t', .attrs f n) b = none → W G A stk L m (up (up led b (tg, .sd (fun _ => none) 0)) d (t', .attrs (fup f name (.ref b)) (n + 1))) (execs rest (envX cn cs L a ccd cl)) Q E) :
    W G A stk L m (up led d (t', .attrs f n)) (execs (.Assign [.Attribute (.Name sf p1) name p2] (.Dict [] [] p3) p4 :: rest) (envX cn cs L a ccd cl)) Q E :=
  let ⟨h1, h2, h3, hs⟩ := hS
  W_cons (W_assignA (W_dict0 tg fun b hb => by
    obtain ⟨hbd, hb'⟩ := up_none hb
    rw [up_comm led hbd.symm]
    exact I_core hself (by rw [up_ne (fun e => by rw [← e, hx] at hb'; cases hb')]; exact hx) hne hk hn h1 h2 h3 (H b hb)) hs)
theorem I_idict (tg : Nat) (hself : m sf = some (.ref o)) (hx : led o = some (t, .inst C d)) (hne : o ≠ d) (hk : okSet (tpx.heap_39 G.w.params) C name = true) (hn : n + 1 ≤ 900)
    (hS : (cs.kind = .function) ∧ ((envX cn cs L a ccd cl).kindOf sf = some .local) ∧ ((sf == ("__debug__" : Str)) = false) ∧ (swapsWith (.Dict [] [] p3) (some (.Attribute (.Name sf p1) name p2)) p4.line (envX cn cs L a ccd cl) = pure false))
    (H : ∀ b, up led d (t', .attrs f n) b = none → W G A stk L m (up (up led b (tg, .idict (fun _ => none) 0)) d (t', .attrs (fup f name (.ref b)) (n + 1))) (execs rest (envX cn cs L a ccd cl)) Q E) :
    W G A stk L m (up led d (t', .attrs f n)) (execs (.Assign [.Attribute (.Name sf p1) name p2] (.Dict [] [] p3) p4 :: rest) (envX cn cs L a ccd cl)) Q E :=
  let ⟨h1, h2, h3, hs⟩ := hS
  W_cons (W_assignA (W_idict0 tg fun b hb => by
    obtain ⟨hbd, hb'⟩ := up_none hb
    rw [up_comm led hbd.symm]
    exact I_core hself (by rw [up_ne (fun e => by rw [← e, hx] at hb'; cases hb')]; exact hx) hne hk hn h1 h2 h3 (H b hb)) hs)
theorem I_listG (hself : m sf = some (.ref o)) (hx : led o = some (t, .inst C d)) (hne : o ≠ d) (hk : okSet (tpx.heap_39 G.w.params) C name = true) (hn : n + 1 ≤ 900)
    (hS : (cs.kind = .function) ∧ ((envX cn cs L a ccd cl).kindOf sf = some .local) ∧ ((sf == ("__debug__" : Str)) = false) ∧ (swapsWith (.List [] p3) (some (.Attribute (.Name sf p1) name p2)) p4.line (envX cn cs L a ccd cl) = pure false))
    (H : ∀ b, W G A stk L m (up led d (t', .attrs (fup f name (.ref b)) (n + 1))) (execs rest (envX cn cs L a ccd cl)) Q E) :
    W G A stk L m (up led d (t', .attrs f n)) (execs (.Assign [.Attribute (.Name sf p1) name p2] (.List [] p3) p4 :: rest) (envX cn cs L a ccd cl)) Q E :=
  I_list 0 hself hx hne hk hn hS fun b hb => W_less (Le.up (Le.fresh (up_none hb).2)) (H b)
theorem I_dictG (hself : m sf = some (.ref o)) (hx : led o = some (t, .inst C d)) (hne : o ≠ d) (hk : okSet (tpx.heap_39 G.w.params) C name = true) (hn : n + 1 ≤ 900)
    (hS : (cs.kind = .function) ∧ ((envX cn cs L a ccd cl).kindOf sf = some .local) ∧ ((sf == ("__debug__" : Str)) = false) ∧ (swapsWith (.Dict [] [] p3) (some (.Attribute (.Name sf p1) name p2)) p4.line (envX cn cs L a ccd cl) = pure false))
    (H : ∀ b, W G A stk L m (up led d (t', .attrs (fup f name (.ref b)) (n + 1))) (execs rest (envX cn cs L a ccd cl)) Q E) :
    W G A stk L m (up led d (t', .attrs f n)) (execs (.Assign [.Attribute (.Name sf p1) name p2] (.Dict [] [] p3) p4 :: rest) (envX cn cs L a ccd cl)) Q E :=
  I_dict 0 hself hx hne hk hn hS fun b hb => W_less (Le.up (Le.fresh (up_none hb).2)) (H b)
theorem I_pairG {i j : Int} {k1 k2 : Nat} {q1 q2 : Pos} (hself : m sf = some (.ref o)) (hx : led o = some (t, .inst C d)) (hne : o ≠ d) (hk : okSet (tpx.heap_39 G.w.params) C name = true) (hn : n + 1 ≤ 900)
    (hS : (cs.kind = .function) ∧ ((envX cn cs L a ccd cl).kindOf sf = some .local) ∧ ((sf == ("__debug__" : Str)) = false) ∧ (swapsWith (.Tuple [.Constant (.int i) k1 q1, .Constant (.int j) k2 q2] k p3) (some (.Attribute (.Name sf p1) name p2)) p4.line (envX cn cs L a ccd cl) = pure false))
    (H : ∀ b, W G A stk L m (up led d (t', .attrs (fup f name (.ref b)) (n + 1))) (execs rest (envX cn cs L a ccd cl)) Q E) :
    W G A stk L m (up led d (t', .attrs f n)) (execs (.Assign [.Attribute (.Name sf p1) name p2] (.Tuple [.Constant (.int i) k1 q1, .Constant (.int j) k2 q2] k p3) p4 :: rest) (envX cn cs L a ccd cl)) Q E :=
  let ⟨h1, h2, h3, hs⟩ := hS
  W_cons (W_assignA (W_tup 0 (W_args (W_int fun _ => W_args (W_int fun _ => W_args0 ⟨(by show 2 ≤ 1000; decide), fun b hb => W_less (Le.fresh hb) (I_core hself hx hne hk hn h1 h2 h3 (H b))⟩)))) hs)
theorem I_nameK (hself : m sf = some (.ref o)) (hv : nsIn (tpx.heap_39 G.w.params) mainGlobals y = some (some v)) (hx : led o = some (t, .inst C d)) (hne : o ≠ d) (hk : okSet (tpx.heap_39 G.w.params) C name = true) (hn : n + 1 ≤ 900)
    (hS : (cs.kind = .function) ∧ ((envX cn cs L a ccd cl).kindOf sf = some .local) ∧ ((sf == ("__debug__" : Str)) = false) ∧ ((envX cn cs L a ccd cl).kindOf y = some .globalImplicit) ∧ ((y == ("__debug__" : Str)) = false) ∧ (swapsWith (.Name y p3) (some (.Attribute (.Name sf p1) name p2)) p4.line (envX cn cs L a ccd cl) = pure false))
    (H : W G A stk L m (up led d (t', .attrs (fup f name v) (n + 1))) (execs rest (envX cn cs L a ccd cl)) Q E) :
    W G A stk L m (up led d (t', .attrs f n)) (execs (.Assign [.Attribute (.Name sf p1) name p2] (.Name y p3) p4 :: rest) (envX cn cs L a ccd cl)) Q E :=
  let ⟨h1, h2, h3, h4, h5, hs⟩ := hS
  W_cons (W_assignA (W_nameK hv (I_core hself hx hne hk hn h1 h2 h3 H) h1 h4 h5) hs)
end init
/-- positional arguments, no defaults -/
noncomputable def bindM (binds : List (Str × Value)) : Fld := binds.foldl (fun m p => fup m p.1 p.2) (fun _ => none)
theorem bindM_eq : ∀ (binds : List (Str × Value)), (fun y => binds.reverse.lookup y) = bindM binds := fun binds => by
  have : ∀ (l : List (Str × Value)) (m : Fld), l.foldl (fun m p => fup m p.1 p.2) m = fun y => (l.reverse.lookup y).or (m y) := by
    intro l
    induction l with
    | nil => intro m; funext y; simp
    | cons p r ih =>
      intro m
      rw [List.foldl_cons, ih]
      funext y
      rw [List.reverse_cons, List.lookup_append]
      cases h : r.reverse.lookup y with
      | some u => simp
      | none =>
        simp only [Option.none_or, fup]
        by_cases hy : y = p.1
        · subst hy; simp [List.lookup]
        · have : (y == p.1) = false := by simpa using hy
          simp [this, hy, List.lookup]
  unfold bindM
  rw [this]
  funext y
  simp
theorem Fn_posS (names : List Str) {Q : Value → Led → Prop} {name qual : Str} {params : Arguments} {body : List Stmt} {scope : Scope} {dV kV doc pm cdv ct oc : Value} {an od : Option Addr} {osl : Array (Option Value)} {f : Addr} {args : List Value}
    (ho : List.lookup f (tpx.heap_39 G.w.params) = some ⟨oc, od, .func (fnOf name qual params body scope dV kV doc pm an cdv ct), osl⟩) (hcd : codeIn (tpx.heap_39 G.w.params) cdv qual = true) (hroom : A.depth ≤ 900)
    (hbind : bindArgs (fnOf name qual params body scope dV kV doc pm an cdv ct) ⟨args, []⟩ = pure (names.zip args)) (hloc : names.all (fun y => decide (scope.names.lookup y = some .local)) = true)
    (hco : scope.isCoroutine = false) (hgen : scope.isGenerator = false) (hk : scope.kind = .function) (hcell : ∀ x ∈ scope.names, x.2 ≠ .cell)
    (H : ∀ L' E, W G (A.deeper (envX qual scope L' f cdv [])) ((L, .fr m) :: stk) L' (bindM (names.zip args)) led (execs body (envX qual scope L' f cdv [])) (fun fl _ led' => Q (retOf fl) led') E) :
    FnC G A stk L m led (.ref f) args Q E :=
  Fn_def (binds := names.zip args) ho hcd (Nat.lt_of_le_of_lt hroom (by decide)) (fun s X => BindsTo.of_eq hbind) (fun y hy => by
    have h1 := List.all_eq_true.mp hloc y.1 (List.of_mem_zip hy).1
    exact of_decide_eq_true h1) (fun L' => by rw [bindM_eq]; exact H L' _) hco hgen hk hcell
theorem Fn_pos (names : List Str) {Q : Value → Led → Prop} {name qual : Str} {params : Arguments} {body : List Stmt} {scope : Scope} {dV kV doc pm cdv ct oc : Value} {an od : Option Addr} {osl : Array (Option Value)} {f : Addr} {args : List Value}
    (ho : List.lookup f (tpx.heap_39 G.w.params) = some ⟨oc, od, .func (fnOf name qual params body scope dV kV doc pm an cdv ct), osl⟩) (hcd : codeIn (tpx.heap_39 G.w.params) cdv qual = true) (hroom : A.depth ≤ 900)
    (hbind : bindArgs (fnOf name qual params body scope dV kV doc pm an cdv ct) ⟨args, []⟩ = pure (names.zip args)) (hloc : names.all (fun y => decide (scope.names.lookup y = some .local)) = true)
    (hco : scope.isCoroutine = false) (hgen : scope.isGenerator = false) (hk : scope.kind = .function) (hcell : ∀ x ∈ scope.names, x.2 ≠ .cell)
    (H : ∀ L' E stk', W G (A.deeper (envX qual scope L' f cdv [])) stk' L' (bindM (names.zip args)) led (execs body (envX qual scope L' f cdv [])) (fun fl _ led' => Q (retOf fl) led') E) :
    FnC G A stk L m led (.ref f) args Q E :=
  Fn_posS names ho hcd hroom hbind hloc hco hgen hk hcell fun L' E => H L' E _
theorem Fn_new {Q : Value → Led → Prop} {C fI : Addr} {args : List Value} (tx td : Nat) (hm : makesIn (tpx.heap_39 G.w.params) C = true) (hi : findIn (tpx.heap_39 G.w.params) (.ref C) "__init__" = some (some (.ref fI))) (hf : isFn (tpx.heap_39 G.w.params) (.ref fI) = true)
    (H : ∀ x d, led x = none → led d = none → x ≠ d → ∀ A' : Around, A'.depth = A.depth + 1 → A'.handled = A.handled → 
      FnC G A' stk L m (up (up led x (tx, .inst C d)) d (td, .attrs (fun _ => none) 0)) (.ref fI) (.ref x :: args) (fun v led' => v = .none ∧ Q (.ref x) led') E) :
    FnC G A stk L m led (.ref C) args Q E :=
  Fn_make tx td hm hi hf fun x d hx hd hxd => by
    rw [up_comm led hxd.symm]
    exact H x d hx hd hxd _ (depth_under_make _ _ _) rfl
end rules
local macro_rules | `(tactic| walk_at "enter") => `(tactic| ((case ho => k_is); (case hcd => k_is); (case hroom => omega); (case hbind => exact rfl); (case hloc => exact rfl); (case hco => exact rfl); (case hgen => exact rfl); (case hk => exact rfl); (case hcell => decide)))
local macro_rules | `(tactic| walk_at "side") => `(tactic| ((case hk => kernel_rfl); (case hn => decide); (case hS => (repeat' apply And.intro) <;> rfl)))
section
variable {G : Gd} {A : Around} {stk : List (Addr × Hid)} {L : Addr} {m : Fld} {led : Led} {E : Value → Shared → Prop}
set_option maxRecDepth 100000
set_option maxHeartbeats 4000000
theorem new_Cell {Q : Value → Led → Prop} (tx td : Nat) {a_value a_number : Value} (hA : A.depth ≤ 800)
    (H : ∀ (x d : Addr) (f : Fld), led x = none → led d = none → x ≠ d → f "value" = some (a_value) → Q (.ref x) (up (up led x (tx, .inst 89 d)) d (td, .attrs f 3))) :
    FnC G A stk L m led (.ref 89) [a_value, a_number] Q E := by
  refine' Fn_new tx td ?h1 ?h2 ?h3 ?_
  case h1 => k_is
  case h2 => k_is
  case h3 => k_is
  intro x d hx hd hxd A1 hA1 _
  refine' Fn_pos ["self", "value", "number"] ?ho ?hcd ?hroom ?hbind ?hloc ?hco ?hgen ?hk ?hcell ?_
  walk_at "enter"
  intro L1 E1 stk1
  refine' W_mg3 "self" "value" "number" (v0 := .ref x) (v1 := a_value) (v2 := a_number) ?zm0 ?zm1 ?zm2 ?_
  case zm0 => exact rfl
  case zm1 => exact rfl
  case zm2 => exact rfl
  intro m1 e0 e1 e2
  have hx1 : up led x (tx, .inst 89 d) x = some (tx, .inst 89 d) := up_eq _ _ _
  with_reducible refine I_name e0 e1 hx1 hxd ?hk ?hn ?hS ?_
  walk_at "side"
  with_reducible refine I_name e0 e2 hx1 hxd ?hk ?hn ?hS ?_
  walk_at "side"
  with_reducible refine I_none e0 hx1 hxd ?hk ?hn ?hS ?_
  walk_at "side"
  refine W_nil ⟨rfl, ?_⟩
  refine H x d _ hx hd hxd ?f0
  all_goals rfl
theorem new_CellMaker {Q : Value → Led → Prop} (tx td : Nat) {a_0 : Value} (hA : A.depth ≤ 800)
    (H : ∀ (x d : Addr) (u_last : Tok) (f : Fld), led x = none → led d = none → x ≠ d → f "last" = some (.int 0 u_last) → f "make_cell" = none → Q (.ref x) (up (up led x (tx, .inst 117 d)) d (td, .attrs f 1))) :
    FnC G A stk L m led (.ref 117) [] Q E := by
  refine' Fn_new tx td ?h1 ?h2 ?h3 ?_
  case h1 => k_is
  case h2 => k_is
  case h3 => k_is
  intro x d hx hd hxd A1 hA1 _
  refine' Fn_pos ["self"] ?ho ?hcd ?hroom ?hbind ?hloc ?hco ?hgen ?hk ?hcell ?_
  walk_at "enter"
  intro L1 E1 stk1
  refine' W_mg1 "self" (v0 := .ref x) ?zm0 ?_
  case zm0 => exact rfl
  intro m1 e0
  have hx1 : up led x (tx, .inst 117 d) x = some (tx, .inst 117 d) := up_eq _ _ _
  with_reducible refine I_int e0 hx1 hxd ?hk ?hn ?hS ?_
  walk_at "side"
  intro u_last
  refine W_nil ⟨rfl, ?_⟩
  refine H x d u_last _ hx hd hxd ?f0 ?g0
  all_goals rfl
theorem new_RecordValue {Q : Value → Led → Prop} (tx td : Nat) {a_t a_fields : Value} (hA : A.depth ≤ 800)
    (H : ∀ (x d : Addr) (f : Fld), led x = none → led d = none → x ≠ d → f "type" = some (a_t) → Q (.ref x) (up (up led x (tx, .inst 138 d)) d (td, .attrs f 2))) :
    FnC G A stk L m led (.ref 138) [a_t, a_fields] Q E := by
  refine' Fn_new tx td ?h1 ?h2 ?h3 ?_
  case h1 => k_is
  case h2 => k_is
  case h3 => k_is
  intro x d hx hd hxd A1 hA1 _
  refine' Fn_pos ["self", "t", "fields"] ?ho ?hcd ?hroom ?hbind ?hloc ?hco ?hgen ?hk ?hcell ?_
  walk_at "enter"
  intro L1 E1 stk1
  refine' W_mg3 "self" "t" "fields" (v0 := .ref x) (v1 := a_t) (v2 := a_fields) ?zm0 ?zm1 ?zm2 ?_
  case zm0 => exact rfl
  case zm1 => exact rfl
  case zm2 => exact rfl
  intro m1 e0 e1 e2
  have hx1 : up led x (tx, .inst 138 d) x = some (tx, .inst 138 d) := up_eq _ _ _
  with_reducible refine I_name e0 e1 hx1 hxd ?hk ?hn ?hS ?_
  walk_at "side"
  with_reducible refine I_name e0 e2 hx1 hxd ?hk ?hn ?hS ?_
  walk_at "side"
  refine W_nil ⟨rfl, ?_⟩
  refine H x d _ hx hd hxd ?f0
  all_goals rfl
theorem new_Frame {Q : Value → Led → Prop} (tx td : Nat) {a_parent a_sub : Value} (hA : A.depth ≤ 800)
    (H : ∀ (x d : Addr) (b_names : Addr) (f : Fld), led x = none → led d = none → x ≠ d → b_names ≠ d → (up led x (tx, .inst 159 d)) b_names = none → f "parent" = some (a_parent) → f "names" = some (.ref b_names) → Q (.ref x) (up (up (up led x (tx, .inst 159 d)) b_names (1005, .sd (fun _ => none) 0)) d (td, .attrs f 4))) :
    FnC G A stk L m led (.ref 159) [a_parent, a_sub] Q E := by
  refine' Fn_new tx td ?h1 ?h2 ?h3 ?_
  case h1 => k_is
  case h2 => k_is
  case h3 => k_is
  intro x d hx hd hxd A1 hA1 _
  refine' Fn_pos ["self", "parent", "sub"] ?ho ?hcd ?hroom ?hbind ?hloc ?hco ?hgen ?hk ?hcell ?_
  walk_at "enter"
  intro L1 E1 stk1
  refine' W_mg3 "self" "parent" "sub" (v0 := .ref x) (v1 := a_parent) (v2 := a_sub) ?zm0 ?zm1 ?zm2 ?_
  case zm0 => exact rfl
  case zm1 => exact rfl
  case zm2 => exact rfl
  intro m1 e0 e1 e2
  have hx1 : up led x (tx, .inst 159 d) x = some (tx, .inst 159 d) := up_eq _ _ _
  with_reducible refine I_name e0 e1 hx1 hxd ?hk ?hn ?hS ?_
  walk_at "side"
  with_reducible refine I_name e0 e2 hx1 hxd ?hk ?hn ?hS ?_
  walk_at "side"
  with_reducible refine I_dict 1005 e0 hx1 hxd ?hk ?hn ?hS ?_
  walk_at "side"
  intro b_names hb_names
  obtain ⟨hb1_names, hb2_names⟩ := up_none hb_names
  have hx1_ := up_keep (e' := (1005, .sd (fun _ => none) 0)) hx1 hb2_names
  with_reducible refine I_dictG e0 hx1_ hxd ?hk ?hn ?hS ?_
  walk_at "side"
  intro b_types
  refine W_nil ⟨rfl, ?_⟩
  refine H x d b_names _ hx hd hxd hb1_names hb2_names ?f0 ?f1
  all_goals rfl
theorem new_SubThing {Q : Value → Led → Prop} (tx td : Nat) {a_sub a_frame : Value} (hA : A.depth ≤ 800)
    (H : ∀ (x d : Addr) (f : Fld), led x = none → led d = none → x ≠ d → f "sub" = some (a_sub) → Q (.ref x) (up (up led x (tx, .inst 229 d)) d (td, .attrs f 3))) :
    FnC G A stk L m led (.ref 229) [a_sub, a_frame] Q E := by
  refine' Fn_new tx td ?h1 ?h2 ?h3 ?_
  case h1 => k_is
  case h2 => k_is
  case h3 => k_is
  intro x d hx hd hxd A1 hA1 _
  refine' Fn_pos ["self", "sub", "frame"] ?ho ?hcd ?hroom ?hbind ?hloc ?hco ?hgen ?hk ?hcell ?_
  walk_at "enter"
  intro L1 E1 stk1
  refine' W_mg3 "self" "sub" "frame" (v0 := .ref x) (v1 := a_sub) (v2 := a_frame) ?zm0 ?zm1 ?zm2 ?_
  case zm0 => exact rfl
  case zm1 => exact rfl
  case zm2 => exact rfl
  intro m1 e0 e1 e2
  have hx1 : up led x (tx, .inst 229 d) x = some (tx, .inst 229 d) := up_eq _ _ _
  with_reducible refine I_name e0 e1 hx1 hxd ?hk ?hn ?hS ?_
  walk_at "side"
  with_reducible refine I_name e0 e2 hx1 hxd ?hk ?hn ?hS ?_
  walk_at "side"
  with_reducible refine I_none e0 hx1 hxd ?hk ?hn ?hS ?_
  walk_at "side"
  refine W_nil ⟨rfl, ?_⟩
  refine H x d _ hx hd hxd ?f0
  all_goals rfl
theorem new_BodyThing {Q : Value → Led → Prop} (tx td : Nat) {a_body a_frame : Value} (hA : A.depth ≤ 800)
    (H : ∀ (x d : Addr) (f : Fld), led x = none → led d = none → x ≠ d → f "body" = some (a_body) → Q (.ref x) (up (up led x (tx, .inst 587 d)) d (td, .attrs f 2))) :
    FnC G A stk L m led (.ref 587) [a_body, a_frame] Q E := by
  refine' Fn_new tx td ?h1 ?h2 ?h3 ?_
  case h1 => k_is
  case h2 => k_is
  case h3 => k_is
  intro x d hx hd hxd A1 hA1 _
  refine' Fn_pos ["self", "body", "frame"] ?ho ?hcd ?hroom ?hbind ?hloc ?hco ?hgen ?hk ?hcell ?_
  walk_at "enter"
  intro L1 E1 stk1
  refine' W_mg3 "self" "body" "frame" (v0 := .ref x) (v1 := a_body) (v2 := a_frame) ?zm0 ?zm1 ?zm2 ?_
  case zm0 => exact rfl
  case zm1 => exact rfl
  case zm2 => exact rfl
  intro m1 e0 e1 e2
  have hx1 : up led x (tx, .inst 587 d) x = some (tx, .inst 587 d) := up_eq _ _ _
  with_reducible refine I_name e0 e1 hx1 hxd ?hk ?hn ?hS ?_
  walk_at "side"
  with_reducible refine I_name e0 e2 hx1 hxd ?hk ?hn ?hS ?_
  walk_at "side"
  refine W_nil ⟨rfl, ?_⟩
  refine H x d _ hx hd hxd ?f0
  all_goals rfl
theorem new_Sub {Q : Value → Led → Prop} (tx td : Nat) {a_name : Value} (hA : A.depth ≤ 800)
    (H : ∀ (x d : Addr) (b_params : Addr) (b_control : Addr) (u_ups : Tok) (u_operation : Tok) (f : Fld), led x = none → led d = none → x ≠ d → f "name" = some (a_name) → f "params" = some (.ref b_params) → f "result" = some (.none) → f "ups" = some (.int 0 u_ups) → f "operation" = some (.str (Str.ofString "") u_operation) → f "control" = some (.ref b_control) → Q (.ref x) (up (up led x (tx, .inst 269 d)) d (td, .attrs f 11))) :
    FnC G A stk L m led (.ref 269) [a_name] Q E := by
  refine' Fn_new tx td ?h1 ?h2 ?h3 ?_
  case h1 => k_is
  case h2 => k_is
  case h3 => k_is
  intro x d hx hd hxd A1 hA1 _
  refine' Fn_pos ["self", "name"] ?ho ?hcd ?hroom ?hbind ?hloc ?hco ?hgen ?hk ?hcell ?_
  walk_at "enter"
  intro L1 E1 stk1
  refine' W_mg2 "self" "name" (v0 := .ref x) (v1 := a_name) ?zm0 ?zm1 ?_
  case zm0 => exact rfl
  case zm1 => exact rfl
  intro m1 e0 e1
  have hx1 : up led x (tx, .inst 269 d) x = some (tx, .inst 269 d) := up_eq _ _ _
  with_reducible refine I_name e0 e1 hx1 hxd ?hk ?hn ?hS ?_
  walk_at "side"
  with_reducible refine I_listG e0 hx1 hxd ?hk ?hn ?hS ?_
  walk_at "side"
  intro b_params
  with_reducible refine I_none e0 hx1 hxd ?hk ?hn ?hS ?_
  walk_at "side"
  with_reducible refine I_listG e0 hx1 hxd ?hk ?hn ?hS ?_
  walk_at "side"
  intro b_decls
  with_reducible refine I_listG e0 hx1 hxd ?hk ?hn ?hS ?_
  walk_at "side"
  intro b_stmts
  with_reducible refine I_listG e0 hx1 hxd ?hk ?hn ?hS ?_
  walk_at "side"
  intro b_handlers
  with_reducible refine I_int e0 hx1 hxd ?hk ?hn ?hS ?_
  walk_at "side"
  intro u_ups
  with_reducible refine I_str e0 hx1 hxd ?hk ?hn ?hS ?_
  walk_at "side"
  intro u_operation
  with_reducible refine I_listG e0 hx1 hxd ?hk ?hn ?hS ?_
  walk_at "side"
  intro b_control
  with_reducible refine I_none e0 hx1 hxd ?hk ?hn ?hS ?_
  walk_at "side"
  with_reducible refine I_none e0 hx1 hxd ?hk ?hn ?hS ?_
  walk_at "side"
  refine W_nil ⟨rfl, ?_⟩
  refine H x d b_params b_control u_ups u_operation _ hx hd hxd ?f0 ?f1 ?f2 ?f3 ?f4 ?f5
  all_goals rfl
theorem new_Scope {Q : Value → Led → Prop} (tx td : Nat) {a_place a_limits a_choose a_types : Value} (hA : A.depth ≤ 800)
    (H : ∀ (x d : Addr) (u_line : Tok) (u_count : Tok) (f : Fld), led x = none → led d = none → x ≠ d → f "place" = some (a_place) → f "line" = some (.int 1 u_line) → f "count" = some (.int 100 u_count) → Q (.ref x) (up (up led x (tx, .inst 290 d)) d (td, .attrs f 13))) :
    FnC G A stk L m led (.ref 290) [a_place, a_limits, a_choose, a_types] Q E := by
  refine' Fn_new tx td ?h1 ?h2 ?h3 ?_
  case h1 => k_is
  case h2 => k_is
  case h3 => k_is
  intro x d hx hd hxd A1 hA1 _
  refine' Fn_pos ["self", "place", "limits", "choose", "types"] ?ho ?hcd ?hroom ?hbind ?hloc ?hco ?hgen ?hk ?hcell ?_
  walk_at "enter"
  intro L1 E1 stk1
  refine' W_mg5 "self" "place" "limits" "choose" "types" (v0 := .ref x) (v1 := a_place) (v2 := a_limits) (v3 := a_choose) (v4 := a_types) ?zm0 ?zm1 ?zm2 ?zm3 ?zm4 ?_
  case zm0 => exact rfl
  case zm1 => exact rfl
  case zm2 => exact rfl
  case zm3 => exact rfl
  case zm4 => exact rfl
  intro m1 e0 e1 e2 e3 e4
  have hx1 : up led x (tx, .inst 290 d) x = some (tx, .inst 290 d) := up_eq _ _ _
  with_reducible refine I_name e0 e1 hx1 hxd ?hk ?hn ?hS ?_
  walk_at "side"
  with_reducible refine I_name e0 e2 hx1 hxd ?hk ?hn ?hS ?_
  walk_at "side"
  with_reducible refine I_name e0 e3 hx1 hxd ?hk ?hn ?hS ?_
  walk_at "side"
  with_reducible refine I_name e0 e4 hx1 hxd ?hk ?hn ?hS ?_
  walk_at "side"
  with_reducible refine I_none e0 hx1 hxd ?hk ?hn ?hS ?_
  walk_at "side"
  with_reducible refine I_none e0 hx1 hxd ?hk ?hn ?hS ?_
  walk_at "side"
  with_reducible refine I_dictG e0 hx1 hxd ?hk ?hn ?hS ?_
  walk_at "side"
  intro b_builders
  with_reducible refine I_dictG e0 hx1 hxd ?hk ?hn ?hS ?_
  walk_at "side"
  intro b_ways
  with_reducible refine I_dictG e0 hx1 hxd ?hk ?hn ?hS ?_
  walk_at "side"
  intro b_declarations
  with_reducible refine I_dictG e0 hx1 hxd ?hk ?hn ?hS ?_
  walk_at "side"
  intro b_statements
  with_reducible refine I_int e0 hx1 hxd ?hk ?hn ?hS ?_
  walk_at "side"
  intro u_line
  with_reducible refine I_int e0 hx1 hxd ?hk ?hn ?hS ?_
  walk_at "side"
  intro u_count
  with_reducible refine I_int e0 hx1 hxd ?hk ?hn ?hS ?_
  walk_at "side"
  intro u_under_way
  refine W_nil ⟨rfl, ?_⟩
  refine H x d u_line u_count _ hx hd hxd ?f0 ?f1 ?f2
  all_goals rfl
theorem new_Entity {Q : Value → Led → Prop} (tx td : Nat) {a_kind a_name a_key a_subtype a_data a_line : Value} (hA : A.depth ≤ 800)
    (H : ∀ (x d : Addr) (u_number : Tok) (u_unique : Tok) (u_part : Tok) (f : Fld), led x = none → led d = none → x ≠ d → f "kind" = some (a_kind) → f "name" = some (a_name) → f "key" = some (a_key) → f "line" = some (a_line) → f "number" = some (.int 0 u_number) → f "unique" = some (.str (Str.ofString "") u_unique) → f "home" = some (.none) → f "part" = some (.str (Str.ofString "") u_part) → f "is_implicit" = some (.bool false) → f "is_overridden" = some (.bool false) → f "is_ready" = some (.bool false) → Q (.ref x) (up (up led x (tx, .inst 318 d)) d (td, .attrs f 17))) :
    FnC G A stk L m led (.ref 318) [a_kind, a_name, a_key, a_subtype, a_data, a_line] Q E := by
  refine' Fn_new tx td ?h1 ?h2 ?h3 ?_
  case h1 => k_is
  case h2 => k_is
  case h3 => k_is
  intro x d hx hd hxd A1 hA1 _
  refine' Fn_pos ["self", "kind", "name", "key", "subtype", "data", "line"] ?ho ?hcd ?hroom ?hbind ?hloc ?hco ?hgen ?hk ?hcell ?_
  walk_at "enter"
  intro L1 E1 stk1
  refine' W_mg7 "self" "kind" "name" "key" "subtype" "data" "line" (v0 := .ref x) (v1 := a_kind) (v2 := a_name) (v3 := a_key) (v4 := a_subtype) (v5 := a_data) (v6 := a_line) ?zm0 ?zm1 ?zm2 ?zm3 ?zm4 ?zm5 ?zm6 ?_
  case zm0 => exact rfl
  case zm1 => exact rfl
  case zm2 => exact rfl
  case zm3 => exact rfl
  case zm4 => exact rfl
  case zm5 => exact rfl
  case zm6 => exact rfl
  intro m1 e0 e1 e2 e3 e4 e5 e6
  have hx1 : up led x (tx, .inst 318 d) x = some (tx, .inst 318 d) := up_eq _ _ _
  with_reducible refine I_name e0 e1 hx1 hxd ?hk ?hn ?hS ?_
  walk_at "side"
  with_reducible refine I_name e0 e2 hx1 hxd ?hk ?hn ?hS ?_
  walk_at "side"
  with_reducible refine I_name e0 e3 hx1 hxd ?hk ?hn ?hS ?_
  walk_at "side"
  with_reducible refine I_name e0 e4 hx1 hxd ?hk ?hn ?hS ?_
  walk_at "side"
  with_reducible refine I_name e0 e5 hx1 hxd ?hk ?hn ?hS ?_
  walk_at "side"
  with_reducible refine I_name e0 e6 hx1 hxd ?hk ?hn ?hS ?_
  walk_at "side"
  with_reducible refine I_int e0 hx1 hxd ?hk ?hn ?hS ?_
  walk_at "side"
  intro u_number
  with_reducible refine I_str e0 hx1 hxd ?hk ?hn ?hS ?_
  walk_at "side"
  intro u_unique
  with_reducible refine I_none e0 hx1 hxd ?hk ?hn ?hS ?_
  walk_at "side"
  with_reducible refine I_str e0 hx1 hxd ?hk ?hn ?hS ?_
  walk_at "side"
  intro u_part
  with_reducible refine I_none e0 hx1 hxd ?hk ?hn ?hS ?_
  walk_at "side"
  with_reducible refine I_none e0 hx1 hxd ?hk ?hn ?hS ?_
  walk_at "side"
  with_reducible refine I_bool e0 hx1 hxd ?hk ?hn ?hS ?_
  walk_at "side"
  with_reducible refine I_bool e0 hx1 hxd ?hk ?hn ?hS ?_
  walk_at "side"
  with_reducible refine I_bool e0 hx1 hxd ?hk ?hn ?hS ?_
  walk_at "side"
  with_reducible refine I_bool e0 hx1 hxd ?hk ?hn ?hS ?_
  walk_at "side"
  with_reducible refine I_bool e0 hx1 hxd ?hk ?hn ?hS ?_
  walk_at "side"
  refine W_nil ⟨rfl, ?_⟩
  refine H x d u_number u_unique u_part _ hx hd hxd ?f0 ?f1 ?f2 ?f3 ?f4 ?f5 ?f6 ?f7 ?f8 ?f9 ?f10
  all_goals rfl
theorem new_TaskThing {Q : Value → Led → Prop} (tx td : Nat) {a_number a_name a_master : Value} (hA : A.depth ≤ 800)
    (H : ∀ (x d : Addr) (f : Fld), led x = none → led d = none → x ≠ d → f "frame" = some (.none) → Q (.ref x) (up (up led x (tx, .inst 368 d)) d (td, .attrs f 26))) :
    FnC G A stk L m led (.ref 368) [a_number, a_name, a_master] Q E := by
  refine' Fn_new tx td ?h1 ?h2 ?h3 ?_
  case h1 => k_is
  case h2 => k_is
  case h3 => k_is
  intro x d hx hd hxd A1 hA1 _
  refine' Fn_pos ["self", "number", "name", "master"] ?ho ?hcd ?hroom ?hbind ?hloc ?hco ?hgen ?hk ?hcell ?_
  walk_at "enter"
  intro L1 E1 stk1
  refine' W_mg4 "self" "number" "name" "master" (v0 := .ref x) (v1 := a_number) (v2 := a_name) (v3 := a_master) ?zm0 ?zm1 ?zm2 ?zm3 ?_
  case zm0 => exact rfl
  case zm1 => exact rfl
  case zm2 => exact rfl
  case zm3 => exact rfl
  intro m1 e0 e1 e2 e3
  have hx1 : up led x (tx, .inst 368 d) x = some (tx, .inst 368 d) := up_eq _ _ _
  with_reducible refine I_name e0 e1 hx1 hxd ?hk ?hn ?hS ?_
  walk_at "side"
  with_reducible refine I_name e0 e2 hx1 hxd ?hk ?hn ?hS ?_
  walk_at "side"
  with_reducible refine I_name e0 e3 hx1 hxd ?hk ?hn ?hS ?_
  walk_at "side"
  refine' I_nameK e0 ?hv hx1 hxd ?hk ?hn ?hS ?_
  case hv => k_is
  walk_at "side"
  with_reducible refine I_dictG e0 hx1 hxd ?hk ?hn ?hS ?_
  walk_at "side"
  intro b_queues
  with_reducible refine I_listG e0 hx1 hxd ?hk ?hn ?hS ?_
  walk_at "side"
  intro b_open
  with_reducible refine I_none e0 hx1 hxd ?hk ?hn ?hS ?_
  walk_at "side"
  with_reducible refine I_none e0 hx1 hxd ?hk ?hn ?hS ?_
  walk_at "side"
  with_reducible refine I_none e0 hx1 hxd ?hk ?hn ?hS ?_
  walk_at "side"
  with_reducible refine I_listG e0 hx1 hxd ?hk ?hn ?hS ?_
  walk_at "side"
  intro b_serving
  with_reducible refine I_listG e0 hx1 hxd ?hk ?hn ?hS ?_
  walk_at "side"
  intro b_masters
  with_reducible refine I_none e0 hx1 hxd ?hk ?hn ?hS ?_
  walk_at "side"
  with_reducible refine I_none e0 hx1 hxd ?hk ?hn ?hS ?_
  walk_at "side"
  with_reducible refine I_bool e0 hx1 hxd ?hk ?hn ?hS ?_
  walk_at "side"
  with_reducible refine I_int e0 hx1 hxd ?hk ?hn ?hS ?_
  walk_at "side"
  intro u_inside
  with_reducible refine I_none e0 hx1 hxd ?hk ?hn ?hS ?_
  walk_at "side"
  with_reducible refine I_int e0 hx1 hxd ?hk ?hn ?hS ?_
  walk_at "side"
  intro u_pending
  with_reducible refine I_bool e0 hx1 hxd ?hk ?hn ?hS ?_
  walk_at "side"
  with_reducible refine I_listG e0 hx1 hxd ?hk ?hn ?hS ?_
  walk_at "side"
  intro b_stack
  with_reducible refine I_none e0 hx1 hxd ?hk ?hn ?hS ?_
  walk_at "side"
  with_reducible refine I_none e0 hx1 hxd ?hk ?hn ?hS ?_
  walk_at "side"
  with_reducible refine I_listG e0 hx1 hxd ?hk ?hn ?hS ?_
  walk_at "side"
  intro b_bases
  with_reducible refine I_listG e0 hx1 hxd ?hk ?hn ?hS ?_
  walk_at "side"
  intro b_caught
  with_reducible refine I_none e0 hx1 hxd ?hk ?hn ?hS ?_
  walk_at "side"
  with_reducible refine I_none e0 hx1 hxd ?hk ?hn ?hS ?_
  walk_at "side"
  with_reducible refine I_int e0 hx1 hxd ?hk ?hn ?hS ?_
  walk_at "side"
  intro u_line
  refine W_nil ⟨rfl, ?_⟩
  refine H x d _ hx hd hxd ?f0
  all_goals rfl
theorem new_Subtype {Q : Value → Led → Prop} (tx td : Nat) {a_t a_constraint : Value} (hA : A.depth ≤ 800)
    (H : ∀ (x d : Addr) (f : Fld), led x = none → led d = none → x ≠ d → f "type" = some (a_t) → Q (.ref x) (up (up led x (tx, .inst 531 d)) d (td, .attrs f 2))) :
    FnC G A stk L m led (.ref 531) [a_t, a_constraint] Q E := by
  refine' Fn_new tx td ?h1 ?h2 ?h3 ?_
  case h1 => k_is
  case h2 => k_is
  case h3 => k_is
  intro x d hx hd hxd A1 hA1 _
  refine' Fn_pos ["self", "t", "constraint"] ?ho ?hcd ?hroom ?hbind ?hloc ?hco ?hgen ?hk ?hcell ?_
  walk_at "enter"
  intro L1 E1 stk1
  refine' W_mg3 "self" "t" "constraint" (v0 := .ref x) (v1 := a_t) (v2 := a_constraint) ?zm0 ?zm1 ?zm2 ?_
  case zm0 => exact rfl
  case zm1 => exact rfl
  case zm2 => exact rfl
  intro m1 e0 e1 e2
  have hx1 : up led x (tx, .inst 531 d) x = some (tx, .inst 531 d) := up_eq _ _ _
  with_reducible refine I_name e0 e1 hx1 hxd ?hk ?hn ?hS ?_
  walk_at "side"
  with_reducible refine I_name e0 e2 hx1 hxd ?hk ?hn ?hS ?_
  walk_at "side"
  refine W_nil ⟨rfl, ?_⟩
  refine H x d _ hx hd hxd ?f0
  all_goals rfl
theorem new_Type {Q : Value → Led → Prop} (tx td : Nat) {a_kind a_name : Value} (hA : A.depth ≤ 800)
    (H : ∀ (x d : Addr) (b_operations : Addr) (b_literals : Addr) (b_small : Addr) (b_index : Addr) (b_discriminants : Addr) (b_components : Addr) (u_number : Tok) (u_modulus : Tok) (f : Fld), led x = none → led d = none → x ≠ d → b_operations ≠ d → (up led x (tx, .inst 510 d)) b_operations = none → f "kind" = some (a_kind) → f "name" = some (a_name) → f "number" = some (.int 0 u_number) → f "parent" = some (.none) → f "low" = some (.none) → f "high" = some (.none) → f "literals" = some (.ref b_literals) → f "modulus" = some (.int 0 u_modulus) → f "small" = some (.ref b_small) → f "index" = some (.ref b_index) → f "component" = some (.none) → f "is_constrained" = some (.bool true) → f "discriminants" = some (.ref b_discriminants) → f "components" = some (.ref b_components) → f "variant" = some (.none) → f "designated" = some (.none) → f "is_tagged" = some (.bool false) → f "is_limited" = some (.bool false) → f "is_constant" = some (.bool false) → f "operations" = some (.ref b_operations) → Q (.ref x) (up (up (up led x (tx, .inst 510 d)) b_operations (1006, .sd (fun _ => none) 0)) d (td, .attrs f 24))) :
    FnC G A stk L m led (.ref 510) [a_kind, a_name] Q E := by
  refine' Fn_new tx td ?h1 ?h2 ?h3 ?_
  case h1 => k_is
  case h2 => k_is
  case h3 => k_is
  intro x d hx hd hxd A1 hA1 _
  refine' Fn_pos ["self", "kind", "name"] ?ho ?hcd ?hroom ?hbind ?hloc ?hco ?hgen ?hk ?hcell ?_
  walk_at "enter"
  intro L1 E1 stk1
  refine' W_mg3 "self" "kind" "name" (v0 := .ref x) (v1 := a_kind) (v2 := a_name) ?zm0 ?zm1 ?zm2 ?_
  case zm0 => exact rfl
  case zm1 => exact rfl
  case zm2 => exact rfl
  intro m1 e0 e1 e2
  have hx1 : up led x (tx, .inst 510 d) x = some (tx, .inst 510 d) := up_eq _ _ _
  with_reducible refine I_name e0 e1 hx1 hxd ?hk ?hn ?hS ?_
  walk_at "side"
  with_reducible refine I_name e0 e2 hx1 hxd ?hk ?hn ?hS ?_
  walk_at "side"
  with_reducible refine I_int e0 hx1 hxd ?hk ?hn ?hS ?_
  walk_at "side"
  intro u_number
  with_reducible refine I_none e0 hx1 hxd ?hk ?hn ?hS ?_
  walk_at "side"
  with_reducible refine I_none e0 hx1 hxd ?hk ?hn ?hS ?_
  walk_at "side"
  with_reducible refine I_none e0 hx1 hxd ?hk ?hn ?hS ?_
  walk_at "side"
  with_reducible refine I_listG e0 hx1 hxd ?hk ?hn ?hS ?_
  walk_at "side"
  intro b_literals
  with_reducible refine I_int e0 hx1 hxd ?hk ?hn ?hS ?_
  walk_at "side"
  intro u_modulus
  with_reducible refine I_pairG e0 hx1 hxd ?hk ?hn ?hS ?_
  walk_at "side"
  intro b_small
  with_reducible refine I_listG e0 hx1 hxd ?hk ?hn ?hS ?_
  walk_at "side"
  intro b_index
  with_reducible refine I_none e0 hx1 hxd ?hk ?hn ?hS ?_
  walk_at "side"
  with_reducible refine I_bool e0 hx1 hxd ?hk ?hn ?hS ?_
  walk_at "side"
  with_reducible refine I_listG e0 hx1 hxd ?hk ?hn ?hS ?_
  walk_at "side"
  intro b_discriminants
  with_reducible refine I_listG e0 hx1 hxd ?hk ?hn ?hS ?_
  walk_at "side"
  intro b_components
  with_reducible refine I_none e0 hx1 hxd ?hk ?hn ?hS ?_
  walk_at "side"
  with_reducible refine I_none e0 hx1 hxd ?hk ?hn ?hS ?_
  walk_at "side"
  with_reducible refine I_bool e0 hx1 hxd ?hk ?hn ?hS ?_
  walk_at "side"
  with_reducible refine I_none e0 hx1 hxd ?hk ?hn ?hS ?_
  walk_at "side"
  with_reducible refine I_bool e0 hx1 hxd ?hk ?hn ?hS ?_
  walk_at "side"
  with_reducible refine I_bool e0 hx1 hxd ?hk ?hn ?hS ?_
  walk_at "side"
  with_reducible refine I_bool e0 hx1 hxd ?hk ?hn ?hS ?_
  walk_at "side"
  with_reducible refine I_bool e0 hx1 hxd ?hk ?hn ?hS ?_
  walk_at "side"
  with_reducible refine I_bool e0 hx1 hxd ?hk ?hn ?hS ?_
  walk_at "side"
  with_reducible refine I_dict 1006 e0 hx1 hxd ?hk ?hn ?hS ?_
  walk_at "side"
  intro b_operations hb_operations
  obtain ⟨hb1_operations, hb2_operations⟩ := up_none hb_operations
  have hx1_ := up_keep (e' := (1006, .sd (fun _ => none) 0)) hx1 hb2_operations
  refine W_nil ⟨rfl, ?_⟩
  refine H x d b_operations b_literals b_small b_index b_discriminants b_components u_number u_modulus _ hx hd hxd hb1_operations hb2_operations ?f0 ?f1 ?f2 ?f3 ?f4 ?f5 ?f6 ?f7 ?f8 ?f9 ?f10 ?f11 ?f12 ?f13 ?f14 ?f15 ?f16 ?f17 ?f18 ?f19
  all_goals rfl
end
section M
local macro_rules | `(tactic| walk_at "tf") => `(tactic| first | with_reducible assumption | with_reducible rfl | rfl | (simp only [*]; done))
local macro_rules | `(tactic| walk_at "ne") => `(tactic| first
  | assumption
  | (symm; assumption)
  | exact ne_sn (by assumption) (by assumption)
  | exact Ne.symm (ne_sn (by assumption) (by assumption))
  | exact ne_kd (by assumption) (by assumption) rfl
  | exact ne_tag (by assumption) (by assumption) (by decide))
local macro_rules | `(tactic| walk_at "lk") => `(tactic| first
  | with_reducible assumption
  | with_reducible exact up_eq _ _ _
  | ((with_reducible refine' up_lk ?zhlk ?_); (case zhlk => walk_at "ne"); walk_at "lk"))
local macro_rules | `(tactic| walk_at "fl") => `(tactic| first
  | with_reducible assumption
  | with_reducible exact fup_eq _ _ _
  | ((with_reducible refine' fup_lk ?zhfl ?_); (case zhfl => rfl); walk_at "fl"))
local macro_rules | `(tactic| walk_at "split") => `(tactic| repeat (first | ((with_reducible refine' upn20 ?_); iterate 20 (intro _)) | ((with_reducible refine' upn16 ?_); iterate 16 (intro _)) | ((with_reducible refine' upn14 ?_); iterate 14 (intro _)) | ((with_reducible refine' upn12 ?_); iterate 12 (intro _)) | ((with_reducible refine' upn10 ?_); iterate 10 (intro _)) | ((with_reducible refine' upn9 ?_); iterate 9 (intro _)) | ((with_reducible refine' upn8 ?_); iterate 8 (intro _)) | ((with_reducible refine' upn7 ?_); iterate 7 (intro _)) | ((with_reducible refine' upn6 ?_); iterate 6 (intro _)) | ((with_reducible refine' upn5 ?_); iterate 5 (intro _)) | ((with_reducible refine' upn4 ?_); iterate 4 (intro _)) | ((with_reducible refine' upn3 ?_); iterate 3 (intro _)) | ((with_reducible refine' upn2 ?_); iterate 2 (intro _)) | ((with_reducible refine' upn1 ?_); iterate 1 (intro _)) | with_reducible intro _))
local macro_rules | `(tactic| walk_at "enter") => `(tactic| ((case zho => k_is); (case zhcd => k_is); (case zhroom => omega); (case zhbind => exact rfl); (case zhloc => exact rfl); (case zhco => exact rfl); (case zhgen => exact rfl); (case zhk => exact rfl); (case zhcell => decide)))
local macro_rules | `(tactic| walk_at "side") => `(tactic| ((case zhk => kernel_rfl); (case zhn => decide); (case zhS => (repeat' apply And.intro) <;> rfl)))
local macro_rules | `(tactic| walk_at "st") => `(tactic| first
  | with_reducible refine' W_cons ?_
  | with_reducible refine' W_nilA ?_
  | ((with_reducible refine' W_nameL ?zhv ?_ ?zj1 ?zj2 ?zj3); (case zhv => walk_at "fl"); (case zj1 => rfl); (case zj2 => rfl); (case zj3 => rfl))
  | ((with_reducible refine' W_nameK ?zhv ?_ ?zj1 ?zj2 ?zj3); (case zj1 => rfl); (case zj2 => rfl); (case zhv => k_is); (case zj3 => rfl))
  | ((with_reducible refine' W_nameC ?zhc ?zhl ?_ ?zj1 ?zj2 ?zj3); (case zj1 => rfl); (case zj2 => rfl); (case zhc => rfl); (case zhl => walk_at "lk"); (case zj3 => rfl))
  | ((with_reducible refine' W_nameB ?zhv ?zhb ?_ ?zj0 ?zj1 ?zj2 ?zj3); (case zj1 => rfl); (case zj2 => rfl); (case zhv => k_is); (case zhb => boot_fast); (case zj0 => decide); (case zj3 => rfl))
  | with_reducible refine' W_none ?_
  | with_reducible refine' W_bool ?_
  | ((with_reducible refine' W_int ?_); intro _)
  | ((with_reducible refine' W_str ?_); intro _)
  | with_reducible refine' W_attrN ?_
  | with_reducible refine' W_attrA ?_
  | with_reducible refine' W_attrS ?_
  | ((with_reducible refine' W_get ?zhx ?zhd ?zhv ?zhk ?zhh ?_); (case zhx => walk_at "lk"); (case zhd => walk_at "lk"); (case zhv => walk_at "fl"); (case zhk => kernel_rfl); (case zhh => first | rfl | assumption))
  | ((with_reducible refine' W_assignN ?_ ?zhs); (case zhs => rfl))
  | ((with_reducible refine' W_assignA ?_ ?zhs); (case zhs => rfl))
  | ((with_reducible refine' W_assignI ?_ ?zhs); (case zhs => rfl))
  | ((with_reducible refine' W_store ?_ ?zj1 ?zj2); (case zj1 => rfl); (case zj2 => rfl))
  | with_reducible refine' after_next ?_
  | with_reducible refine' after_ret ?_
  | with_reducible refine' after_cont ?_
  | with_reducible refine' W_ret ?_
  | with_reducible refine' W_ret0 ?_
  | with_reducible refine' W_cont ?_
  | with_reducible refine' W_augA ?_
  | ((with_reducible refine' W_callE ?_ ?zhe); (case zhe => with_unfolding_all rfl))
  | ((with_reducible refine' W_methE ?_ ?zhe); (case zhe => with_unfolding_all rfl))
  | ((with_reducible refine' W_args ?_ ?zhe); (case zhe => rfl))
  | with_reducible refine' W_args0 ?_
  | ((with_reducible refine' W_cwB ?_ ?zhe ?zhp); (case zhe => rfl); (case zhp => rfl))
  | ((with_reducible refine' W_cwT ?_ ?zhe ?zhp); (case zhe => rfl); (case zhp => rfl))
  | ((with_reducible refine' W_cwK ?zhk ?_ ?zhe ?zhp); (case zhk => k_is); (case zhe => rfl); (case zhp => rfl))
  | ((with_reducible refine' W_cwK0 ?zhk ?_); (case zhk => k_is))
  | ((with_reducible refine' W_expr ?_ ?zj1 ?zj2); (case zj1 => rfl); (case zj2 => rfl))
  | with_reducible refine' W_binop ?_
  | ((with_reducible refine' W_addI ?_); intro _)
  | ((with_reducible refine' W_subI ?_); intro _)
  | ((with_reducible refine' W_iaddI ?_); intro _)
  | ((with_reducible refine' W_cmp ?_ ?zhs); (case zhs => rfl))
  | ((with_reducible refine' W_tcmp ?_ ?zhs); (case zhs => rfl))
  | with_reducible refine' W_tnot ?_
  | with_reducible refine' W_tand ?_
  | with_reducible refine' W_tand0 ?_
  | with_reducible refine' W_tor ?_
  | with_reducible refine' W_tor0 ?_
  | with_reducible refine' W_if ?_
  | with_reducible refine' W_ifexp ?_
  | with_reducible refine' W_truthyB ?_
  | ((with_reducible refine' W_is ?zhp ?_); (case zhp => rfl))
  | ((with_reducible refine' W_isNot ?zhp ?_); (case zhp => rfl))
  | with_reducible refine' W_eqI ?_
  | with_reducible refine' W_neI ?_
  | with_reducible refine' W_gtI ?_
  | with_reducible refine' W_eqS ?_
  | with_reducible refine' W_sub ?_
  | ((with_reducible refine' W_tplain ?_ ?zhe); (case zhe => rfl))
  | with_reducible refine' W_vand ?_
  | with_reducible refine' W_vor ?_
  | with_reducible refine' W_vone ?_
  | ((with_reducible refine' W_setOldU ?zhx ?zhk ?zho ?_); (case zhx => walk_at "lk"); (case zhk => kernel_rfl); (case zho => walk_at "fl"))
  | ((with_reducible refine' W_setNewU ?zhx ?zhk ?zhn ?_); (case zhx => walk_at "lk"); (case zhk => kernel_rfl); (case zhn => decide))
  | ((with_reducible refine' W_setOld ?zhx ?zhd ?zhk ?zho ?_); (case zhx => walk_at "lk"); (case zhd => walk_at "lk"); (case zhk => kernel_rfl); (case zho => walk_at "fl"))
  | ((with_reducible refine' W_setNew ?zhx ?zhd ?zhk ?zhn ?_); (case zhx => walk_at "lk"); (case zhd => walk_at "lk"); (case zhk => kernel_rfl); (case zhn => decide))
  | ((with_reducible refine' W_methI ?zhx ?zhd ?zhv ?zhg ?zhf ?zhfn ?_); (case zhx => walk_at "lk"); (case zhd => walk_at "lk"); (case zhv => walk_at "fl"); (case zhg => k_is); (case zhf => k_is); (case zhfn => k_is))
  | ((with_reducible refine' W_methL ?zhx ?_); (case zhx => walk_at "lk"))
  | ((with_reducible refine' W_append ?zhx ?zhz ?_); (case zhx => walk_at "lk"); (case zhz => first | decide | (simp; done) | (simp; omega)))
  | ((with_reducible refine' W_assignT ?_ ?zhs ?zht); (case zhs => rfl); (case zht => rfl))
  | (with_reducible refine' W_asgN ?_)
  | ((with_reducible refine' ifS_t ?zhb ?_); (case zhb => walk_at "tf"))
  | ((with_reducible refine' ifS_f ?zhb ?_); (case zhb => walk_at "tf"))
  | ((with_reducible refine' ifE_t ?zhb ?_); (case zhb => walk_at "tf"))
  | ((with_reducible refine' ifE_f ?zhb ?_); (case zhb => walk_at "tf"))
  | ((with_reducible refine' andQ_t ?zhb ?_); (case zhb => walk_at "tf"))
  | ((with_reducible refine' andQ_f ?zhb ?_); (case zhb => walk_at "tf"))
  | ((with_reducible refine' orQ_t ?zhb ?_); (case zhb => walk_at "tf"))
  | ((with_reducible refine' orQ_f ?zhb ?_); (case zhb => walk_at "tf"))
  | ((with_reducible refine' andV_t ?zhb ?_); (case zhb => walk_at "tf"))
  | ((with_reducible refine' andV_f ?zhb ?_); (case zhb => walk_at "tf"))
  | ((with_reducible refine' orV_t ?zhb ?_); (case zhb => walk_at "tf"))
  | ((with_reducible refine' orV_f ?zhb ?_); (case zhb => walk_at "tf")))
local macro_rules | `(tactic| walk_at "comp") => `(tactic| ((case zhsw => rfl); (case zhclos => rfl); (case zhcell => decide); (case zhkind => rfl); (case zhnames => decide); (case zhx => rfl); (case zhy => rfl); (case zhp => rfl)))
local macro_rules | `(tactic| walk_at "compE") => `(tactic| ((case zhclos => rfl); (case zhcell => decide); (case zhkind => rfl); (case zhnames => decide); (case zhx => rfl)))
local macro_rules | `(tactic| walk_at "fresh") => `(tactic| first | with_reducible assumption | ((with_reducible refine' up_fr ?zf ?_); (case zf => walk_at "ne"); walk_at "fresh"))
local macro_rules | `(tactic| walk_at "keep") => `(tactic| (intro a x hx; (first | (with_reducible refine' nmE0 ?_) | ((with_reducible refine' nmE1 ?_); iterate 1 (intro _)) | ((with_reducible refine' nmE2 ?_); iterate 2 (intro _)) | ((with_reducible refine' nmE3 ?_); iterate 3 (intro _)) | ((with_reducible refine' nmE4 ?_); iterate 4 (intro _)) | ((with_reducible refine' nmE5 ?_); iterate 5 (intro _)) | ((with_reducible refine' nmE6 ?_); iterate 6 (intro _)) | ((with_reducible refine' nmE7 ?_); iterate 7 (intro _)) | ((with_reducible refine' nmE8 ?_); iterate 8 (intro _)) | ((with_reducible refine' nmE9 ?_); iterate 9 (intro _)) | ((with_reducible refine' nmE10 ?_); iterate 10 (intro _))); walk_at "lk"))
local macro_rules | `(tactic| walk_at "notin") => `(tactic| ((first | with_reducible apply nmI1 | with_reducible apply nmI2 | with_reducible apply nmI3 | with_reducible apply nmI4 | with_reducible apply nmI5 | with_reducible apply nmI6 | with_reducible apply nmI7 | with_reducible apply nmI8 | with_reducible apply nmI9 | with_reducible apply nmI10) <;> walk_at "ne"))
section
variable {G : Gd} {A : Around} {stk : List (Addr × Hid)} {L : Addr} {m : Fld} {led : Led} {E : Value → Shared → Prop}
set_option maxRecDepth 100000
set_option maxHeartbeats 4000000
theorem c_make_ready {Q : Value → Led → Prop} (hA : A.depth ≤ 800) {e d : Addr} {t t' n : Nat} {f : Fld} {v0 : Value} (h1 : led e = some (t, .inst 318 d)) (h2 : led d = some (t', .attrs f n)) (h3 : f "is_ready" = some v0)
    (H : Q .none (up led d (t', .attrs (fup f "is_ready" (.bool true)) n))) : FnC G A stk L m led (.ref 472) [.ref e] Q E := by
  refine' Fn_pos ["entity"] ?zho ?zhcd ?zhroom ?zhbind ?zhloc ?zhco ?zhgen ?zhk ?zhcell ?_
  walk_at "enter"
  intro L1 E1 stk1
  refine' W_mg1 "entity" (v0 := .ref e) ?zm0 ?_
  case zm0 => exact rfl
  intro m1 e0
  repeat walk_at "st"
  refine W_nil ?_
  exact H
noncomputable def dec (i : Int) : Str := Str.ofString (toString i)
noncomputable def uniq (nm : Str) (i : Int) : Str := nm ++ "#" ++ dec i
theorem dec_len {i : Int} (h0 : 0 ≤ i) (h1 : i < 1000) : (dec i).length ≤ 2000 := by
  have h := len_str_of_int i
  unfold dec
  omega
theorem uniq_len {nm : Str} {i : Int} (h0 : 0 ≤ i) (h1 : i < 1000) : (uniq nm i).length ≤ nm.length + 2001 := by
  have h := dec_len h0 h1
  unfold uniq
  rw [Str.length_append, Str.length_append]
  have : (Str.ofString "#").length = 1 := rfl
  omega
theorem c_unique {Q : Value → Led → Prop} (hA : A.depth ≤ 800) {nm : Str} {u u' : Tok} {i : Int} (hn : nm.length ≤ 5000) (h0 : 0 ≤ i) (h1 : i < 1000)
    (H : ∀ t, Q (.str (uniq nm i) t) led) : FnC G A stk L m led (.ref 379) [.str nm u, .int i u'] Q E := by
  refine' Fn_pos ["name", "number"] ?zho ?zhcd ?zhroom ?zhbind ?zhloc ?zhco ?zhgen ?zhk ?zhcell ?_
  walk_at "enter"
  intro L1 E1 stk1
  refine' W_mg2 "name" "number" (v0 := .str nm u)  (v1 := .int i u') ?zm0 ?zm1 ?_
  case zm0 => exact rfl
  case zm1 => exact rfl
  intro m1 e0 e1
  have hd := dec_len h0 h1
  have h3 : (Str.ofString "#").length = 1 := rfl
  repeat walk_at "st"
  refine' W_addS (by omega) ?_
  intro _
  repeat walk_at "st"
  refine' W_strI ?_ ?_ ?_
  · omega
  · omega
  intro _
  refine' W_addS ?_ ?_
  · show _ + (dec i).length ≤ _
    rw [Str.length_append]
    omega
  intro _
  exact H _
theorem c_whole_name {Q : Value → Led → Prop} (hA : A.depth ≤ 790) {nm : Str} {u u' : Tok} {i : Int} (hn : nm.length ≤ 100) (h0 : 0 ≤ i) (h1 : i < 1000)
    (H : ∀ t, Q (.str (uniq (uniq nm i) 0) t) led) : FnC G A stk L m led (.ref 386) [.str nm u, .int i u'] Q E := by
  refine' Fn_pos ["name", "number"] ?zho ?zhcd ?zhroom ?zhbind ?zhloc ?zhco ?zhgen ?zhk ?zhcell ?_
  walk_at "enter"
  intro L1 E1 stk1
  refine' W_mg2 "name" "number" (v0 := .str nm u)  (v1 := .int i u') ?zm0 ?zm1 ?_
  case zm0 => exact rfl
  case zm1 => exact rfl
  intro m1 e0 e1
  have hl := uniq_len (nm := nm) h0 h1
  repeat walk_at "st"
  refine W_call (c_unique (by show A.depth + 1 ≤ _; omega) (by omega) h0 h1 fun t => ?_)
  repeat walk_at "st"
  refine W_call (c_unique (by show A.depth + 1 ≤ _; omega) (by omega) (by decide) (by decide) fun t => ?_)
  exact H _
end
section
variable {G : Gd} {A : Around} {stk : List (Addr × Hid)} {L : Addr} {m : Fld} {led : Led} {E : Value → Shared → Prop}
set_option maxRecDepth 100000
set_option maxHeartbeats 4000000
theorem c_new_number {Q : Value → Led → Prop} (hA : A.depth ≤ 800) {s d : Addr} {t t' n : Nat} {f : Fld} {c : Int} {u : Tok} (h1 : led s = some (t, .inst 290 d)) (h2 : led d = some (t', .attrs f n)) (h3 : f "count" = some (.int c u))
    (H : ∀ u1, Q (.int (c + 1) u1) (up led d (t', .attrs (fup f "count" (.int (c + 1) u1)) n))) : FnC G A stk L m led (.ref 301) [.ref s] Q E := by
  refine' Fn_pos ["scope"] ?zho ?zhcd ?zhroom ?zhbind ?zhloc ?zhco ?zhgen ?zhk ?zhcell ?_
  walk_at "enter"
  intro L1 E1 stk1
  refine' W_mg1 "scope" (v0 := .ref s) ?zm0 ?_
  case zm0 => exact rfl
  intro m1 e0
  have hne : s ≠ d := fun e => by rw [e, h2] at h1; cases h1
  repeat walk_at "st"
  refine H _
theorem c_whole_subtype {Q : Value → Led → Prop} (hA : A.depth ≤ 790) {v : Value}
    (H : ∀ (x d : Addr) (f : Fld), led x = none → led d = none → x ≠ d → f "type" = some v → Q (.ref x) (up (up led x (531, .inst 531 d)) d (5310, .attrs f 2))) : FnC G A stk L m led (.ref 563) [v] Q E := by
  refine' Fn_pos ["t"] ?zho ?zhcd ?zhroom ?zhbind ?zhloc ?zhco ?zhgen ?zhk ?zhcell ?_
  walk_at "enter"
  intro L1 E1 stk1
  refine' W_mg1 "t" (v0 := v) ?zm0 ?_
  case zm0 => exact rfl
  intro m1 e0
  repeat walk_at "st"
  refine W_call (new_Subtype 531 5310 (by show A.depth + 1 ≤ _; omega) ?_)
  exact H
theorem c_numbered {Q : Value → Led → Prop} (hA : A.depth ≤ 800) {y d : Addr} {t t' n : Nat} {f : Fld} {v v0 : Value} (h1 : led y = some (t, .inst 510 d)) (h2 : led d = some (t', .attrs f n)) (h3 : f "number" = some v0)
    (H : Q (.ref y) (up led d (t', .attrs (fup f "number" v) n))) : FnC G A stk L m led (.ref 556) [.ref y, v] Q E := by
  refine' Fn_pos ["t", "number"] ?zho ?zhcd ?zhroom ?zhbind ?zhloc ?zhco ?zhgen ?zhk ?zhcell ?_
  walk_at "enter"
  intro L1 E1 stk1
  refine' W_mg2 "t" "number" (v0 := .ref y)  (v1 := v) ?zm0 ?zm1 ?_
  case zm0 => exact rfl
  case zm1 => exact rfl
  intro m1 e0 e1
  repeat walk_at "st"
  exact H
theorem c_ups_to {Q : Value → Led → Prop} (hA : A.depth ≤ 800) {p dp e de r dr : Addr} {t1 t2 t3 t4 t5 t6 n1 n2 n3 : Nat} {fp fe fr : Fld} {i j : Int} {u u' : Tok}
    (h1 : led p = some (t1, .inst 428 dp)) (h2 : led dp = some (t2, .attrs fp n1)) (h3 : fp "level" = some (.int i u))
    (h4 : led e = some (t3, .inst 318 de)) (h5 : led de = some (t4, .attrs fe n2)) (h6 : fe "home" = some (.ref r))
    (h7 : led r = some (t5, .inst 428 dr)) (h8 : led dr = some (t6, .attrs fr n3)) (h9 : fr "level" = some (.int j u'))
    (H : ∀ w, Q (.int (i - j) w) led) : FnC G A stk L m led (.ref 493) [.ref p, .ref e] Q E := by
  refine' Fn_pos ["place", "entity"] ?zho ?zhcd ?zhroom ?zhbind ?zhloc ?zhco ?zhgen ?zhk ?zhcell ?_
  walk_at "enter"
  intro L1 E1 stk1
  refine' W_mg2 "place" "entity" (v0 := .ref p)  (v1 := .ref e) ?zm0 ?zm1 ?_
  case zm0 => exact rfl
  case zm1 => exact rfl
  intro m1 e0 e1
  repeat walk_at "st"
  exact H _
theorem c_note_type {Q : Value → Led → Prop} (hA : A.depth ≤ 800) {p dp r dr th : Addr} {t1 t2 t3 t4 t5 n1 n2 n3 : Nat} {fp fr : Fld} {g : Int → Option Value} {i : Int} {u : Tok} {pt : Value}
    (h1 : led p = some (t1, .inst 428 dp)) (h2 : led dp = some (t2, .attrs fp n1)) (h3 : fp "root" = some (.ref r)) (h3' : fp "part" = some pt) (hpt : handedIn pt = true)
    (h4 : led r = some (t3, .inst 428 dr)) (h5 : led dr = some (t4, .attrs fr n2)) (h6 : fr "type_homes" = some (.ref th)) (h7 : led th = some (t5, .idict g n3)) (h8 : g i = none) (hn : n3 + 1 ≤ 900)
    (H : ∀ b, led b = none → Q .none (up (up led b (1010, .tup [.ref p, pt])) th (t5, .idict (iup g i (.ref b)) (n3 + 1)))) : FnC G A stk L m led (.ref 486) [.ref p, .int i u] Q E := by
  refine' Fn_pos ["region", "number"] ?zho ?zhcd ?zhroom ?zhbind ?zhloc ?zhco ?zhgen ?zhk ?zhcell ?_
  walk_at "enter"
  intro L1 E1 stk1
  refine' W_mg2 "region" "number" (v0 := .ref p)  (v1 := .int i u) ?zm0 ?zm1 ?_
  case zm0 => exact rfl
  case zm1 => exact rfl
  intro m1 e0 e1
  repeat walk_at "st"
  refine' W_methD h7 PySem.F.slot_dict_setdefault PySem.F.type_dict_setdefault ?_
  repeat walk_at "st"
  refine W_tup 1010 ?_
  repeat walk_at "st"
  refine ⟨(by show 2 ≤ 1000; decide), ?_⟩
  intro b hb
  repeat walk_at "st"
  refine' W_setdefI (t := t5) (f := g) (n := n3) ?_ h8 hn ?_
  · exact (up_ne (ne_sn hb h7)).trans h7
  refine W_nil ?_
  exact H b hb
theorem c_lay_operation {Q : Value → Led → Prop} (hA : A.depth ≤ 800) {y d o : Addr} {t t' t'' n n' : Nat} {f g : Fld} {k : Str} {u : Tok} {v : Value} (h1 : led y = some (t, .inst 510 d)) (h2 : led d = some (t', .attrs f n)) (h3 : f "parent" = some .none)
    (h4 : f "operations" = some (.ref o)) (h5 : led o = some (t'', .sd g n')) (hn : n' + 1 ≤ 900)
    (H : ∀ b, Q (.bool b) (up led o (t'', .sd (fup g k v) (n' + 1)))) : FnC G A stk L m led (.ref 205) [.ref y, .str k u, v] Q E := by
  refine' Fn_pos ["kind", "key", "subprogram"] ?zho ?zhcd ?zhroom ?zhbind ?zhloc ?zhco ?zhgen ?zhk ?zhcell ?_
  walk_at "enter"
  intro L1 E1 stk1
  refine' W_mg3 "kind" "key" "subprogram" (v0 := .ref y)  (v1 := .str k u)  (v2 := v) ?zm0 ?zm1 ?zm2 ?_
  case zm0 => exact rfl
  case zm1 => exact rfl
  case zm2 => exact rfl
  intro m1 e0 e1 e2
  repeat walk_at "st"
  refine' W_setS h5 hn ?_
  repeat walk_at "st"
  exact H _
end
section
variable {G : Gd} {A : Around} {stk : List (Addr × Hid)} {L : Addr} {m : Fld} {led : Led} {E : Value → Shared → Prop}
set_option maxRecDepth 100000
set_option maxHeartbeats 4000000
theorem c_record_type {Q : Value → Led → Prop} (hA : A.depth ≤ 780) (hU : A.units ≤ 8000) {nm va : Value} {l1 l2 : Addr} {t1 t2 : Nat} (h1 : led l1 = some (t1, .list [])) (h2 : led l2 = some (t2, .list []))
    (H : ∀ (x d b lv lc lq lw lw2 : Addr) (u1 u2 u3 : Tok) (f : Fld), led x = none → led d = none → x ≠ d → b ≠ d → b ≠ x → led b = none →
      f "kind" = some (.str "record" u1) → f "number" = some (.int 0 u2) → f "parent" = some .none → f "low" = some .none → f "high" = some .none → f "literals" = some (.ref lv) → f "modulus" = some (.int 0 u3) → f "small" = some (.ref lc) → f "index" = some (.ref lq) →
      f "component" = some .none → f "is_constrained" = some (.bool true) → f "designated" = some .none → f "is_tagged" = some (.bool false) → f "is_limited" = some (.bool false) → f "is_constant" = some (.bool false) →
      f "operations" = some (.ref b) → f "variant" = some va → f "name" = some nm → f "discriminants" = some (.ref lw) → f "components" = some (.ref lw2) →
      Q (.ref x) (up (up (up led x (510, .inst 510 d)) b (1006, .sd (fun _ => none) 0)) d (5100, .attrs f 24))) : FnC G A stk L m led (.ref 542) [nm, .ref l1, .ref l2, va] Q E := by
  refine' Fn_pos ["name", "discriminants", "components", "variant"] ?zho ?zhcd ?zhroom ?zhbind ?zhloc ?zhco ?zhgen ?zhk ?zhcell ?_
  walk_at "enter"
  intro L1 E1 stk1
  refine' W_mg4 "name" "discriminants" "components" "variant" (v0 := nm)  (v1 := .ref l1)  (v2 := .ref l2)  (v3 := va) ?zm0 ?zm1 ?zm2 ?zm3 ?_
  case zm0 => exact rfl
  case zm1 => exact rfl
  case zm2 => exact rfl
  case zm3 => exact rfl
  intro m1 e0 e1 e2 e3
  repeat walk_at "st"
  refine W_call (new_Type 510 5100 (by show A.depth + 1 ≤ _; omega) ?_)
  intro x d bo _ _ _ _ _ _ _ f hx hd hxd hbod hbo
  obtain ⟨hbox, hbo⟩ := up_none hbo
  intros
  repeat walk_at "st"
  refine' W_listcopy 0 (vs := []) (t := t1) (by walk_at "lk") (by decide) ?_
  intro b1 hb1
  refine W_less (Le.fresh hb1) ?_
  repeat walk_at "st"
  refine' W_listcopy 0 (vs := []) (t := t2) (by walk_at "lk") (by decide) ?_
  intro b2 hb2
  refine W_less (Le.fresh hb2) ?_
  repeat walk_at "st"
  refine W_list 0 ?_
  repeat walk_at "st"
  refine ⟨by decide, ?_⟩
  intro b3 hb3
  have hb4 := hb3
  revert hb3
  walk_at "split"
  refine' W_eqNil (t := t1) (t' := 0) (by show A.units + 3 ≤ _; omega) (by walk_at "lk") (by walk_at "lk") ?_
  refine W_less (Le.fresh hb4) ?_
  repeat walk_at "st"
  exact H x d bo _ _ _ _ _ _ _ _ _ hx hd hxd hbod hbox hbo (by walk_at "fl") (by walk_at "fl") (by walk_at "fl") (by walk_at "fl") (by walk_at "fl") (by walk_at "fl") (by walk_at "fl") (by walk_at "fl") (by walk_at "fl") (by walk_at "fl") (by walk_at "fl") (by walk_at "fl") (by walk_at "fl") (by walk_at "fl") (by walk_at "fl") (by walk_at "fl") (by walk_at "fl") (by walk_at "fl") (by walk_at "fl") (by walk_at "fl")
theorem c_derived_type {Q : Value → Led → Prop} (hA : A.depth ≤ 780) {nm k : Value} {y dy o : Addr} {t1 t2 t3 n n' : Nat} {f g : Fld} {v1 v2 v3 v4 v5 v6 v7 v8 v9 va vb vc vd ve vf : Value} (h1 : led y = some (t1, .inst 510 dy)) (h2 : led dy = some (t2, .attrs f n))
    (h3 : f "operations" = some (.ref o)) (h4 : led o = some (t3, .sd g n'))
    (k0 : f "kind" = some k) (k1 : f "low" = some v1) (k2 : f "high" = some v2) (k3 : f "literals" = some v3) (k4 : f "modulus" = some v4) (k5 : f "small" = some v5) (k6 : f "index" = some v6) (k7 : f "component" = some v7) (k8 : f "is_constrained" = some v8)
    (k9 : f "discriminants" = some v9) (ka : f "components" = some va) (kb : f "variant" = some vb) (kc : f "designated" = some vc) (kd : f "is_constant" = some vd) (ke : f "is_tagged" = some ve) (kf : f "is_limited" = some vf)
    (j0 : handedIn k = true) (j1 : handedIn v1 = true) (j2 : handedIn v2 = true) (j3 : handedIn v3 = true) (j4 : handedIn v4 = true) (j5 : handedIn v5 = true) (j6 : handedIn v6 = true) (j7 : handedIn v7 = true) (j8 : handedIn v8 = true)
    (j9 : handedIn v9 = true) (ja : handedIn va = true) (jb : handedIn vb = true) (jc : handedIn vc = true) (jd : handedIn vd = true) (je : handedIn ve = true) (jf : handedIn vf = true)
    (H : ∀ (x d b : Addr) (u : Tok) (f' : Fld), led x = none → led d = none → x ≠ d → b ≠ d → b ≠ x → led b = none →
      f' "number" = some (.int 0 u) → f' "operations" = some (.ref b) →
      Q (.ref x) (up (up (up led x (510, .inst 510 d)) b (1006, .sd g n')) d (5100, .attrs f' 24))) : FnC G A stk L m led (.ref 549) [.ref y, nm] Q E := by
  refine' Fn_pos ["parent", "name"] ?zho ?zhcd ?zhroom ?zhbind ?zhloc ?zhco ?zhgen ?zhk ?zhcell ?_
  walk_at "enter"
  intro L1 E1 stk1
  refine' W_mg2 "parent" "name" (v0 := .ref y)  (v1 := nm) ?zm0 ?zm1 ?_
  case zm0 => exact rfl
  case zm1 => exact rfl
  intro m1 e0 e1
  repeat walk_at "st"
  refine W_call (new_Type 510 5100 (by show A.depth + 1 ≤ _; omega) ?_)
  intro x d bo _ _ _ _ _ _ _ f1 hx hd hxd hbod hbo
  obtain ⟨hbox, hbo⟩ := up_none hbo
  intros
  refine W_less (Le.up (Le.fresh (by rw [up_ne hbox]; exact hbo))) ?_
  repeat walk_at "st"
  refine' W_dictcopy (t := t3) (n := n') (f := g) 1006 (by walk_at "lk") ?_
  intro b hb
  revert hb
  refine upn2 fun hbd hbx hb => ?_
  refine W_cast (up_comm _ (by walk_at "ne") _ _) ?_
  repeat walk_at "st"
  exact H x d b _ _ hx hd hxd hbd hbx hb (by walk_at "fl") (by walk_at "fl")
theorem c_make_cell {Q : Value → Led → Prop} (hA : A.depth ≤ 780) {y dy : Addr} {t1 t2 n : Nat} {f : Fld} {v : Value} {i : Int} {u : Tok} (h1 : led y = some (t1, .inst 117 dy)) (h2 : led dy = some (t2, .attrs f n)) (h3 : f "last" = some (.int i u))
    (H : ∀ (x d : Addr) (u' : Tok) (g : Fld), led x = none → led d = none → x ≠ d → x ≠ dy → d ≠ dy → g "value" = some v →
      Q (.ref x) (up (up (up led dy (t2, .attrs (fup f "last" (.int (i + 1) u')) n)) x (89, .inst 89 d)) d (890, .attrs g 3))) : FnC G A stk L m led (.ref 114) [.ref y, v] Q E := by
  refine' Fn_pos ["self", "value"] ?zho ?zhcd ?zhroom ?zhbind ?zhloc ?zhco ?zhgen ?zhk ?zhcell ?_
  walk_at "enter"
  intro L1 E1 stk1
  refine' W_mg2 "self" "value" (v0 := .ref y)  (v1 := v) ?zm0 ?zm1 ?_
  case zm0 => exact rfl
  case zm1 => exact rfl
  intro m1 e0 e1
  repeat walk_at "st"
  refine W_call (new_Cell 89 890 (by show A.depth + 1 ≤ _; omega) ?_)
  intro x d g hx hd hxd hg
  intros
  obtain ⟨hx1, hx⟩ := up_none hx
  obtain ⟨hd1, hd⟩ := up_none hd
  exact H x d _ g hx hd hxd hx1 hd1 hg
end
section
variable {G : Gd} {A : Around} {stk : List (Addr × Hid)} {L : Addr} {m : Fld} {led : Led} {E : Value → Shared → Prop}
set_option maxRecDepth 100000
set_option maxHeartbeats 4000000
theorem can1 {led : Led} {x d d0 : Addr} {i e a a' : Nat × AO} (h1 : x ≠ d0) (h2 : d ≠ d0) (h3 : x ≠ d) : up (up (up (up led x i) d a) d0 e) d a' = up (up (up led d0 e) x i) d a' := by
  rw [up_comm _ h2, up_comm _ h1, up_up]
theorem alias_get {led : Led} {d0 dp : Addr} {t4 t2 n1 n2 : Nat} {f0 fp : Fld} {name nm : Str} {v w : Value} (h2 : led dp = some (t2, .attrs fp n1)) (h6 : led d0 = some (t4, .attrs f0 n2)) (hf : fp name = some v) (hne : name ≠ nm) :
    ∃ t g n, up led d0 (t4, .attrs (fup f0 nm w) n2) dp = some (t, .attrs g n) ∧ g name = some v := by
  by_cases h : dp = d0
  · subst h
    rw [h2] at h6
    cases h6
    exact ⟨_, _, _, up_eq _ _ _, (fup_ne hne).trans hf⟩
  · exact ⟨_, _, _, (up_ne h).trans h2, hf⟩
theorem alias_at {led : Led} {d0 dp : Addr} {t4 t2 n1 n2 : Nat} {f0 fp : Fld} {nm : Str} {w : Value} (h2 : led dp = some (t2, .attrs fp n1)) (h6 : led d0 = some (t4, .attrs f0 n2)) :
    ∃ t g n, up led d0 (t4, .attrs (fup f0 nm w) n2) dp = some (t, .attrs g n) ∧ ∀ y, y ≠ nm → g y = fp y := by
  by_cases h : dp = d0
  · subst h
    rw [h2] at h6
    cases h6
    exact ⟨_, _, _, up_eq _ _ _, fun y hy => fup_ne hy⟩
  · exact ⟨_, _, _, (up_ne h).trans h2, fun _ _ => rfl⟩
theorem new_Region_pkg {Q : Value → Led → Prop} (hA : A.depth ≤ 780) {u0 u1 u2 : Tok} {ow : Value} {pr dp r0 d0 : Addr} {t1 t2 t3 t4 n1 n2 : Nat} {fp f0 : Fld} {lv c : Int}
    (h1 : led pr = some (t1, .inst 428 dp)) (h2 : led dp = some (t2, .attrs fp n1)) (h3 : fp "root" = some (.ref r0)) (h4 : fp "level" = some (.int lv u1))
    (h5 : led r0 = some (t3, .inst 428 d0)) (h6 : led d0 = some (t4, .attrs f0 n2)) (h7 : f0 "made" = some (.int c u2))
    (H : ∀ (x d b1 b2 b3 b4 : Addr) (u3 u4 u5 : Tok) (f : Fld), led x = none → led d = none → x ≠ d → led b1 = none → b1 ≠ x → b1 ≠ d → led b2 = none → b2 ≠ x → b2 ≠ d → b2 ≠ b1 → led b3 = none → b3 ≠ x → b3 ≠ d → b3 ≠ b1 → b3 ≠ b2 → led b4 = none → b4 ≠ x → b4 ≠ d → b4 ≠ b1 → b4 ≠ b2 → b4 ≠ b3 →
      f "kind" = some (.str "package" u0) → f "parent" = some (.ref pr) → f "root" = some (.ref r0) → f "number" = some (.int (c + 1) u3) → f "level" = some (.int lv u4) → f "part" = some (.str "visible" u5) →
      f "names" = some (.ref b1) → f "order" = some (.ref b2) → f "counts" = some (.ref b3) → f "type_homes" = some (.ref b4) →
      Q (.ref x) (up (up (up (up (up (up (up led d0 (t4, .attrs (fup f0 "made" (.int (c + 1) u3)) n2)) x (428, .inst 428 d)) b1 (1001, .sd (fun _ => none) 0)) b2 (1002, .list [])) b3 (1003, .sd (fun _ => none) 0)) b4 (1004, .idict (fun _ => none) 0)) d (4280, .attrs f 15))) :
    FnC G A stk L m led (.ref 428) [.str "package" u0, ow, .ref pr] Q E := by
  refine' Fn_new 428 4280 ?zh1 ?zh2 ?zh3 ?_
  case zh1 => k_is
  case zh2 => k_is
  case zh3 => k_is
  intro x d hx hd hxd A1 hA1 _
  refine' Fn_pos ["self", "kind", "owner", "parent"] ?zho ?zhcd ?zhroom ?zhbind ?zhloc ?zhco ?zhgen ?zhk ?zhcell ?_
  walk_at "enter"
  intro L1 E1 stk1
  refine' W_mg4 "self" "kind" "owner" "parent" (v0 := .ref x)  (v1 := .str "package" u0)  (v2 := ow)  (v3 := .ref pr) ?zm0 ?zm1 ?zm2 ?zm3 ?_
  case zm0 => exact rfl
  case zm1 => exact rfl
  case zm2 => exact rfl
  case zm3 => exact rfl
  intro m1 e0 e1 e2 e3
  repeat walk_at "st"
  refine W_cast (can1 (by walk_at "ne") (by walk_at "ne") (by walk_at "ne")) ?_
  obtain ⟨_, g, _, hg1, hg2⟩ := alias_get (nm := "made") (w := .int (c + 1) _) h2 h6 h4 (by decide)
  have hd0x : d0 ≠ x := by walk_at "ne"
  have hxd0 := hd0x.symm
  repeat walk_at "st"
  refine W_inFK ?_
  repeat walk_at "st"
  rw [Int.add_zero]
  repeat walk_at "st"
  refine W_dict0 1001 ?_
  intro b1 hb1
  revert hb1
  refine upn3 fun b1d b1x b1d0 b1n => ?_
  refine W_cast (up_comm _ (by walk_at "ne") _ _) ?_
  repeat walk_at "st"
  refine W_list 1002 ?_
  repeat walk_at "st"
  refine ⟨by decide, ?_⟩
  intro b2 hb2
  revert hb2
  refine upn4 fun b2d b2b1 b2x b2d0 b2n => ?_
  refine W_cast (up_comm _ (by walk_at "ne") _ _) ?_
  repeat walk_at "st"
  refine W_list 0 ?_
  repeat walk_at "st"
  refine ⟨by decide, ?_⟩
  intro b5 hb5
  refine W_less (Le.fresh hb5) ?_
  repeat walk_at "st"
  refine W_list 0 ?_
  repeat walk_at "st"
  refine ⟨by decide, ?_⟩
  intro b5 hb5
  refine W_less (Le.fresh hb5) ?_
  repeat walk_at "st"
  refine W_dict0 1003 ?_
  intro b3 hb3
  revert hb3
  refine upn5 fun b3d b3b2 b3b1 b3x b3d0 b3n => ?_
  refine W_cast (up_comm _ (by walk_at "ne") _ _) ?_
  repeat walk_at "st"
  refine W_idict0 1004 ?_
  intro b4 hb4
  revert hb4
  refine upn6 fun b4d b4b3 b4b2 b4b1 b4x b4d0 b4n => ?_
  refine W_cast (up_comm _ (by walk_at "ne") _ _) ?_
  repeat walk_at "st"
  refine W_nil ⟨rfl, ?_⟩
  exact H x d b1 b2 b3 b4 _ _ _ _ hx hd hxd b1n b1x b1d b2n b2x b2d b2b1 b3n b3x b3d b3b1 b3b2 b4n b4x b4d b4b1 b4b2 b4b3 (by walk_at "fl") (by walk_at "fl") (by walk_at "fl") (by walk_at "fl") (by walk_at "fl") (by walk_at "fl") (by walk_at "fl") (by walk_at "fl") (by walk_at "fl") (by walk_at "fl")
theorem new_Region_sub {Q : Value → Led → Prop} (hA : A.depth ≤ 780) {u0 u1 u2 : Tok} {k : Str} {ow : Value} (hk1 : frameKinds.contains k = true) (hk2 : (k == Str.ofString "package") = false) {pr dp r0 d0 : Addr} {t1 t2 t3 t4 n1 n2 : Nat} {fp f0 : Fld} {lv c : Int}
    (h1 : led pr = some (t1, .inst 428 dp)) (h2 : led dp = some (t2, .attrs fp n1)) (h3 : fp "root" = some (.ref r0)) (h4 : fp "level" = some (.int lv u1))
    (h5 : led r0 = some (t3, .inst 428 d0)) (h6 : led d0 = some (t4, .attrs f0 n2)) (h7 : f0 "made" = some (.int c u2))
    (H : ∀ (x d b1 b2 b3 b4 : Addr) (u3 u4 u5 : Tok) (f : Fld), led x = none → led d = none → x ≠ d → led b1 = none → b1 ≠ x → b1 ≠ d → led b2 = none → b2 ≠ x → b2 ≠ d → b2 ≠ b1 → led b3 = none → b3 ≠ x → b3 ≠ d → b3 ≠ b1 → b3 ≠ b2 → led b4 = none → b4 ≠ x → b4 ≠ d → b4 ≠ b1 → b4 ≠ b2 → b4 ≠ b3 →
      f "kind" = some (.str k u0) → f "parent" = some (.ref pr) → f "root" = some (.ref r0) → f "number" = some (.int (c + 1) u3) → f "level" = some (.int (lv + 1) u4) → f "part" = some (.str "body" u5) →
      f "names" = some (.ref b1) → f "order" = some (.ref b2) → f "counts" = some (.ref b3) → f "type_homes" = some (.ref b4) →
      Q (.ref x) (up (up (up (up (up (up (up led d0 (t4, .attrs (fup f0 "made" (.int (c + 1) u3)) n2)) x (428, .inst 428 d)) b1 (1001, .sd (fun _ => none) 0)) b2 (1002, .list [])) b3 (1003, .sd (fun _ => none) 0)) b4 (1004, .idict (fun _ => none) 0)) d (4280, .attrs f 15))) :
    FnC G A stk L m led (.ref 428) [.str k u0, ow, .ref pr] Q E := by
  refine' Fn_new 428 4280 ?zh1 ?zh2 ?zh3 ?_
  case zh1 => k_is
  case zh2 => k_is
  case zh3 => k_is
  intro x d hx hd hxd A1 hA1 _
  refine' Fn_pos ["self", "kind", "owner", "parent"] ?zho ?zhcd ?zhroom ?zhbind ?zhloc ?zhco ?zhgen ?zhk ?zhcell ?_
  walk_at "enter"
  intro L1 E1 stk1
  refine' W_mg4 "self" "kind" "owner" "parent" (v0 := .ref x)  (v1 := .str k u0)  (v2 := ow)  (v3 := .ref pr) ?zm0 ?zm1 ?zm2 ?zm3 ?_
  case zm0 => exact rfl
  case zm1 => exact rfl
  case zm2 => exact rfl
  case zm3 => exact rfl
  intro m1 e0 e1 e2 e3
  repeat walk_at "st"
  refine W_cast (can1 (by walk_at "ne") (by walk_at "ne") (by walk_at "ne")) ?_
  obtain ⟨_, g, _, hg1, hg2⟩ := alias_get (nm := "made") (w := .int (c + 1) _) h2 h6 h4 (by decide)
  have hd0x : d0 ≠ x := by walk_at "ne"
  have hxd0 := hd0x.symm
  repeat walk_at "st"
  refine W_inFK ?_
  repeat walk_at "st"
  refine W_dict0 1001 ?_
  intro b1 hb1
  revert hb1
  refine upn3 fun b1d b1x b1d0 b1n => ?_
  refine W_cast (up_comm _ (by walk_at "ne") _ _) ?_
  repeat walk_at "st"
  refine W_list 1002 ?_
  repeat walk_at "st"
  refine ⟨by decide, ?_⟩
  intro b2 hb2
  revert hb2
  refine upn4 fun b2d b2b1 b2x b2d0 b2n => ?_
  refine W_cast (up_comm _ (by walk_at "ne") _ _) ?_
  repeat walk_at "st"
  refine W_list 0 ?_
  repeat walk_at "st"
  refine ⟨by decide, ?_⟩
  intro b5 hb5
  refine W_less (Le.fresh hb5) ?_
  repeat walk_at "st"
  refine W_list 0 ?_
  repeat walk_at "st"
  refine ⟨by decide, ?_⟩
  intro b5 hb5
  refine W_less (Le.fresh hb5) ?_
  repeat walk_at "st"
  refine W_dict0 1003 ?_
  intro b3 hb3
  revert hb3
  refine upn5 fun b3d b3b2 b3b1 b3x b3d0 b3n => ?_
  refine W_cast (up_comm _ (by walk_at "ne") _ _) ?_
  repeat walk_at "st"
  refine W_idict0 1004 ?_
  intro b4 hb4
  revert hb4
  refine upn6 fun b4d b4b3 b4b2 b4b1 b4x b4d0 b4n => ?_
  refine W_cast (up_comm _ (by walk_at "ne") _ _) ?_
  repeat walk_at "st"
  refine W_nil ⟨rfl, ?_⟩
  exact H x d b1 b2 b3 b4 _ _ _ _ hx hd hxd b1n b1x b1d b2n b2x b2d b2b1 b3n b3x b3d b3b1 b3b2 b4n b4x b4d b4b1 b4b2 b4b3 (by walk_at "fl") (by walk_at "fl") (by walk_at "fl") (by walk_at "fl") (by walk_at "fl") (by walk_at "fl") (by walk_at "fl") (by walk_at "fl") (by walk_at "fl") (by walk_at "fl")
theorem new_Region_root {Q : Value → Led → Prop} (hA : A.depth ≤ 780) {u0 : Tok} {ow : Value}
    (H : ∀ (x d b1 b2 b3 b4 : Addr) (u3 u4 u5 : Tok) (f : Fld), led x = none → led d = none → x ≠ d → led b1 = none → b1 ≠ x → b1 ≠ d → led b2 = none → b2 ≠ x → b2 ≠ d → b2 ≠ b1 → led b3 = none → b3 ≠ x → b3 ≠ d → b3 ≠ b1 → b3 ≠ b2 → led b4 = none → b4 ≠ x → b4 ≠ d → b4 ≠ b1 → b4 ≠ b2 → b4 ≠ b3 →
      f "kind" = some (.str "root" u0) → f "parent" = some .none → f "root" = some (.ref x) → f "made" = some (.int (0 + 1) u3) → f "level" = some (.int 0 u4) → f "part" = some (.str "body" u5) →
      f "names" = some (.ref b1) → f "order" = some (.ref b2) → f "counts" = some (.ref b3) → f "type_homes" = some (.ref b4) →
      Q (.ref x) (up (up (up (up (up (up led x (428, .inst 428 d)) b1 (1001, .sd (fun _ => none) 0)) b2 (1002, .list [])) b3 (1003, .sd (fun _ => none) 0)) b4 (1004, .idict (fun _ => none) 0)) d (4280, .attrs f 15))) :
    FnC G A stk L m led (.ref 428) [.str "root" u0, ow, .none] Q E := by
  refine' Fn_new 428 4280 ?zh1 ?zh2 ?zh3 ?_
  case zh1 => k_is
  case zh2 => k_is
  case zh3 => k_is
  intro x d hx hd hxd A1 hA1 _
  refine' Fn_pos ["self", "kind", "owner", "parent"] ?zho ?zhcd ?zhroom ?zhbind ?zhloc ?zhco ?zhgen ?zhk ?zhcell ?_
  walk_at "enter"
  intro L1 E1 stk1
  refine' W_mg4 "self" "kind" "owner" "parent" (v0 := .ref x)  (v1 := .str "root" u0)  (v2 := ow)  (v3 := .none) ?zm0 ?zm1 ?zm2 ?zm3 ?_
  case zm0 => exact rfl
  case zm1 => exact rfl
  case zm2 => exact rfl
  case zm3 => exact rfl
  intro m1 e0 e1 e2 e3
  repeat walk_at "st"
  refine W_dict0 1001 ?_
  intro b1 hb1
  revert hb1
  refine upn2 fun b1d b1x b1n => ?_
  refine W_cast (up_comm _ (by walk_at "ne") _ _) ?_
  repeat walk_at "st"
  refine W_list 1002 ?_
  repeat walk_at "st"
  refine ⟨by decide, ?_⟩
  intro b2 hb2
  revert hb2
  refine upn3 fun b2d b2b1 b2x b2n => ?_
  refine W_cast (up_comm _ (by walk_at "ne") _ _) ?_
  repeat walk_at "st"
  refine W_list 0 ?_
  repeat walk_at "st"
  refine ⟨by decide, ?_⟩
  intro b5 hb5
  refine W_less (Le.fresh hb5) ?_
  repeat walk_at "st"
  refine W_list 0 ?_
  repeat walk_at "st"
  refine ⟨by decide, ?_⟩
  intro b5 hb5
  refine W_less (Le.fresh hb5) ?_
  repeat walk_at "st"
  refine W_dict0 1003 ?_
  intro b3 hb3
  revert hb3
  refine upn4 fun b3d b3b2 b3b1 b3x b3n => ?_
  refine W_cast (up_comm _ (by walk_at "ne") _ _) ?_
  repeat walk_at "st"
  refine W_idict0 1004 ?_
  intro b4 hb4
  revert hb4
  refine upn5 fun b4d b4b3 b4b2 b4b1 b4x b4n => ?_
  refine W_cast (up_comm _ (by walk_at "ne") _ _) ?_
  repeat walk_at "st"
  refine W_nil ⟨rfl, ?_⟩
  exact H x d b1 b2 b3 b4 _ _ _ _ hx hd hxd b1n b1x b1d b2n b2x b2d b2b1 b3n b3x b3d b3b1 b3b2 b4n b4x b4d b4b1 b4b2 b4b3 (by walk_at "fl") (by walk_at "fl") (by walk_at "fl") (by walk_at "fl") (by walk_at "fl") (by walk_at "fl") (by walk_at "fl") (by walk_at "fl") (by walk_at "fl") (by walk_at "fl")
end
section rules
variable {G : Gd} {A : Around} {stk : List (Addr × Hid)} {L : Addr} {m : Fld} {led : Led} {α β : Type} {E : Value → Shared → Prop}
variable {cn : Str} {cs : Scope} {a : Addr} {ccd : Value} {cl : List (Str × Addr)} {x : Str} {pos : Pos} {v : Value} {env : Env}
theorem Inv.pushAt {h h₁ : Heap} {b : Fld} {C : Addr} (I : Inv G stk L m led h) (hC : h.objs.size ≤ C) (hn : h₁.Ns C b) (hk : ∀ c o, h.get? c = some o → h₁.get? c = some o) : Inv G ((L, .fr m) :: stk) C b led h₁ := by
  have off : ∀ z y, h.get? z = some y → C ≠ z := fun z y e q => absurd (Heap.lt_size e) (q ▸ Nat.not_lt.mpr hC)
  refine ⟨fun c o e => hk c o (I.keep c o e), hn, Nat.le_trans I.lt hC, ?_, ?_, ?_⟩
  · refine List.nodup_cons.mpr ⟨fun hm => ?_, I.nd⟩
    rcases List.mem_cons.mp hm with z | z
    · obtain ⟨o, es, ep, e, _⟩ := I.ns
      exact off _ _ e z
    · obtain ⟨p, hp, z⟩ := List.mem_map.mp z
      exact off _ _ (I.sk p hp).1.some.choose_spec z.symm
  · intro p hp
    rcases List.mem_cons.mp hp with rfl | hp
    · exact ⟨⟨ns_at I.ns fun o e => hk _ o e, I.above⟩, none_of_ge I.above⟩
    · exact ⟨(I.sk p hp).1.at fun o e => hk _ o e, (I.sk p hp).2⟩
  · intro c t o e
    obtain ⟨h1, h2, h3⟩ := I.led c t o e
    refine ⟨h1.at fun y hy => hk _ y hy, h2, fun hm => ?_⟩
    rcases List.mem_cons.mp hm with z | z
    · obtain ⟨y, hy⟩ := h1.some
      exact off _ _ hy z.symm
    · exact h3 z
/- functions with cells -/
noncomputable def cellsUp (cm : Fld) : List (Str × Addr) → Led → Led
  | [], led => led
  | (n, c) :: r, led => cellsUp cm r (up led c (99, .cell (cm n)))
theorem Inv.cells {h : Heap} (cm : Fld) : ∀ (cs : List (Str × Addr)) {led : Led}, Inv G stk L m led h → (∀ p ∈ cs, h.IsCell p.2 (cm p.1) ∧ G.base.get? p.2 = none ∧ p.2 ∉ L :: stk.map Prod.fst) → Inv G stk L m (cellsUp cm cs led) h
  | [], _, I, _ => I
  | (n, c) :: r, _, I, hc => Inv.cells cm r (I.newAt (hc _ (.head _)).2.1 (hc _ (.head _)).2.2 (hc _ (.head _)).1) fun p hp => hc p (.tail _ hp)
theorem lookup_mem {K V : Type} [BEq K] [LawfulBEq K] : ∀ {l : List (K × V)}, (l.map Prod.fst).Nodup → ∀ p ∈ l, l.lookup p.1 = some p.2
  | q :: r, hn, p, hp => by
    rw [List.map_cons, List.nodup_cons] at hn
    rcases List.mem_cons.mp hp with rfl | hp
    · simp [List.lookup]
    · have : (p.1 == q.1) = false := by
        simp only [beq_eq_false_iff_ne, ne_eq]
        intro e
        exact hn.1 (e ▸ List.mem_map_of_mem hp)
      rw [List.lookup_cons, this]
      exact lookup_mem hn.2 p hp
theorem Fn_cells {Q : Value → Led → Prop} {name qual : Str} {params : Arguments} {body : List Stmt} {scope : Scope} {dV kV doc pm cdv ct oc : Value} {an od : Option Addr} {osl : Array (Option Value)} {f : Addr} {args : List Value} {binds : List (Str × Value)}
    (ho : List.lookup f (tpx.heap_39 G.w.params) = some ⟨oc, od, .func (fnOf name qual params body scope dV kV doc pm an cdv ct), osl⟩) (hcd : codeIn (tpx.heap_39 G.w.params) cdv qual = true) (hroom : A.depth ≤ 900)
    (hbind : bindArgs (fnOf name qual params body scope dV kV doc pm an cdv ct) ⟨args, []⟩ = pure binds)
    (hkind : (binds.all fun y => scope.names.lookup y.1 == some .local || scope.names.lookup y.1 == some .cell) = true)
    (hco : scope.isCoroutine = false) (hgen : scope.isGenerator = false) (hk : scope.kind = .function) (hnd : ∀ n, ((cellsFrom n scope.names []).map Prod.fst).Nodup)
    (H : ∀ L' E, (∀ c : Addr, L' ≤ c → led c = none) → W G (A.deeper (envX qual scope L' f cdv (cellsFrom (L' + 1) scope.names []))) ((L, .fr m) :: stk) L' (bindL (envX qual scope L' f cdv (cellsFrom (L' + 1) scope.names [])).kindOf binds fun _ => none)
      (cellsUp (bindC (envX qual scope L' f cdv (cellsFrom (L' + 1) scope.names [])).kindOf binds fun _ => none) (cellsFrom (L' + 1) scope.names []) led)
      (execs body (envX qual scope L' f cdv (cellsFrom (L' + 1) scope.names []))) (fun fl _ led' => ∃ led'', Le led'' led' ∧ Q (retOf fl) led'') E) :
    FnC G A stk L m led (.ref f) args Q E := fun h tk I => by
  have X := G.X.keeps I.keep
  have hbT := BindsTo.of_eq (s := G.sh h tk) hbind
  refine codeAny_call_function (Nat.lt_of_le_of_lt hroom (by decide)) (X _ _ ho) rfl hco hgen rfl (codeRec_of X hcd) (hbT _ _ _ _ ?_)
  refine wpAny_newFunctionEnv_cells hk (kindsX hkind _) fun env' he s' x => ?_
  subst he
  refine ⟨(G.T.nolimit.keeps I.keep).keeps x.toInCall.keep, codeAny_func ?_⟩
  obtain ⟨h₁, tk', rfl, hk₁⟩ := x.done
  have I1 := I.pushAt (C := h.objs.size) (Nat.le_refl _) x.toInCall.ns hk₁
  have I2 := Inv.cells (bindC (envX qual scope h.objs.size f cdv (cellsFrom (h.objs.size + 1) scope.names [])).kindOf binds fun _ => none) (cellsFrom (h.objs.size + 1) scope.names []) I1 fun p hp => by
    have ha : h.objs.size < p.2 := x.above p.1 p.2 hp
    refine ⟨x.cell p.1 p.2 (lookup_mem (hnd _) p hp), none_of_ge (Nat.le_trans I.lt (Nat.le_of_lt ha)), fun hm => ?_⟩
    rcases List.mem_cons.mp hm with z | z
    · exact absurd ha (z ▸ Nat.lt_irrefl _)
    · rcases List.mem_cons.mp z with z | z
      · exact absurd (Nat.lt_trans I.ns.lt ha) (z ▸ Nat.lt_irrefl _)
      · obtain ⟨q, hq, z⟩ := List.mem_map.mp z
        exact absurd (Nat.lt_trans (Heap.lt_size (I.sk q hq).1.some.choose_spec) ha) (z ▸ Nat.lt_irrefl _)
  have hfresh : ∀ c : Addr, h.objs.size ≤ c → led c = none := fun c hc => by
    cases q : led c with
    | none => rfl
    | some e =>
      obtain ⟨y, hy⟩ := (I.led c e.1 e.2 q).1.some
      exact absurd (Heap.lt_size hy) (Nat.not_lt.mpr hc)
  exact wpAny_mono ((H h.objs.size _ hfresh).use I2 fun fl h' tk' m' led' I' q => (by
    obtain ⟨led'', hle, q⟩ := q
    exact ⟨h', tk', led'', rfl, (I'.less hle).pop, q⟩ : Res G stk L m Q E (.ok (.ret (retOf fl))) (G.sh h' tk'))) (fun fl s' z => z) fun _ _ z => z
theorem Fn_cellsM (m0 : Fld) (ledL : Addr → Led) {Q : Value → Led → Prop} {name qual : Str} {params : Arguments} {body : List Stmt} {scope : Scope} {dV kV doc pm cdv ct oc : Value} {an od : Option Addr} {osl : Array (Option Value)} {f : Addr} {args : List Value} {binds : List (Str × Value)}
    (ho : List.lookup f (tpx.heap_39 G.w.params) = some ⟨oc, od, .func (fnOf name qual params body scope dV kV doc pm an cdv ct), osl⟩) (hcd : codeIn (tpx.heap_39 G.w.params) cdv qual = true) (hroom : A.depth ≤ 900)
    (hbind : bindArgs (fnOf name qual params body scope dV kV doc pm an cdv ct) ⟨args, []⟩ = pure binds)
    (hkind : (binds.all fun y => scope.names.lookup y.1 == some .local || scope.names.lookup y.1 == some .cell) = true)
    (hco : scope.isCoroutine = false) (hgen : scope.isGenerator = false) (hk : scope.kind = .function) (hnd : ∀ n, ((cellsFrom n scope.names []).map Prod.fst).Nodup)
    (hm : ∀ L', bindL (envX qual scope L' f cdv (cellsFrom (L' + 1) scope.names [])).kindOf binds (fun _ => none) = m0)
    (hc : ∀ L', cellsUp (bindC (envX qual scope L' f cdv (cellsFrom (L' + 1) scope.names [])).kindOf binds fun _ => none) (cellsFrom (L' + 1) scope.names []) led = ledL L')
    (H : ∀ L' E, (∀ c : Addr, L' ≤ c → led c = none) → W G (A.deeper (envX qual scope L' f cdv (cellsFrom (L' + 1) scope.names []))) ((L, .fr m) :: stk) L' m0 (ledL L')
      (execs body (envX qual scope L' f cdv (cellsFrom (L' + 1) scope.names []))) (fun fl _ led' => ∃ led'', Le led'' led' ∧ Q (retOf fl) led'') E) :
    FnC G A stk L m led (.ref f) args Q E := Fn_cells ho hcd hroom hbind hkind hco hgen hk hnd fun L' E hf => by rw [hm, hc]; exact H L' E hf
theorem W_inStr {Q : Value → Fld → Led → Prop} {y z : Str} {t u : Tok} (q : Q (.bool (!(Builtin.Str.occurrences z y 0 z.length 1).isEmpty)) m led) : W G A stk L m led (compareOp .In (.str y u) (.str z t)) Q E := fun h tk I => P.in_str ⟨_, _, _, _, rfl, I, q⟩
/- while -/
noncomputable def WhQ (Q : Flow → Fld → Led → Prop) (J : Nat → Fld → Led → Prop) (n : Nat) (f : Flow) (m : Fld) (led : Led) : Prop := match f with
  | .next | .cont => ∃ k, k < n ∧ J k m led
  | .brk => Q .next m led
  | .ret v => Q (.ret v) m led
noncomputable def WhB (G : Gd) (A : Around) (stk : List (Addr × Hid)) (L : Addr) (body : List Stmt) (env : Env) (Q : Flow → Fld → Led → Prop) (J : Nat → Fld → Led → Prop) (n : Nat) (E : Value → Shared → Prop) (b : Bool) (m : Fld) (led : Led) : Prop := match b with
  | true => W G A stk L m led (execs body env) (WhQ Q J n) E
  | false => Q .next m led
theorem whB_t {Q : Flow → Fld → Led → Prop} {J : Nat → Fld → Led → Prop} {n : Nat} {body : List Stmt} {b : Bool} (hb : b = true) (H : W G A stk L m led (execs body env) (WhQ Q J n) E) : WhB G A stk L body env Q J n E b m led := by subst hb; exact H
theorem whB_f {Q : Flow → Fld → Led → Prop} {J : Nat → Fld → Led → Prop} {n : Nat} {body : List Stmt} {b : Bool} (hb : b = false) (H : Q .next m led) : WhB G A stk L body env Q J n E b m led := by subst hb; exact H
theorem W_while {Q : Flow → Fld → Led → Prop} {test : Expr} {body : List Stmt} (J : Nat → Fld → Led → Prop) (n : Nat) (h0 : J n m led)
    (turn : ∀ k m' led' E, J k m' led' → W G A stk L m' led' (PySem.isTrue test env (eval test env)) (WhB G A stk L body env Q J k E) E) : W G A stk L m led (exec (.While test body [] pos) env) Q E := fun h tk I => by
  refine wpAny_While ?_
  let R : Result → Shared → Prop := fun r s' => match r with | .ok f => (∃ h' tk' m' led', s' = G.sh h' tk' ∧ Inv G stk L m' led' h' ∧ Q f m' led') | .error e => cameBackBy (model G.prog G.w) A env E e s'
  show codeAny (model G.prog G.w) A (.whileLoop test body [] env) R _
  refine codeAny_whileLoop (fun k s => ∃ h' tk' m' led', s = G.sh h' tk' ∧ Inv G stk L m' led' h' ∧ J k m' led') ?_ n ⟨h, tk, m, led, rfl, I, h0⟩
  rintro k s ⟨h', tk', m', led', rfl, I', hj⟩
  refine (turn k m' led' _ hj).use I' fun b h2 tk2 m2 led2 I2 q => ?_
  cases b with
  | true =>
    simp only [if_true]
    refine (show W G A stk L m2 led2 (execs body env) (WhQ Q J k) _ from q).use I2 fun f h3 tk3 m3 led3 I3 q3 => ?_
    cases f with
    | next => obtain ⟨j, h1, h2⟩ := q3; exact ⟨j, h1, h3, tk3, m3, led3, rfl, I3, h2⟩
    | cont => obtain ⟨j, h1, h2⟩ := q3; exact ⟨j, h1, h3, tk3, m3, led3, rfl, I3, h2⟩
    | brk => exact ⟨h3, tk3, m3, led3, rfl, I3, q3⟩
    | ret v => exact ⟨h3, tk3, m3, led3, rfl, I3, q3⟩
  | false =>
    simp only [Bool.false_eq_true, if_false]
    exact wpAny_execs_nil ⟨h2, tk2, m2, led2, rfl, I2, q⟩
/- quiet steps: nothing but the count of tokens turns -/
noncomputable def WQ (G : Gd) (A : Around) (stk : List (Addr × Hid)) (L : Addr) (m : Fld) (led : Led) {α : Type} (t : Sem α) (Q : α → Prop) (E : Value → Shared → Prop) : Prop :=
  ∀ s : Shared, Inv G stk L m led s.heap → wpAny (model G.prog G.w) A t (fun v s' => (∃ tk', s' = { s with toks := tk' }) ∧ Q v) E s
theorem WQ.use {t : Sem α} {Q : α → Prop} (H : WQ G A stk L m led t Q E) {s : Shared} (I : Inv G stk L m led s.heap) {Q' : α → Shared → Prop} (k : ∀ v tk', Q v → Q' v { s with toks := tk' }) : wpAny (model G.prog G.w) A t Q' E s :=
  wpAny_mono (H s I) (fun v s' ⟨⟨tk', e⟩, q⟩ => by subst e; exact k v tk' q) fun _ _ e => e
theorem WQ_bind {t : Sem α} {f : α → Sem β} {Q : β → Prop} (H : WQ G A stk L m led t (fun v => WQ G A stk L m led (f v) Q E) E) : WQ G A stk L m led (t >>= f) Q E :=
  fun s I => wpAny_bind (H.use I fun v tk' q => (show WQ G A stk L m led (f v) Q E from q).use (s := { s with toks := tk' }) I fun v tk2 q => ⟨⟨tk2, rfl⟩, q⟩)
theorem WQ_pure {v : α} {Q : α → Prop} (q : Q v) : WQ G A stk L m led (pure v) Q E := fun s I => wpAny_pure ⟨⟨s.toks, rfl⟩, q⟩
theorem WQ_nameL {Q : Value → Prop} (hv : m x = some v) (q : Q v) (hk : env.scope.kind = .function) (hx : env.kindOf x = some .local) (hL : env.locals = L) (hd : (x == ("__debug__" : Str)) = false) : WQ G A stk L m led (eval (.Name x pos) env) Q E := fun s I =>
  wpAny_Name (wpAny_loadName_local hk hx (hL ▸ I.ns) hv ⟨⟨s.toks, rfl⟩, q⟩) hd
theorem WQ_nameC {Q : Value → Prop} {c : Addr} {t : Nat} (hc : env.cells.lookup x = some c) (hl : led c = some (t, .cell (some v))) (q : Q v) (hk : env.scope.kind = .function) (hx : env.kindOf x = some .cell) (hd : (x == ("__debug__" : Str)) = false) : WQ G A stk L m led (eval (.Name x pos) env) Q E := fun s I =>
  wpAny_Name (wpAny_loadName_cell hk hx hc (I.led c t _ hl).1 ⟨⟨s.toks, rfl⟩, q⟩) hd
theorem WQ_nameK {Q : Value → Prop} (hv : nsIn (tpx.heap_39 G.w.params) mainGlobals x = some (some v)) (q : Q v) (hk : env.scope.kind = .function) (hx : env.kindOf x = some .globalImplicit) (hg : env.globals = mainGlobals) (hd : (x == ("__debug__" : Str)) = false) : WQ G A stk L m led (eval (.Name x pos) env) Q E := fun s I =>
  Name_function_global hk hx (loadGlobal_global (env := env) (hg ▸ (topRead_of G.T).g.keeps I.keep) (mg_of G.X (topRead_of G.T).g hv) ⟨⟨s.toks, rfl⟩, q⟩) hd
theorem WQ_nameB {Q : Value → Prop} (hv : nsIn (tpx.heap_39 G.w.params) mainGlobals x = some none) (hb : bootBuiltins x = some v) (q : Q v) (hn : x ≠ "__name__") (hk : env.scope.kind = .function) (hx : env.kindOf x = some .globalImplicit) (hg : env.globals = mainGlobals) (hg2 : env.builtins = builtinsNs) (hd : (x == ("__debug__" : Str)) = false) :
    WQ G A stk L m led (eval (.Name x pos) env) Q E := fun s I =>
  Name_function_global hk hx (loadGlobal_builtin (env := env) (hg ▸ (topRead_of G.T).g.keeps I.keep) (mg_none_of G.X (topRead_of G.T).g hv) (hg2 ▸ (topRead_of G.T).b.keeps I.keep) (((topRead_of G.T).builtins x hn).trans hb) ⟨⟨s.toks, rfl⟩, q⟩) hd
theorem WQ_int {Q : Value → Prop} {k : Nat} {i : Int} (q : ∀ t, Q (.int i t)) : WQ G A stk L m led (eval (.Constant (.int i) k pos) env) Q E := fun s I => wpAny_Constant_int ⟨⟨s.toks + 1, rfl⟩, q _⟩
theorem WQ_attr {Q : Value → Prop} {e : Expr} {attr : Str} (H : WQ G A stk L m led (eval e env) (fun o => WQ G A stk L m led (getAttr o attr true) Q E) E)
    (he : eval (.Attribute e attr pos) env = (do let o ← eval e env; standAt pos.atName; let r ← holding [o] (getAttr o attr true); letTemporaryGo e o r; pure r)) : WQ G A stk L m led (eval (.Attribute e attr pos) env) Q E := fun s I =>
  Attribute_any_ (H.use I fun v tk' q => (show WQ G A stk L m led (getAttr v attr true) Q E from q).use (s := { s with toks := tk' }) I fun v tk2 q => ⟨⟨tk2, rfl⟩, q⟩) he
theorem WQ_get {Q : Value → Prop} {o C d : Addr} {f : Fld} {n t t' : Nat} {name : Str} {expr : Bool} (hx : led o = some (t, .inst C d)) (hd : led d = some (t', .attrs f n)) (hv : f name = some v) (hk : okGet (tpx.heap_39 G.w.params) C name = true) (hh : handedIn v = true)
    (q : Q v) : WQ G A stk L m led (getAttr (.ref o) name expr) Q E := fun s I => by
  obtain ⟨es, k, e, _, _, hr, hf⟩ := (I.led d t' _ hd).1
  obtain ⟨hk, k3⟩ := Bool.and_eq_true_iff.mp hk
  obtain ⟨k1, k2⟩ := Bool.and_eq_true_iff.mp hk
  exact get_own I.fr G.X (inst_at (I.led o t _ hx).1 e) k1 k2 (beq_iff_eq.mp k3) rfl (by rw [getL_of hr hf, hv]) hh ⟨⟨s.toks + 1, rfl⟩, q⟩
theorem WQ_sub {Q : Value → Prop} {value slice : Expr} (H : WQ G A stk L m led (eval value env) (fun o => WQ G A stk L m led (eval slice env) (fun i => WQ G A stk L m led (subscriptTail value slice o i) Q E) E) E) : WQ G A stk L m led (eval (.Subscript value slice pos) env) Q E := fun s I =>
  Subscript_ (H.use I fun v tk' q => (show WQ G A stk L m led (eval slice env) _ E from q).use (s := { s with toks := tk' }) I fun v2 tk2 q => (show WQ G A stk L m led (subscriptTail value slice v v2) Q E from q).use (s := { s with toks := tk2 }) I fun v tk3 q => ⟨⟨tk3, rfl⟩, q⟩)
theorem WQ_tailT {Q : Value → Prop} {value slice : Expr} {o : Addr} {vs : List Value} {t : Nat} {i : Nat} {u : Tok} (hx : led o = some (t, .tup vs)) (h1 : i < 1000) (hv : vs[i]? = some v) (q : Q v)
    (hs : subscripted slice false (.ref o) (.int (i : Int) u) = operate [.ref o, .int (i : Int) u] (getItem (.ref o) (.int (i : Int) u))) : WQ G A stk L m led (subscriptTail value slice (.ref o) (.int (i : Int) u)) Q E := fun s I =>
  have hl : IsTup s.heap o vs.toArray := (I.led o t _ hx).1
  have hi : i < vs.length := by obtain ⟨hi, _⟩ := List.getElem?_eq_some_iff.mp hv; exact hi
  tail_any (by obtain ⟨ob, e, c, r⟩ := hl; exact ⟨ob, e, c⟩) slot_tuple_getitem.lookup (getItem_tuple (j := i) hl (by omega) (by omega) (by unfold seqIndex?; simp; rw [if_neg (by omega)]; omega) (by simpa using hv) ⟨⟨s.toks, rfl⟩, q⟩) hs
theorem WQ_tailL {Q : Value → Prop} {value slice : Expr} {o : Addr} {vs : List Value} {t : Nat} {i : Nat} {u : Tok} (hx : led o = some (t, .list vs)) (h1 : i < 1000) (hv : vs[i]? = some v) (q : Q v)
    (hs : subscripted slice false (.ref o) (.int (i : Int) u) = operate [.ref o, .int (i : Int) u] (getItem (.ref o) (.int (i : Int) u))) : WQ G A stk L m led (subscriptTail value slice (.ref o) (.int (i : Int) u)) Q E := fun s I =>
  have hl : s.heap.IsList o vs.toArray := PlainL.isList (I.led o t _ hx).1
  tail_any hl.typeIs slot_list_getitem.lookup (wpAny_getItem_list hl (by omega) (by omega) (by simpa using hv) ⟨⟨s.toks, rfl⟩, q⟩) hs
theorem WQ_tcmp {Q : Bool → Prop} {l r : Expr} {op : CmpOp} {whole : Sem Value} (H : WQ G A stk L m led (eval l env) (fun u => WQ G A stk L m led (eval r env) (fun v => WQ G A stk L m led (compareOp op u v) (fun c => WQ G A stk L m led (truthy c) Q E) E) E) E)
    (hb : behindInMarks op r = false) : WQ G A stk L m led (PySem.isTrue (.Compare l [op] [r] pos) env whole) Q E := fun s I =>
  wpAny_isTrue_Compare1 (H.use I fun v tk' q => (show WQ G A stk L m led (eval r env) _ E from q).use (s := { s with toks := tk' }) I fun v2 tk2 q => (show WQ G A stk L m led (compareOp op v v2) _ E from q).use (s := { s with toks := tk2 }) I fun v3 tk3 q =>
    (show WQ G A stk L m led (truthy v3) Q E from q).use (s := { s with toks := tk3 }) I fun v tk4 q => ⟨⟨tk4, rfl⟩, q⟩) hb
theorem WQ_eqI {Q : Value → Prop} {i j : Int} {t u : Tok} (q : Q (.bool (i == j))) : WQ G A stk L m led (compareOp .Eq (.int i t) (.int j u)) Q E := fun s I => eq_int ⟨⟨s.toks, rfl⟩, q⟩
theorem WQ_truthyB {Q : Bool → Prop} {b : Bool} (q : Q b) : WQ G A stk L m led (truthy (.bool b)) Q E := fun s I => wpAny_truthy_bool ⟨⟨s.toks, rfl⟩, q⟩
theorem WQ_tplain {Q : Bool → Prop} {e : Expr} {whole : Sem Value} (H : WQ G A stk L m led whole (fun c => WQ G A stk L m led (truthy c) Q E) E) (he : PySem.isTrue e env whole = (do let v ← whole; standAt e.pos; holding [v] (truthy v))) : WQ G A stk L m led (PySem.isTrue e env whole) Q E := fun s I =>
  isTrue_plain (H.use I fun v tk' q => (show WQ G A stk L m led (truthy v) Q E from q).use (s := { s with toks := tk' }) I fun v tk2 q => ⟨⟨tk2, rfl⟩, q⟩) he
theorem WQ_test1 {Q : Bool → Prop} {c : Expr} (H : WQ G A stk L m led (PySem.isTrue c env (eval c env)) Q E) :
    WQ G A stk L m led (forIn [c] true fun c r => if r = true then do let ok ← PySem.isTrue c env (eval c env); pure (ForInStep.yield ok) else pure (ForInStep.yield r)) Q E := by
  simp only [List.forIn_cons, List.forIn_nil, if_true]
  exact WQ_bind (WQ_bind (fun s I => (H.use I fun v tk' q => ⟨⟨tk', rfl⟩, WQ_pure (WQ_pure q)⟩)))
theorem WQ_test0 {Q : Bool → Prop} (q : Q true) :
    WQ G A stk L m led (forIn ([] : List Expr) true fun c r => if r = true then do let ok ← PySem.isTrue c env (eval c env); pure (ForInStep.yield ok) else pure (ForInStep.yield r)) Q E := by
  simp only [List.forIn_nil]
  exact WQ_pure q
theorem WQ_binop {Q : Value → Prop} {l r : Expr} {op : Operator} (H : WQ G A stk L m led (eval l env) (fun u => WQ G A stk L m led (eval r env) (fun v => WQ G A stk L m led (binaryOp op u v) Q E) E) E) : WQ G A stk L m led (eval (.BinOp l op r pos) env) Q E := fun s I =>
  wpAny_BinOp (H.use I fun v tk' q => (show WQ G A stk L m led (eval r env) _ E from q).use (s := { s with toks := tk' }) I fun v2 tk2 q => (show WQ G A stk L m led (binaryOp op v v2) Q E from q).use (s := { s with toks := tk2 }) I fun v tk3 q => ⟨⟨tk3, rfl⟩, q⟩)
theorem WQ_modI {Q : Value → Prop} {i j : Int} {t u : Tok} (hj : j ≠ 0) (q : ∀ t, Q (.int (i.fmod j) t)) : WQ G A stk L m led (binaryOp .Mod (.int i t) (.int j u)) Q E := fun s I => mod_int hj ⟨⟨s.toks + 1, rfl⟩, q _⟩
theorem WQ_callE {Q : Value → Prop} {func : Expr} {args : List Expr} (H : WQ G A stk L m led (eval func env) (fun f => WQ G A stk L m led (callWith pos f [] (backTo pos (starEach args env)) []) Q E) E)
    (he : eval (.Call func args [] pos) env = (do callWith pos (← eval func env) [] (backTo pos (starEach args env)) (backToKw pos (keywordEach [] env)))) : WQ G A stk L m led (eval (.Call func args [] pos) env) Q E := fun s I =>
  Call_ (H.use I fun v tk' q => (show WQ G A stk L m led (callWith pos v [] (backTo pos (starEach args env)) []) Q E from q).use (s := { s with toks := tk' }) I fun v tk2 q => ⟨⟨tk2, rfl⟩, q⟩) he
theorem WQ_cwB {Q : Value → Prop} {id : String} {first : List Value} {e : Expr} {rest : List Expr} (H : WQ G A stk L m led (spliced (backTo pos (starEach (e :: rest) env))) (fun vs => WQ G A stk L m led (call (.builtin id) (first ++ vs)) Q E) E)
    (he : starEach (e :: rest) env = (false, eval e env) :: starEach rest env) (hp : (backTo pos (starEach rest env)).any (·.1) = false) : WQ G A stk L m led (callWith pos (.builtin id) first (backTo pos (starEach (e :: rest) env)) []) Q E := fun s I => by
  have H' := (H.use I (Q' := fun vs s' => wpAny (model G.prog G.w) A (call (.builtin id) (first ++ vs)) (fun v s' => (∃ tk', s' = { s with toks := tk' }) ∧ Q v) E s') fun v tk' q =>
    (show WQ G A stk L m led (call (.builtin id) (first ++ v)) Q E from q).use (s := { s with toks := tk' }) I fun v tk2 q => ⟨⟨tk2, rfl⟩, q⟩)
  rw [he] at H' ⊢
  exact Calls.callWith_builtin (by show (false || (backTo pos (starEach rest env)).any (·.1)) = false; rw [hp]; rfl) (Calls.evalArgs_plain H')
theorem WQ_args {Q : List Value → Prop} {e : Expr} {rest : List Expr} (H : WQ G A stk L m led (eval e env) (fun v => WQ G A stk L m led (spliced (backTo pos (starEach rest env))) (fun vs => Q (v :: vs)) E) E) (he : starEach (e :: rest) env = (false, eval e env) :: starEach rest env) :
    WQ G A stk L m led (spliced (backTo pos (starEach (e :: rest) env))) Q E := fun s I =>
  args_cons (H.use I fun v tk' q => (show WQ G A stk L m led (spliced (backTo pos (starEach rest env))) (fun vs => Q (v :: vs)) E from q).use (s := { s with toks := tk' }) I fun v tk2 q => ⟨⟨tk2, rfl⟩, q⟩) he
theorem WQ_args0 {Q : List Value → Prop} (q : Q []) : WQ G A stk L m led (spliced (backTo pos (starEach [] env))) Q E := fun s I => args_nil ⟨⟨s.toks, rfl⟩, q⟩
theorem WQ_isi {Q : Value → Prop} {o C C' d : Addr} {t : Nat} (hx : led o = some (t, .inst C' d)) (hi : isIn (tpx.heap_39 G.w.params) (.ref C') C = true) (q : Q (.bool true)) : WQ G A stk L m led (call (.builtin "isinstance") [.ref o, .ref C]) Q E := fun s I =>
  isi_call (G.X.keeps I.keep) (fun M => by
    have e : s.heap.get? o = some (instObj C' d) := (I.led o t _ hx).1
    intro A Q E s k q
    exact wpAny_typeOf_ref (k _ _ e) q) hi (by intro z; cases z) ⟨⟨s.toks, rfl⟩, q⟩
theorem WQ_abs {Q : Value → Prop} {i : Int} {t : Tok} (q : ∀ t, Q (.int (if i < 0 then -i else i) t)) : WQ G A stk L m led (call (.builtin "abs") [.int i t]) Q E := fun s I => call_abs_int fun u tk' => ⟨⟨tk', rfl⟩, q u⟩
/- comprehensions over a list -/
noncomputable def CompOk (G : Gd) (A : Around) (env : Env) (scope : Scope) (cl : List (Str × Addr)) (x : Str) (ifs : List Expr) (elt : Expr) (led : Led) (p : Value → Bool) (F : Value → Value → Prop) (v : Value) : Prop :=
  ∀ (stk : List (Addr × Hid)) (C : Addr) (m : Fld) (E : Value → Shared → Prop), m x = some v →
    WQ G A stk C m led (forIn ifs true fun c r => if r = true then do let ok ← PySem.isTrue c (compEnvC scope cl C env) (eval c (compEnvC scope cl C env)); pure (ForInStep.yield ok) else pure (ForInStep.yield r)) (fun ok => ok = p v) E ∧
    (p v = true → WQ G A stk C m led (eval elt (compEnvC scope cl C env)) (fun y => F v y) E)
theorem comp_quiet {env : Env} {scope : Scope} {cl : List (Str × Addr)} {x : Str} {ifs : List Expr} {elt : Expr} {p : Value → Bool} {F : Value → Value → Prop} {P : Nat → Value → Prop} {s₂ : Shared} {h1 : Heap} {it : Addr} (I : Inv G stk L m led h1) (hup : ∀ b o, h1.get? b = some o → b ≠ it ∧ s₂.heap.get? b = some o)
    (hsz : h1.objs.size ≤ s₂.heap.objs.size) (hP : ∀ i v, P i v → CompOk G A env scope cl x ifs elt led p F v) : QuietOnC G.prog G.w A env scope cl x ifs elt [it] P p F s₂ where
  tests C i v s₃ m₃ E' hC hp hn hx hk _ := by
    have I3 : Inv G ((L, .fr m) :: stk) C m₃ led s₃.heap := I.pushAt (Nat.le_trans hsz hC) hn fun b o e => hk b o (by simp; exact (hup b o e).1) (hup b o e).2
    exact (hP i v hp _ C m₃ E' hx).1.use I3 fun v tk' q => ⟨q, s₃.heap, tk', rfl, fun _ _ e => e⟩
  elt C i v s₃ m₃ E' hC hp hpv hn hx hk _ := by
    have I3 : Inv G ((L, .fr m) :: stk) C m₃ led s₃.heap := I.pushAt (Nat.le_trans hsz hC) hn fun b o e => hk b o (by simp; exact (hup b o e).1) (hup b o e).2
    exact ((hP i v hp _ C m₃ E' hx).2 hpv).use I3 fun v tk' q => ⟨q, s₃.heap, tk', rfl, fun _ _ e => e⟩
theorem items_of {its vs : List Value} (hl : vs.length = its.length) (h : ∀ (j : Nat) (v : Value), vs[j]? = some v → its[j]? = some v) : vs = its := by
  apply List.ext_getElem hl
  intro i h1 h2
  have := h i vs[i] (List.getElem?_eq_getElem h1)
  rw [List.getElem?_eq_getElem h2] at this
  exact (Option.some.inj this).symm
theorem Inv.newPlain {h h' : Heap} {D : Addr} {ys : Array Value} {t : Nat} (I : Inv G stk L m led h) (hD : h.get? D = none) (hk : ∀ b o, h.get? b = some o → h'.get? b = some o) (hl : h'.PlainList D ys) : led D = none ∧ Inv G stk L m (up led D (t, .list ys.toList)) h' := by
  have hn : led D = none := by
    cases q : led D with
    | none => rfl
    | some e =>
      obtain ⟨y, hy⟩ := (I.led D e.1 e.2 q).1.some
      rw [hD] at hy; cases hy
  refine ⟨hn, (I.keeps hk).newAt ?_ (fun hm => ?_) ?_⟩
  · cases q : G.base.get? D with
    | none => rfl
    | some o => have := I.keep _ _ q; rw [hD] at this; cases this
  · rcases List.mem_cons.mp hm with z | z
    · obtain ⟨o, _, _, e, _⟩ := I.ns; rw [← z, hD] at e; cases e
    · obtain ⟨q, hq, z⟩ := List.mem_map.mp z
      obtain ⟨y, hy⟩ := (I.sk q hq).1.some
      rw [z, hD] at hy; cases hy
  · obtain ⟨n, e⟩ := hl
    exact ⟨_, n, e, rfl, rfl, rfl⟩
theorem W_compL {Q : Value → Fld → Led → Prop} {elt iter : Expr} {px : Pos} {ifs : List Expr} {scope : Scope} (t' : Nat) (p : Value → Bool) (F : Value → Value → Prop) (hh : A.handled = none)
    (hclos : closureFor scope env = pure cl) (hcell : ∀ y ∈ scope.names, y.2 ≠ .cell) (hkind : scope.kind = .function) (hnames : ∀ y ∈ scope.names, y.2 = .local → scope.names.lookup y.1 = some .local) (hx : scope.names.lookup x = some .local)
    (H : W G A stk L m led (eval iter env) (fun xv m1 led1 => ∃ l t its, xv = .ref l ∧ led1 l = some (t, .list its) ∧ its.length ≤ 1000 ∧ (∀ v ∈ its, CompOk G A env scope cl x ifs elt led1 p F v) ∧
      (∀ ys, Paired F (its.filter p) ys → NewAt led1 (t', .list ys) fun a led' => Q (.ref a) m1 led')) E)
    (hs : ∀ x, foldedSetIterable iter env x = pure x := by intro _; rfl) : W G A stk L m led (eval (.ListComp elt [⟨.Name x px, iter, ifs, 0⟩] scope pos) env) Q E := fun h tk I => by
  refine wpAny_ListComp_free p F hclos hcell hkind hnames hx (H.use I fun xv h1 tk1 m1 led1 I1 q => ?_) hs
  obtain ⟨l, t, its, rfl, hl, hz, hok, hQ⟩ := q
  have hlist : h1.IsList l its.toArray := PlainL.isList (I1.led l t _ hl).1
  have hlt : l < h1.objs.size := by obtain ⟨_, e, _⟩ := hlist; exact Heap.lt_size e
  refine wpAny_pyIter_list hlist ?_
  have up : ∀ b o, h1.get? b = some o → (h1.push { cls := .type "list_iterator", data := .fields #[.ref l, .int 0 0] }).get? b = some o := fun b o e => Heap.get?_push_of_some _ e
  refine ⟨h1.objs.size, _, _, its.toArray.size, _, _, rfl, Walks.list hh h1.objs.size l (Nat.ne_of_lt hlt) its.toArray, by simpa using small_line hz (by decide), ⟨⟨_, Heap.get?_push_size _ rfl, rfl, rfl⟩, hlist.push _⟩, ?_, ?_, ?_⟩
  · intro b hb
    show b < (h1.push _).objs.size
    rw [Heap.size_push]
    rcases List.mem_cons.mp hb with rfl | hb
    · exact Nat.lt_succ_self _
    · rw [List.mem_singleton.mp hb]; exact Nat.lt_succ_of_lt hlt
  · exact comp_quiet I1 (fun b o e => ⟨Nat.ne_of_lt (Heap.lt_size e), up b o e⟩) (by show h1.objs.size ≤ (h1.push _).objs.size; rw [Heap.size_push]; exact Nat.le_succ _) fun i v hv => hok v (by simpa using Array.mem_of_getElem? hv)
  · intro D h' tk' ys vs hD hl' hpl hlen hP hF hk
    have e := items_of (its := its) (by simpa using hlen) (fun j v hj => by simpa using hP j v hj)
    subst e
    have hD1 : h1.get? D = none := by
      cases q : h1.get? D with
      | none => rfl
      | some o => exact absurd ((up D o q).symm.trans hD) (by simp)
    obtain ⟨hn, I'⟩ := I1.newPlain (t := t') hD1 (fun b o e => hk b o (by simp; exact Nat.ne_of_lt (Heap.lt_size e)) (up b o e)) hpl
    exact ⟨h', tk', m1, _, rfl, I', hQ _ hF D hn⟩
theorem W_compLA {Q : Flow → Fld → Led → Prop} {elt iter : Expr} {px py spos : Pos} {ifs : List Expr} {scope : Scope} {y : Str} (t' : Nat) (p : Value → Bool) (F : Value → Value → Prop) (hh : A.handled = none)
    (hL : env.locals = L) (hsw : swapsWith (.ListComp elt [⟨.Name x px, iter, ifs, 0⟩] scope pos) (some (.Name y py)) spos.line env = pure true)
    (hclos : closureFor scope env = pure cl) (hcell : ∀ y ∈ scope.names, y.2 ≠ .cell) (hkind : scope.kind = .function) (hnames : ∀ y ∈ scope.names, y.2 = .local → scope.names.lookup y.1 = some .local) (hx : scope.names.lookup x = some .local)
    (hy : env.kindOf y = some .local) (hp : (env.scope.kind == .class || (env.scope.kind == .module && env.locals != env.globals)) = false)
    (H : W G A stk L m led (eval iter env) (fun xv m1 led1 => ∃ l t its, xv = .ref l ∧ led1 l = some (t, .list its) ∧ its.length ≤ 1000 ∧ (∀ v ∈ its, CompOk G A env scope cl x ifs elt led1 p F v) ∧
      (∀ ys, Paired F (its.filter p) ys → NewAt led1 (t', .list ys) fun a led' => Q .next (fup m1 y (.ref a)) led')) E)
    (hs : ∀ x, foldedSetIterable iter env x = pure x := by intro _; rfl) : W G A stk L m led (exec (.Assign [.Name y py] (.ListComp elt [⟨.Name x px, iter, ifs, 0⟩] scope pos) spos) env) Q E := fun h tk I => by
  refine wpAny_Assign_ListComp_free p F hsw hclos hcell hkind hnames hx hy hp (H.use I fun xv h1 tk1 m1 led1 I1 q => ?_) hs
  obtain ⟨l, t, its, rfl, hl, hz, hok, hQ⟩ := q
  have hlist : h1.IsList l its.toArray := PlainL.isList (I1.led l t _ hl).1
  have hlt : l < h1.objs.size := by obtain ⟨_, e, _⟩ := hlist; exact Heap.lt_size e
  refine wpAny_pyIter_list hlist ?_
  have up : ∀ b o, h1.get? b = some o → (h1.push { cls := .type "list_iterator", data := .fields #[.ref l, .int 0 0] }).get? b = some o := fun b o e => Heap.get?_push_of_some _ e
  refine ⟨h1.objs.size, _, _, its.toArray.size, _, _, m1, rfl, Walks.list hh h1.objs.size l (Nat.ne_of_lt hlt) its.toArray, by simpa using small_line hz (by decide), ⟨⟨_, Heap.get?_push_size _ rfl, rfl, rfl⟩, hlist.push _⟩, ?_, ?_, ?_, ?_, ?_⟩
  · intro b hb
    show b < (h1.push _).objs.size
    rw [Heap.size_push]
    rcases List.mem_cons.mp hb with rfl | hb
    · exact Nat.lt_succ_self _
    · rw [List.mem_singleton.mp hb]; exact Nat.lt_succ_of_lt hlt
  · intro hm
    exact absurd I1.ns.lt (by rw [← hL, List.mem_singleton.mp hm]; exact Nat.lt_irrefl _)
  · rw [hL]; exact ns_at I1.ns fun o e => up _ o e
  · exact comp_quiet I1 (fun b o e => ⟨Nat.ne_of_lt (Heap.lt_size e), up b o e⟩) (by show h1.objs.size ≤ (h1.push _).objs.size; rw [Heap.size_push]; exact Nat.le_succ _) fun i v hv => hok v (by simpa using Array.mem_of_getElem? hv)
  · intro D h' tk' ys vs hD hl' hpl hlen hP hF hns hk
    have e := items_of (its := its) (by simpa using hlen) (fun j v hj => by simpa using hP j v hj)
    subst e
    have hD1 : h1.get? D = none := by
      cases q : h1.get? D with
      | none => rfl
      | some o => exact absurd ((up D o q).symm.trans hD) (by simp)
    rw [hL] at hns hk
    have I2 : Inv G stk L (fup m1 y (.ref D)) led1 h' := I1.top hns fun b o e hb => hk b o hb (by simp; exact Nat.ne_of_lt (Heap.lt_size e)) (up b o e)
    have hn : led1 D = none := by
      cases q : led1 D with
      | none => rfl
      | some e =>
        obtain ⟨z, hz⟩ := (I1.led D e.1 e.2 q).1.some
        rw [hD1] at hz; cases hz
    refine ⟨h', tk', _, _, rfl, I2.newAt (t := t') (o := .list ys.toList) ?_ (fun hm => ?_) ?_, hQ _ hF D hn⟩
    · cases q : G.base.get? D with
      | none => rfl
      | some o => have := I1.keep _ _ q; rw [hD1] at this; cases this
    · rcases List.mem_cons.mp hm with z | z
      · obtain ⟨o, _, _, e, _⟩ := I1.ns; rw [← z, hD1] at e; cases e
      · obtain ⟨q, hq, z⟩ := List.mem_map.mp z
        obtain ⟨w, hw⟩ := (I1.sk q hq).1.some
        rw [z, hD1] at hw; cases hw
    · obtain ⟨n, e⟩ := hpl
      exact ⟨_, n, e, rfl, rfl, rfl⟩
end rules
section
variable {G : Gd} {A : Around} {stk : List (Addr × Hid)} {L : Addr} {m : Fld} {led : Led} {E : Value → Shared → Prop}
set_option maxRecDepth 100000
set_option maxHeartbeats 4000000
theorem c_settle_rivals {Q : Value → Led → Prop} (hA : A.depth ≤ 780) (hU : A.units ≤ 8000) (hh : A.handled = none) {r dr nd e de : Addr} {t1 t2 t3 t4 t5 n1 n2 n3 : Nat} {fr fe g : Fld} {nm : Str} {u : Tok}
    (h1 : led r = some (t1, .inst 428 dr)) (h2 : led dr = some (t2, .attrs fr n1)) (h3 : fr "names" = some (.ref nd)) (h4 : led nd = some (t3, .sd g n2))
    (h5 : led e = some (t4, .inst 318 de)) (h6 : led de = some (t5, .attrs fe n3)) (h7 : fe "name" = some (.str nm u)) (h8 : g nm = none)
    (H : Q .none led) : FnC G A stk L m led (.ref 458) [.ref r, .ref e] Q E := by
  refine' Fn_cellsM (fup (fun _ => none) "region" (.ref r)) (fun L0 => up (led) (L0 + 1) (99, .cell (some (.ref e)))) (binds := [("region", .ref r), ("entity", .ref e)]) ?zho ?zhcd ?zhroom ?zhbind ?zhkind ?zhco ?zhgen ?zhk ?zhnd ?zhm ?zhc ?_
  case zho => k_is
  case zhcd => k_is
  case zhroom => omega
  case zhbind => exact rfl
  case zhkind => exact rfl
  case zhco => exact rfl
  case zhgen => exact rfl
  case zhk => exact rfl
  case zhnd => intro n; exact (by decide +kernel : (["entity"] : List Str).Nodup)
  case zhm => intro L0; rfl
  case zhc => intro L0; rfl
  intro L1 E1 hfr
  refine' W_mg1 "region" (v0 := .ref r) ?zm0 ?_
  case zm0 => exact rfl
  intro m1 e0
  have hn := hfr (L1 + 1) (Nat.le_succ _)
  have hn := hfr (L1 + 1) (Nat.le_succ _)
  repeat walk_at "st"
  refine' W_compLA 0 (fun _ => true) (fun _ _ => True) hh rfl ?zhsw ?zhclos ?zhcell ?zhkind ?zhnames ?zhx ?zhy ?zhp ?_
  walk_at "comp"
  repeat walk_at "st"
  refine' W_methS (by walk_at "lk") PySem.F.slot_dict_get PySem.F.type_dict_get ?_
  repeat walk_at "st"
  refine W_list 0 ?_
  repeat walk_at "st"
  refine ⟨by decide, ?_⟩
  intro b1 hb1
  have hN := hb1
  revert hN
  walk_at "split"
  repeat walk_at "st"
  refine' W_getS (t := t3) (f := g) (n := n2) (by walk_at "lk") ?_
  rw [h8]
  refine ⟨b1, 0, [], rfl, up_eq _ _ _, by decide, fun _ hv => (nomatch hv), fun ys hys => ?_⟩
  cases hys
  intro b2 hb2
  refine W_less (Le.trans (Le.up Le.rfl') (show Le (up (up led (L1 + 1) (99, .cell (some (.ref e)))) b2 (0, .list [])) _ from Le.up (Le.fresh hb1))) ?_
  have hb2' : up led (L1 + 1) (99, .cell (some (.ref e))) b2 = none := (up_none hb2).2
  repeat walk_at "st"
  refine' W_compLA 0 (fun _ => true) (fun _ _ => True) hh rfl ?zhsw ?zhclos ?zhcell ?zhkind ?zhnames ?zhx ?zhy ?zhp ?_
  walk_at "comp"
  repeat walk_at "st"
  refine ⟨b2, 0, [], rfl, up_eq _ _ _, by decide, fun _ hv => (nomatch hv), fun ys hys => ?_⟩
  cases hys
  intro b3 hb3
  have hb3' : up led (L1 + 1) (99, .cell (some (.ref e))) b3 = none := (up_none hb3).2
  refine W_less (show Le (up (up led (L1 + 1) (99, .cell (some (.ref e)))) b3 (0, .list [])) _ from Le.up (Le.fresh hb2')) ?_
  repeat walk_at "st"
  refine' W_compL 0 (fun _ => true) (fun _ _ => True) hh ?zhclos ?zhcell ?zhkind ?zhnames ?zhx ?_
  walk_at "compE"
  repeat walk_at "st"
  refine ⟨b3, 0, [], rfl, up_eq _ _ _, by decide, fun _ hv => (nomatch hv), fun ys hys => ?_⟩
  cases hys
  intro b4 hb4
  repeat walk_at "st"
  refine W_list 0 ?_
  repeat walk_at "st"
  refine ⟨by decide, ?_⟩
  intro b5 hb5
  refine' W_neNil (t := 0) (t' := 0) (by show A.units + 3 ≤ _; omega) (up_keep (up_eq _ _ _) hb5) (up_eq _ _ _) ?_
  refine W_less (Le.trans (Le.fresh hb4) (Le.fresh hb5)) ?_
  repeat walk_at "st"
  refine' For_list hh ?_ ?zhs
  case zhs => intro _; rfl
  repeat walk_at "st"
  refine ⟨b3, 0, [], fun _ m' led' => led' = up (up led (L1 + 1) (99, .cell (some (.ref e)))) b3 (0, .list []), rfl, up_eq _ _ _, rfl, fun i m' led' h => by rw [h]; exact up_eq _ _ _, fun _ hv => (nomatch hv), fun _ _ i _ _ _ hv => by simp at hv, fun m' led' h => ?_⟩
  subst h
  repeat walk_at "st"
  exact W_nil ⟨led, Le.trans (Le.fresh hn) (Le.fresh hb3'), H⟩
end
section
variable {G : Gd} {A : Around} {stk : List (Addr × Hid)} {L : Addr} {m : Fld} {led : Led} {E : Value → Shared → Prop}
set_option maxRecDepth 100000
set_option maxHeartbeats 4000000
theorem c_frame_region {Q : Value → Led → Prop} (hA : A.depth ≤ 780) {p dp r dr : Addr} {t1 t2 t3 t4 n1 n2 : Nat} {fp fr : Fld} {k : Str} {u u' : Tok}
    (h1 : led p = some (t1, .inst 428 dp)) (h2 : led dp = some (t2, .attrs fp n1)) (h3 : fp "kind" = some (.str "package" u)) (h4 : fp "parent" = some (.ref r))
    (h5 : led r = some (t3, .inst 428 dr)) (h6 : led dr = some (t4, .attrs fr n2)) (h7 : fr "kind" = some (.str k u')) (hk : frameKinds.contains k = true)
    (H : Q (.ref r) led) : FnC G A stk L m led (.ref 446) [.ref p] Q E := by
  refine' Fn_pos ["region"] ?zho ?zhcd ?zhroom ?zhbind ?zhloc ?zhco ?zhgen ?zhk ?zhcell ?_
  walk_at "enter"
  intro L1 E1 stk1
  refine' W_mg1 "region" (v0 := .ref p) ?zm0 ?_
  case zm0 => exact rfl
  intro m1 e0
  repeat walk_at "st"
  refine W_while (fun k m' led' => led' = led ∧ ((k = 1 ∧ m' = fup m1 "here" (.ref p)) ∨ (k = 0 ∧ m' = fup (fup m1 "here" (.ref p)) "here" (.ref r)))) 1 ⟨rfl, .inl ⟨rfl, rfl⟩⟩ ?_
  rintro n m' led' E' ⟨rfl, ⟨rfl, rfl⟩ | ⟨rfl, rfl⟩⟩
  · repeat walk_at "st"
    refine W_notinFK ?_
    repeat walk_at "st"
    refine whB_t rfl ?_
    repeat walk_at "st"
    exact W_nil ⟨0, by decide, rfl, .inr ⟨rfl, rfl⟩⟩
  · repeat walk_at "st"
    refine W_notinFK ?_
    repeat walk_at "st"
    refine whB_f (by rw [hk]; rfl) ?_
    repeat walk_at "st"
    exact H
noncomputable def ukey (nm : Str) (c : Int) : Str := if c = 0 then nm else uniq nm c
theorem c_give_unique {Q : Value → Led → Prop} (hA : A.depth ≤ 770) {p dp r dr c e de : Addr} {t1 t2 t3 t4 t5 t6 t7 n1 n2 n3 n4 : Nat} {fp fr fe gc : Fld} {k ek nm : Str} {u u' u2 u3 : Tok} {cnt : Int} {v0 : Value}
    (h1 : led p = some (t1, .inst 428 dp)) (h2 : led dp = some (t2, .attrs fp n1)) (h3 : fp "kind" = some (.str "package" u)) (h4 : fp "parent" = some (.ref r))
    (h5 : led r = some (t3, .inst 428 dr)) (h6 : led dr = some (t4, .attrs fr n2)) (h7 : fr "kind" = some (.str k u')) (hk : frameKinds.contains k = true) (h8 : fr "counts" = some (.ref c)) (h9 : led c = some (t5, .sd gc n3)) (hn3 : n3 + 1 ≤ 900)
    (g1 : led e = some (t6, .inst 318 de)) (g2 : led de = some (t7, .attrs fe n4)) (g3 : fe "kind" = some (.str ek u2)) (g4 : fe "name" = some (.str nm u3)) (g5 : fe "unique" = some v0)
    (hek : (ek == Str.ofString "exception") = false) (hnm : nm.length ≤ 100) (hc0 : 0 ≤ cnt) (hc1 : cnt < 1000) (hcnt : (gc nm = none ∧ cnt = 0) ∨ ∃ t, gc nm = some (.int cnt t))
    (H : ∀ w1 w2, Q .none (up (up led c (t5, .sd (fup gc nm (.int (cnt + 1) w1)) (n3 + 1))) de (t7, .attrs (fup fe "unique" (.str (ukey nm cnt) w2)) n4))) : FnC G A stk L m led (.ref 453) [.ref p, .ref e] Q E := by
  have hg : ∀ t0, ∃ t, (gc nm).getD (.int 0 t0) = .int cnt t := by
    intro t0
    rcases hcnt with ⟨a, b⟩ | ⟨t, a⟩
    · subst b; exact ⟨t0, by rw [a]; rfl⟩
    · exact ⟨t, by rw [a]; rfl⟩
  refine' Fn_pos ["region", "entity"] ?zho ?zhcd ?zhroom ?zhbind ?zhloc ?zhco ?zhgen ?zhk ?zhcell ?_
  walk_at "enter"
  intro L1 E1 stk1
  refine' W_mg2 "region" "entity" (v0 := .ref p)  (v1 := .ref e) ?zm0 ?zm1 ?_
  case zm0 => exact rfl
  case zm1 => exact rfl
  intro m1 e0 e1
  repeat walk_at "st"
  refine W_call (c_frame_region (by show A.depth + 1 ≤ _; omega) h1 h2 h3 h4 h5 h6 h7 hk ?_)
  repeat walk_at "st"
  refine' W_methS h9 PySem.F.slot_dict_get PySem.F.type_dict_get ?_
  repeat walk_at "st"
  refine' W_getS h9 ?_
  obtain ⟨w, hw⟩ := hg _
  rw [hw]
  repeat walk_at "st"
  refine' W_setS h9 hn3 ?_
  repeat walk_at "st"
  by_cases hz : cnt = 0
  · have hb : (cnt == 0) = true := by simp [hz]
    have hu : ukey nm cnt = nm := by unfold ukey; rw [if_pos hz]
    repeat walk_at "st"
    refine W_nil ?_
    have h := fun w1 => H w1 u3
    simp only [hu] at h
    exact h _
  · have hb : (cnt == 0) = false := by simp [hz]
    have hu : ukey nm cnt = uniq nm cnt := by unfold ukey; rw [if_neg hz]
    repeat walk_at "st"
    refine W_call (c_unique (by show A.depth + 1 ≤ _; omega) (by omega) hc0 hc1 fun w2 => ?_)
    rw [← hu]
    repeat walk_at "st"
    refine W_nil ?_
    exact H _ _
theorem alias_at' {led : Led} {d0 dp : Addr} {t n1 n2 : Nat} {f0 fp : Fld} {nm : Str} {w : Value} (h2 : led dp = some (t, .attrs fp n1)) (h6 : led d0 = some (t, .attrs f0 n2)) :
    ∃ g n, up led d0 (t, .attrs (fup f0 nm w) n2) dp = some (t, .attrs g n) ∧ ∀ y, y ≠ nm → g y = fp y := by
  by_cases h : dp = d0
  · subst h
    rw [h2] at h6
    cases h6
    exact ⟨_, _, up_eq _ _ _, fun y hy => fup_ne hy⟩
  · exact ⟨_, _, (up_ne h).trans h2, fun _ _ => rfl⟩
theorem c_declare {Q : Value → Led → Prop} (hA : A.depth ≤ 710) (hU : A.units ≤ 7500) (hh : A.handled = none) {p dp r dr c r0 d0 e de bn bo : Addr} {t1 t3 t6 t8 n1 n2 n3 n4 n5 : Nat} {fp fr fe gc f0 : Fld} {k ek nm : Str} {u u' u2 u3 u4 : Tok} {cnt made : Int} {pt v0 v1 v2 v3 : Value}
    (h1 : led p = some (t1, .inst 428 dp)) (h2 : led dp = some (4280, .attrs fp n1)) (h3 : fp "kind" = some (.str "package" u)) (h4 : fp "parent" = some (.ref r)) (h4r : fp "root" = some (.ref r0)) (h4p : fp "part" = some pt) (hpt : handedIn pt = true) (h4n : fp "names" = some (.ref bn)) (h4o : fp "order" = some (.ref bo))
    (h5 : led r = some (t3, .inst 428 dr)) (h6 : led dr = some (4280, .attrs fr n2)) (h7 : fr "kind" = some (.str k u')) (hk : frameKinds.contains k = true) (h8 : fr "counts" = some (.ref c)) (h9 : led c = some (1003, .sd gc n3)) (hn3 : n3 + 1 ≤ 900)
    (r1 : led r0 = some (t8, .inst 428 d0)) (r2 : led d0 = some (4280, .attrs f0 n5)) (r3 : f0 "made" = some (.int made u4)) (hdp : dp ≠ d0)
    (b1 : led bn = some (1001, .sd (fun _ => none) 0)) (b2 : led bo = some (1002, .list []))
    (g1 : led e = some (t6, .inst 318 de)) (g2 : led de = some (3180, .attrs fe n4)) (g3 : fe "kind" = some (.str ek u2)) (g4 : fe "name" = some (.str nm u3)) (g5 : fe "unique" = some v0) (g6 : fe "number" = some v1) (g7 : fe "home" = some v2) (g8 : fe "part" = some v3)
    (hek : (ek == Str.ofString "exception") = false) (hdot : (Builtin.Str.occurrences nm "." 0 nm.length 1).isEmpty = true) (hnm : nm.length ≤ 100) (hc0 : 0 ≤ cnt) (hc1 : cnt < 1000) (hcnt : (gc nm = none ∧ cnt = 0) ∨ ∃ t, gc nm = some (.int cnt t))
    (H : ∀ (b : Addr) (w1 w2 w3 : Tok),
      Q .none (up (up (up (up (up led d0 (4280, .attrs (fup f0 "made" (.int (made + 1) w1)) n5)) c (1003, .sd (fup gc nm (.int (cnt + 1) w3)) (n3 + 1))) de (3180, .attrs (fup (fup (fup (fup fe "number" (.int (made + 1) w1)) "home" (.ref p)) "part" pt) "unique" (.str (ukey nm cnt) w2)) n4)) bn (1001, .sd (fup (fun _ => none) nm (.ref b)) (0 + 1))) bo (1002, .list [.ref e]))) :
    FnC G A stk L m led (.ref 465) [.ref p, .ref e] Q E := by
  refine' Fn_pos ["region", "entity"] ?zho ?zhcd ?zhroom ?zhbind ?zhloc ?zhco ?zhgen ?zhk ?zhcell ?_
  walk_at "enter"
  intro L1 E1 stk1
  refine' W_mg2 "region" "entity" (v0 := .ref p)  (v1 := .ref e) ?zm0 ?zm1 ?_
  case zm0 => exact rfl
  case zm1 => exact rfl
  intro m1 e0 e1
  repeat walk_at "st"
  refine' W_inStr ?_
  rw [hdot]
  repeat walk_at "st"
  refine W_call (c_settle_rivals (by show A.depth + 1 ≤ _; omega) (by show A.units + 3 ≤ _; omega) (by exact hh) h1 h2 h4n b1 g1 g2 g4 rfl ?_)
  repeat walk_at "st"
  rename_i w3
  obtain ⟨fr', n2', ha1, ha2⟩ := alias_at' (nm := "made") (w := .int (made + 1) w3) h6 r2
  repeat walk_at "st"
  have hdr : dr ≠ de := ne_tag h6 g2 (by decide)
  have hdr' : led dr = some (4280, .attrs fr n2) := h6
  have q7 : fr' "kind" = some (.str k u') := (ha2 _ (by decide)).trans h7
  have q8 : fr' "counts" = some (.ref c) := (ha2 _ (by decide)).trans h8
  refine W_call (c_give_unique (by show A.depth + 1 ≤ _; omega) (by walk_at "lk") (by walk_at "lk") h3 h4 (by walk_at "lk") ((up_ne hdr).trans ha1) q7 hk q8 (by walk_at "lk") hn3 (by walk_at "lk") (by walk_at "lk") (by walk_at "fl") (by walk_at "fl") (by walk_at "fl") hek hnm hc0 hc1 hcnt fun w1 w2 => ?_)
  clear ha1
  repeat walk_at "st"
  refine' W_methS (t := 1001) (f := fun _ => none) (n := 0) (by walk_at "lk") PySem.F.slot_dict_setdefault PySem.F.type_dict_setdefault ?_
  repeat walk_at "st"
  refine W_list 0 ?_
  repeat walk_at "st"
  refine ⟨by decide, ?_⟩
  intro b hb
  have hN := hb
  revert hN
  walk_at "split"
  repeat walk_at "st"
  refine' W_setdefS (t := 1001) (f := fun _ => none) (n := 0) (by walk_at "lk") rfl (by decide) ?_
  repeat walk_at "st"
  refine' W_append (t := 0) (vs := []) (by walk_at "lk") (by decide) ?_
  repeat walk_at "st"
  refine' W_append (t := 1002) (vs := []) (by walk_at "lk") (by decide) ?_
  repeat walk_at "st"
  refine W_cast (by rw [up_comm (up led d0 _) (show de ≠ c by walk_at "ne"), up_up, up_comm _ (show b ≠ bn by walk_at "ne"), up_up, up_comm _ (show b ≠ bo by walk_at "ne")]) ?_
  refine W_less (Le.fresh (by walk_at "fresh")) ?_
  refine W_nil ?_
  exact H _ _ _ _
end
noncomputable def TyRest (f : Fld) : Prop := ∃ lv lc lq lw lw2 u3, f "low" = some .none ∧ f "high" = some .none ∧ f "literals" = some (.ref lv) ∧ f "modulus" = some (.int 0 u3) ∧ f "small" = some (.ref lc) ∧ f "index" = some (.ref lq) ∧ f "component" = some .none ∧
        f "is_constrained" = some (.bool true) ∧ f "designated" = some .none ∧ f "is_limited" = some (.bool false) ∧ f "is_constant" = some (.bool false) ∧ f "variant" = some .none ∧ f "discriminants" = some (.ref lw) ∧ f "components" = some (.ref lw2)
section
variable {G : Gd} {A : Around} {stk : List (Addr × Hid)} {L : Addr} {m : Fld} {led : Led} {E : Value → Shared → Prop}
set_option maxRecDepth 100000
set_option maxHeartbeats 4000000
theorem c_open_region {Q : Value → Led → Prop} (hA : A.depth ≤ 770) {k par : Value}
    (H : ∀ A1 stk1 L1 m1 E1, A1.depth = A.depth + 1 → FnC G A1 stk1 L1 m1 led (.ref 428) [k, .none, par] Q E1) : FnC G A stk L m led (.ref 439) [k, .none, par] Q E := by
  refine' Fn_pos ["kind", "owner", "parent"] ?zho ?zhcd ?zhroom ?zhbind ?zhloc ?zhco ?zhgen ?zhk ?zhcell ?_
  walk_at "enter"
  intro L1 E1 stk1
  refine' W_mg3 "kind" "owner" "parent" (v0 := k)  (v1 := .none)  (v2 := par) ?zm0 ?zm1 ?zm2 ?_
  case zm0 => exact rfl
  case zm1 => exact rfl
  case zm2 => exact rfl
  intro m1 e0 e1 e2
  repeat walk_at "st"
  refine W_call ((H _ _ _ _ _ rfl).mono fun v led' q => ?_)
  repeat walk_at "st"
  exact q
theorem c_declare_ready {Q : Value → Led → Prop} (hA : A.depth ≤ 690) (hU : A.units ≤ 7400) (hh : A.handled = none) {p dp r dr c r0 d0 e de bn bo : Addr} {t1 t3 t6 t8 n1 n2 n3 n4 n5 : Nat} {fp fr fe gc f0 : Fld} {k ek nm : Str} {u u' u2 u3 u4 : Tok} {cnt made : Int} {pt v0 v1 v2 v3 v4 : Value}
    (h1 : led p = some (t1, .inst 428 dp)) (h2 : led dp = some (4280, .attrs fp n1)) (h3 : fp "kind" = some (.str "package" u)) (h4 : fp "parent" = some (.ref r)) (h4r : fp "root" = some (.ref r0)) (h4p : fp "part" = some pt) (hpt : handedIn pt = true) (h4n : fp "names" = some (.ref bn)) (h4o : fp "order" = some (.ref bo))
    (h5 : led r = some (t3, .inst 428 dr)) (h6 : led dr = some (4280, .attrs fr n2)) (h7 : fr "kind" = some (.str k u')) (hk : frameKinds.contains k = true) (h8 : fr "counts" = some (.ref c)) (h9 : led c = some (1003, .sd gc n3)) (hn3 : n3 + 1 ≤ 900)
    (r1 : led r0 = some (t8, .inst 428 d0)) (r2 : led d0 = some (4280, .attrs f0 n5)) (r3 : f0 "made" = some (.int made u4)) (hdp : dp ≠ d0)
    (b1 : led bn = some (1001, .sd (fun _ => none) 0)) (b2 : led bo = some (1002, .list []))
    (g1 : led e = some (t6, .inst 318 de)) (g2 : led de = some (3180, .attrs fe n4)) (g3 : fe "kind" = some (.str ek u2)) (g4 : fe "name" = some (.str nm u3)) (g5 : fe "unique" = some v0) (g6 : fe "number" = some v1) (g7 : fe "home" = some v2) (g8 : fe "part" = some v3) (g9 : fe "is_ready" = some v4)
    (hek : (ek == Str.ofString "exception") = false) (hdot : (Builtin.Str.occurrences nm "." 0 nm.length 1).isEmpty = true) (hnm : nm.length ≤ 100) (hc0 : 0 ≤ cnt) (hc1 : cnt < 1000) (hcnt : (gc nm = none ∧ cnt = 0) ∨ ∃ t, gc nm = some (.int cnt t))
    (H : ∀ (b : Addr) (w1 w3 : Tok) (fe' : Fld) (w4 w5 : Tok), fe' "unique" = some (.str (ukey nm cnt) w4) → fe' "number" = some (.int (made + 1) w5) → fe' "home" = some (.ref p) → (∀ y : Str, y ≠ "unique" → y ≠ "number" → y ≠ "home" → y ≠ "part" → y ≠ "is_ready" → fe' y = fe y) →
      Q .none (up (up (up (up (up led d0 (4280, .attrs (fup f0 "made" (.int (made + 1) w1)) n5)) c (1003, .sd (fup gc nm (.int (cnt + 1) w3)) (n3 + 1))) bn (1001, .sd (fup (fun _ => none) nm (.ref b)) (0 + 1))) bo (1002, .list [.ref e])) de (3180, .attrs fe' n4))) :
    FnC G A stk L m led (.ref 479) [.ref p, .ref e] Q E := by
  refine' Fn_pos ["region", "entity"] ?zho ?zhcd ?zhroom ?zhbind ?zhloc ?zhco ?zhgen ?zhk ?zhcell ?_
  walk_at "enter"
  intro L1 E1 stk1
  refine' W_mg2 "region" "entity" (v0 := .ref p)  (v1 := .ref e) ?zm0 ?zm1 ?_
  case zm0 => exact rfl
  case zm1 => exact rfl
  intro m1 e0 e1
  repeat walk_at "st"
  refine W_call (c_declare (by show A.depth + 1 ≤ _; omega) (by show A.units + 3 ≤ _; omega) (by exact hh) h1 h2 h3 h4 h4r h4p hpt h4n h4o h5 h6 h7 hk h8 h9 hn3 r1 r2 r3 hdp b1 b2 g1 g2 g3 g4 g5 g6 g7 g8 hek hdot hnm hc0 hc1 hcnt fun b w1 w2 w3 => ?_)
  repeat walk_at "st"
  refine W_call (c_make_ready (by show A.depth + 1 ≤ _; omega) (by walk_at "lk") (by walk_at "lk") (by walk_at "fl") ?_)
  repeat walk_at "st"
  refine W_cast (by rw [up_comm _ (show de ≠ bn by walk_at "ne"), up_comm _ (show de ≠ bo by walk_at "ne"), up_up]) ?_
  refine W_nil ?_
  refine H _ _ _ _ w2 w1 ?_ ?_ ?_ ?_
  · walk_at "fl"
  · walk_at "fl"
  · walk_at "fl"
  · intro y h1 h2 h3 h4 h5
    rw [fup_ne h5, fup_ne h1, fup_ne h4, fup_ne h3, fup_ne h2]
theorem c_law_tagged {Q : Value → Led → Prop} (hA : A.depth ≤ 770) (hU : A.units ≤ 7500) {p dp r0 d0 th : Addr} {t1 t3 t5 n1 n2 n3 : Nat} {fp f0 : Fld} {g : Int → Option Value} {i : Int} {u u1 : Tok} {pt : Value}
    (h1 : led p = some (t1, .inst 428 dp)) (h2 : led dp = some (4280, .attrs fp n1)) (h3 : fp "root" = some (.ref r0)) (h3' : fp "part" = some pt) (hpt : handedIn pt = true)
    (h4 : led r0 = some (t3, .inst 428 d0)) (h5 : led d0 = some (4280, .attrs f0 n2)) (h6 : f0 "type_homes" = some (.ref th)) (h7 : led th = some (t5, .idict g n3)) (h8 : g (300 + i) = none) (hn : n3 + 1 ≤ 900)
    (H : ∀ (x d b q : Addr) (f : Fld) (u1 u2 : Tok), led x = none → led d = none → x ≠ d → b ≠ d → b ≠ x → led b = none → led q = none → q ≠ x → q ≠ b → q ≠ d →
      f "kind" = some (.str "record" u1) → f "number" = some (.int (300 + i) u2) → f "parent" = some .none → f "operations" = some (.ref b) → f "is_tagged" = some (.bool true) →
      TyRest f →
      Q (.ref x) (up (up (up (up (up led x (510, .inst 510 d)) b (1006, .sd (fun _ => none) 0)) d (5100, .attrs f 24)) q (1010, .tup [.ref p, pt])) th (t5, .idict (iup g (300 + i) (.ref q)) (n3 + 1)))) :
    FnC G A stk L m led (.ref 598) [.ref p, .int i u] Q E := by
  refine' Fn_pos ["region", "at"] ?zho ?zhcd ?zhroom ?zhbind ?zhloc ?zhco ?zhgen ?zhk ?zhcell ?_
  walk_at "enter"
  intro L1 E1 stk1
  refine' W_mg2 "region" "at" (v0 := .ref p)  (v1 := .int i u) ?zm0 ?zm1 ?_
  case zm0 => exact rfl
  case zm1 => exact rfl
  intro m1 e0 e1
  repeat walk_at "st"
  refine W_list 0 ?_
  repeat walk_at "st"
  refine ⟨by decide, ?_⟩
  intro l1 hl1
  repeat walk_at "st"
  refine W_list 0 ?_
  repeat walk_at "st"
  refine ⟨by decide, ?_⟩
  intro l2 hl2
  obtain ⟨hl21, hl20⟩ := up_none hl2
  repeat walk_at "st"
  refine W_call (c_record_type (by show A.depth + 1 ≤ _; omega) (by show A.units + 3 ≤ _; omega) (t1 := 0) (t2 := 0) (by walk_at "lk") (by walk_at "lk") ?_)
  intro x d b lv lc lq lw lw2 u1 u2 u3 f hx hd hxd hbd hbx hb f1 f2 f3 f4 f5 f6 f7 f8 f9 fa fb fc fd fe ff fg fh fi fj fk
  refine W_less (Le.up (Le.up (Le.up (Le.trans (Le.fresh hl1) (Le.fresh hl2))))) ?_
  obtain ⟨_, hx⟩ := up_none hx
  obtain ⟨_, hx⟩ := up_none hx
  obtain ⟨_, hd⟩ := up_none hd
  obtain ⟨_, hd⟩ := up_none hd
  obtain ⟨_, hb⟩ := up_none hb
  obtain ⟨_, hb⟩ := up_none hb
  clear hl1 hl2 hl20 hl21
  repeat walk_at "st"
  refine W_call (c_numbered (by show A.depth + 1 ≤ _; omega) (by walk_at "lk") (by walk_at "lk") f2 ?_)
  repeat walk_at "st"
  refine W_call (c_note_type (by show A.depth + 1 ≤ _; omega) (by walk_at "lk") (by walk_at "lk") h3 h3' hpt (by walk_at "lk") (by walk_at "lk") h6 (by walk_at "lk") h8 hn fun q hq => ?_)
  repeat walk_at "st"
  simp only [up_up]
  revert hq
  walk_at "split"
  exact H x d b _ _ _ _ hx hd hxd hbd hbx hb ‹_› (by walk_at "ne") (by walk_at "ne") (by walk_at "ne") (by walk_at "fl") (by walk_at "fl") (by walk_at "fl") (by walk_at "fl") (by walk_at "fl")
    ⟨lv, lc, lq, lw, lw2, u3, by walk_at "fl", by walk_at "fl", by walk_at "fl", by walk_at "fl", by walk_at "fl", by walk_at "fl", by walk_at "fl", by walk_at "fl", by walk_at "fl", by walk_at "fl", by walk_at "fl", by walk_at "fl", by walk_at "fl", by walk_at "fl"⟩
end
noncomputable def Keep (M : List Addr) (led led' : Led) : Prop := ∀ a x, led a = some x → a ∉ M → led' a = some x
section
variable {G : Gd} {A : Around} {stk : List (Addr × Hid)} {L : Addr} {m : Fld} {led : Led} {E : Value → Shared → Prop}
set_option maxRecDepth 100000
set_option maxHeartbeats 4000000
theorem IfE_2 {Q : Value → Fld → Led → Prop} {body orelse : Expr} {env : Env} {b : Bool} (P : Value → Prop) (H1 : W G A stk L m led (eval body env) (fun v m' led' => P v ∧ m' = m ∧ led' = led) E) (H2 : W G A stk L m led (eval orelse env) (fun v m' led' => P v ∧ m' = m ∧ led' = led) E)
    (K : ∀ v, P v → Q v m led) : IfE G A stk L body orelse env Q E b m led := by
  have h : ∀ v m' led', P v ∧ m' = m ∧ led' = led → Q v m' led' := fun v m' led' q => by obtain ⟨q, rfl, rfl⟩ := q; exact K v q
  cases b
  · exact H2.mono h
  · exact H1.mono h
theorem c_new_type_entity {Q : Value → Led → Prop} (hA : A.depth ≤ 680) (hU : A.units ≤ 7300) (hh : A.handled = none) {s ds p dp r dr c r0 d0 th bn bo : Addr} {t0 t1 t3 t8 n1 n2 n3 n5 n6 n7 : Nat} {fs fp fr gc f0 : Fld} {g : Int → Option Value} {k ek nm : Str} {u u' u2 u3 u4 u5 : Tok} {bt : Bool} {cnt made num : Int} {pt ln : Value}
    (s1 : led s = some (t0, .inst 290 ds)) (s2 : led ds = some (2900, .attrs fs n6)) (s3 : fs "count" = some (.int num u5)) (s4 : fs "place" = some (.ref p)) (s5 : fs "line" = some ln) (hln : handedIn ln = true)
    (h1 : led p = some (t1, .inst 428 dp)) (h2 : led dp = some (4280, .attrs fp n1)) (h3 : fp "kind" = some (.str "package" u)) (h4 : fp "parent" = some (.ref r)) (h4r : fp "root" = some (.ref r0)) (h4p : fp "part" = some pt) (hpt : handedIn pt = true) (h4n : fp "names" = some (.ref bn)) (h4o : fp "order" = some (.ref bo))
    (h5 : led r = some (t3, .inst 428 dr)) (h6 : led dr = some (4280, .attrs fr n2)) (h7 : fr "kind" = some (.str k u')) (hk : frameKinds.contains k = true) (h8 : fr "counts" = some (.ref c)) (h9 : led c = some (1003, .sd gc n3)) (hn3 : n3 + 1 ≤ 900)
    (r1 : led r0 = some (t8, .inst 428 d0)) (r2 : led d0 = some (4280, .attrs f0 n5)) (r3 : f0 "made" = some (.int made u4)) (hdp : dp ≠ d0) (r4 : f0 "type_homes" = some (.ref th)) (r5 : led th = some (1004, .idict g n7)) (hn7 : n7 + 1 ≤ 900) (hg : g (num + 1) = none)
    (b1 : led bn = some (1001, .sd (fun _ => none) 0)) (b2 : led bo = some (1002, .list []))
    (hek : (ek == Str.ofString "exception") = false) (hdot : (Builtin.Str.occurrences nm "." 0 nm.length 1).isEmpty = true) (hnm : nm.length ≤ 100) (hc0 : 0 ≤ cnt) (hc1 : cnt < 1000) (hcnt : (gc nm = none ∧ cnt = 0) ∨ ∃ t, gc nm = some (.int cnt t)) (hm0 : 0 ≤ made) (hm1 : made < 900)
    (H : ∀ (v e de t dt q : Addr) (fe ft : Fld) (w1 w2 w3 w4 w5 w6 : Tok) (led' : Led), led' v = some (0, .tup [.ref e, .ref t]) → led' e = some (318, .inst 318 de) → led' de = some (3180, .attrs fe 17) → led' t = some (510, .inst 510 dt) → led' dt = some (5100, .attrs ft 24) →
      led' d0 = some (4280, .attrs (fup f0 "made" (.int (made + 1) w1)) n5) → led' c = some (1003, .sd (fup gc nm (.int (cnt + 1) w2)) (n3 + 1)) → led' ds = some (2900, .attrs (fup fs "count" (.int (num + 1) w3)) n6) → led' th = some (1004, .idict (iup g (num + 1) (.ref q)) (n7 + 1)) →
      fe "unique" = some (.str (ukey nm cnt) w4) → fe "number" = some (.int (made + 1) w5) → fe "home" = some (.ref p) → ft "name" = some (.str (uniq (uniq nm (made + 1)) 0) w6) → Keep [d0, c, bn, bo, th, ds] led led' → Q (.ref v) led') :
    FnC G A stk L m led (.ref 570) [.ref s, .str ek u2, .str nm u3, .bool bt, .none] Q E := by
  refine' Fn_pos ["scope", "kind", "name", "is_type", "discs"] ?zho ?zhcd ?zhroom ?zhbind ?zhloc ?zhco ?zhgen ?zhk ?zhcell ?_
  walk_at "enter"
  intro L1 E1 stk1
  refine' W_mg5 "scope" "kind" "name" "is_type" "discs" (v0 := .ref s)  (v1 := .str ek u2)  (v2 := .str nm u3)  (v3 := .bool bt)  (v4 := .none) ?zm0 ?zm1 ?zm2 ?zm3 ?zm4 ?_
  case zm0 => exact rfl
  case zm1 => exact rfl
  case zm2 => exact rfl
  case zm3 => exact rfl
  case zm4 => exact rfl
  intro m1 e0 e1 e2 e3 e4
  repeat walk_at "st"
  refine W_call (new_Type 510 5100 (by show A.depth + 1 ≤ _; omega) ?_)
  intro t dt bt1 _ _ _ _ _ _ _ ft ht hdt htd hbod hbo
  obtain ⟨hbot, hbo⟩ := up_none hbo
  intros
  refine W_less (Le.up (Le.fresh (show up led t (510, .inst 510 dt) bt1 = none by rw [up_ne hbot]; exact hbo))) ?_
  clear hbod hbo hbot
  repeat walk_at "st"
  refine W_call (c_new_number (by show A.depth + 1 ≤ _; omega) (by walk_at "lk") (by walk_at "lk") s3 fun w3 => ?_)
  repeat walk_at "st"
  refine IfE_2 (fun v => ∃ kk w, v = .str kk w ∧ (kk == Str.ofString "exception") = false) ?_ ?_ ?_
  · repeat walk_at "st"
    exact ⟨⟨_, _, rfl, by decide +kernel⟩, rfl, rfl⟩
  · repeat walk_at "st"
    exact ⟨⟨_, _, rfl, hek⟩, rfl, rfl⟩
  rintro _ ⟨kk, wk, rfl, hkk⟩
  repeat walk_at "st"
  refine W_call (c_whole_subtype (by show A.depth + 1 ≤ _; omega) fun x1 d1 _ hx1 hd1 hxd1 _ => ?_)
  refine W_less (Le.trans (Le.fresh hx1) (Le.fresh (show up _ x1 _ d1 = none by rw [up_ne hxd1.symm]; exact hd1))) ?_
  clear hx1 hd1 hxd1
  repeat walk_at "st"
  refine W_call (new_Entity 318 3180 (by show A.depth + 1 ≤ _; omega) ?_)
  intro e de j1 j2 j3 fe he hde hed k1 k2 k3 k4 k5 k6 k7 k8 k9 ka kb
  simp only [up_none_iff] at he hde
  obtain ⟨_, _, _, _, he⟩ := he
  obtain ⟨_, _, _, _, hde⟩ := hde
  repeat walk_at "st"
  refine W_call (c_declare_ready (by show A.depth + 1 ≤ _; omega) (by show A.units + 3 ≤ _; omega) (by exact hh) (by walk_at "lk") (by walk_at "lk") h3 h4 h4r h4p hpt h4n h4o (by walk_at "lk") (by walk_at "lk") h7 hk h8 (by walk_at "lk") hn3 (by walk_at "lk") (by walk_at "lk") r3 hdp (by walk_at "lk") (by walk_at "lk") (by walk_at "lk") (by walk_at "lk") k1 k2 k6 k5 k7 k8 kb hkk hdot hnm hc0 hc1 hcnt ?_)
  intro b w1 w2 fe' w4 w5 z1 z2 z3 _
  repeat walk_at "st"
  refine W_call (c_whole_name (by show A.depth + 1 ≤ _; omega) hnm (by omega) (by omega) fun w6 => ?_)
  repeat walk_at "st"
  refine W_call (c_note_type (by show A.depth + 1 ≤ _; omega) (by walk_at "lk") (by walk_at "lk") h4r h4p hpt (by walk_at "lk") (by walk_at "lk") (by walk_at "fl") (by walk_at "lk") hg hn7 fun q hq => ?_)
  repeat walk_at "st"
  refine W_tup 0 ?_
  repeat walk_at "st"
  refine ⟨(by show 2 ≤ 1000; decide), ?_⟩
  intro v hv
  revert hv hq
  walk_at "split"
  repeat walk_at "st"
  exact H _ e de t dt q fe' _ w1 _ _ _ _ _ _ (by walk_at "lk") (by walk_at "lk") (by walk_at "lk") (by walk_at "lk") (by walk_at "lk") (by walk_at "lk") (by walk_at "lk") (by walk_at "lk") (by walk_at "lk") z1 z2 z3 (by walk_at "fl") (by walk_at "keep")
end
section
variable {G : Gd} {A : Around} {stk : List (Addr × Hid)} {L : Addr} {m : Fld} {led : Led} {E : Value → Shared → Prop}
set_option maxRecDepth 100000
set_option maxHeartbeats 4000000
theorem W_tailT2 {Q : Value → Fld → Led → Prop} {value slice : Expr} {o : Addr} {vs : List Value} {t : Nat} {i : Int} {v : Value} {u : Tok} (hx : led o = some (t, .tup vs)) (h0 : 0 ≤ i) (h1 : i < 1000) (hv : vs[i.toNat]? = some v) (q : Q v m led)
    (hs : subscripted slice false (.ref o) (.int i u) = operate [.ref o, .int i u] (getItem (.ref o) (.int i u)) := by with_unfolding_all rfl) : W G A stk L m led (subscriptTail value slice (.ref o) (.int i u)) Q E := by
  obtain ⟨k, rfl⟩ := Int.eq_ofNat_of_zero_le h0
  exact W_tailT hx (by omega) (by simpa using hv) q hs
end
local macro_rules | `(tactic| walk_at "st") => `(tactic| first
  | ((with_reducible refine' W_tailT2 ?zhx ?zh0 ?zh1 ?zhv ?_ ?zhs); (case zhx => walk_at "lk"); (case zh0 => decide); (case zh1 => decide); (case zhv => rfl); (case zhs => with_unfolding_all rfl))
  | ((with_reducible refine' W_tailL ?zhx ?zh0 ?zh1 ?zhv ?_ ?zhs); (case zhx => walk_at "lk"); (case zh0 => decide); (case zh1 => decide); (case zhv => rfl); (case zhs => with_unfolding_all rfl))
  | ((with_reducible refine' W_neg ?_); intro _)
  | ((with_reducible refine' W_modI ?zhj ?_); (case zhj => decide); intro _)
  | ((with_reducible refine' W_divI ?zhj ?zhp ?_); (case zhj => decide); (case zhp => exact PyProof.noPylong_of_log2 (by decide +kernel)); intro _)
  | ((with_reducible refine' W_addS ?zhz ?_); (case zhz => first | decide | omega); intro _))
section
variable {G : Gd} {A : Around} {stk : List (Addr × Hid)} {L : Addr} {m : Fld} {led : Led} {E : Value → Shared → Prop}
set_option maxRecDepth 100000
set_option maxHeartbeats 4000000
theorem Fn_less {Q : Value → Led → Prop} {f : Value} {args : List Value} (H : FnC G A stk L m led f args (fun v led' => ∃ led'', Le led'' led' ∧ Q v led'') E) : FnC G A stk L m led f args Q E := fun h tk I =>
  codeAny_mono (H h tk I) fun r s' z => by
    rcases r with e | (v | _ | _ | _)
    · exact z
    all_goals first | exact z.elim | (obtain ⟨h', tk', led', e, I', led'', le, q⟩ := z; exact ⟨h', tk', led'', e, I'.less le, q⟩)
theorem W_methJoin {Q : Value × List Value → Fld → Led → Prop} {y : Str} {t : Tok} {pl : Sem Bool} (q : Q (.builtin "str.join", [.str y t]) m led) : W G A stk L m led (getMethod (.str y t) "join" pl) Q E := fun h tk I => GM.join ⟨_, _, _, _, rfl, I, q⟩
theorem W_join {Q : Value → Fld → Led → Prop} {y : Str} {t : Tok} {o : Addr} {t' : Nat} {l : List (Str × Tok)} {texts : List Str} (hx : led o = some (t', .list (strValues l))) (ht : l.map (·.1) = texts) (hok : JoinOk y texts = true) (q : ∀ w, Q (.str (Txt.join y texts) w) m led) :
    W G A stk L m led (call (.builtin "str.join") [.str y t, .ref o]) Q E := fun h tk I => SC.join (s := G.sh h tk) (PlainL.isList (I.led o t' _ hx).1) ht hok fun w k => ⟨h, k, m, led, rfl, I, q w⟩
noncomputable def Nm (y : Str) : Prop := y = "a" ∨ y = "b"
theorem c_operation_key {Q : Value → Led → Prop} (hA : A.depth ≤ 700) (hh : A.handled = none) {x dx pl ro sb ds t dt : Addr} {t1 t2 t3 t4 t5 t6 t7 t8 n1 n2 n3 : Nat} {fx fs ft : Fld} {nm : Str} {u u1 u2 u3 : Tok} {num : Int} {v0 : Value} (hnm : Nm nm)
    (h1 : led x = some (t1, .inst 269 dx)) (h2 : led dx = some (t2, .attrs fx n1)) (h3 : fx "name" = some (.str nm u)) (h4 : fx "params" = some (.ref pl)) (h5 : fx "result" = some .none)
    (h6 : led pl = some (t3, .list [.ref ro])) (h7 : led ro = some (t4, .tup [v0, .str "in" u1, .ref sb, .none])) (h8 : led sb = some (t5, .inst 531 ds)) (h9 : led ds = some (t6, .attrs fs n2)) (ha : fs "type" = some (.ref t))
    (hb : led t = some (t7, .inst 510 dt)) (hc : led dt = some (t8, .attrs ft n3)) (hd : ft "number" = some (.int num u2))
    (H : ∀ w, Q (.str (Txt.join " " [nm, "inself"]) w) led) : FnC G A stk L m led (.ref 400) [.ref x, .ref t] Q E := by
  refine Fn_less ?_
  refine' Fn_pos ["sub", "t"] ?zho ?zhcd ?zhroom ?zhbind ?zhloc ?zhco ?zhgen ?zhk ?zhcell ?_
  walk_at "enter"
  intro L1 E1 stk1
  refine' W_mg2 "sub" "t" (v0 := .ref x)  (v1 := .ref t) ?zm0 ?zm1 ?_
  case zm0 => exact rfl
  case zm1 => exact rfl
  intro m1 e0 e1
  repeat walk_at "st"
  refine W_list 0 ?_
  repeat walk_at "st"
  refine ⟨(by show 1 ≤ 1000; decide), ?_⟩
  intro b hb
  repeat walk_at "st"
  refine' For_list (by exact hh) ?_ ?zhs
  case zhs => intro _; rfl
  repeat walk_at "st"
  refine ⟨pl, t3, _, fun i m' led' => m' "parts" = some (.ref b) ∧ m' "sub" = some (.ref x) ∧ m' "t" = some (.ref t) ∧ ((i = 0 ∧ led' = up led b (0, .list [.str nm u])) ∨ (i = 1 ∧ ∃ w, led' = up led b (0, .list (strValues [(nm, u), ("inself", w)])))), rfl, by walk_at "lk", ⟨by walk_at "fl", by walk_at "fl", by walk_at "fl", .inl ⟨rfl, rfl⟩⟩, ?_, ?_, ?_, ?_⟩
  · rintro i m' led' ⟨_, _, _, ⟨rfl, rfl⟩ | ⟨rfl, w, rfl⟩⟩
    · walk_at "lk"
    · walk_at "lk"
  · intro v hv
    exact letGoes_name
  · rintro stk2 E2 i v m' led' hi ⟨q1, q2, q3, ⟨rfl, rfl⟩ | ⟨rfl, w, rfl⟩⟩
    · cases hi
      repeat walk_at "st"
      refine ifE_t (by simp) ?_
      repeat walk_at "st"
      refine' W_append (t := 0) (vs := [.str nm u]) (by walk_at "lk") (by show 1 ≤ 1000; decide) ?_
      repeat walk_at "st"
      refine W_nil ?_
      simp only [up_up, show (Str.ofString "in" ++ Str.ofString "self") = Str.ofString "inself" by decide +kernel]
      exact ⟨by walk_at "fl", by walk_at "fl", by walk_at "fl", .inr ⟨trivial, _, rfl⟩⟩
    · cases hi
  · rintro m' led' ⟨q1, q2, q3, ⟨z, rfl⟩ | ⟨_, w, rfl⟩⟩
    · cases z
    repeat walk_at "st"
    refine W_methJoin ?_
    repeat walk_at "st"
    refine' W_join (up_eq _ _ _) rfl ?_ ?_
    · rcases hnm with rfl | rfl
      · show JoinOk " " ["a", "inself"] = true; decide +kernel
      · show JoinOk " " ["b", "inself"] = true; decide +kernel
    intro w
    exact ⟨led, Le.fresh hb, H w⟩
end
section
variable {G : Gd} {A : Around} {stk : List (Addr × Hid)} {L : Addr} {m : Fld} {led : Led} {E : Value → Shared → Prop}
set_option maxRecDepth 100000
set_option maxHeartbeats 4000000
theorem W_addL {Q : Value → Fld → Led → Prop} {l b : Addr} {vs ws : List Value} {t1 t2 : Nat} (t : Nat) (hl : led l = some (t1, .list vs)) (hb : led b = some (t2, .list ws)) (hz : vs.length + ws.length ≤ 1000) (q : NewAt led (t, .list (vs ++ ws)) fun a led' => Q (.ref a) m led') :
    W G A stk L m led (binaryOp .Add (.ref l) (.ref b)) Q E := fun h tk I => by
  obtain ⟨⟨cls, dd, data, sl⟩, n, ho, hc, hn, hd⟩ := (I.led l t1 _ hl).1
  obtain ⟨⟨cls2, dd2, data2, sl2⟩, n2, ho2, hc2, hn2, hd2⟩ := (I.led b t2 _ hb).1
  simp only at hc hd hc2 hd2
  subst hc hd hc2 hd2
  have e : vs.toArray ++ ws.toArray = (vs ++ ws).toArray := by simp
  obtain ⟨hnn, I'⟩ := I.new (h' := h.push { cls := .type "list", data := .seq (vs ++ ws).toArray }) (t := t) (o := .list (vs ++ ws)) (Nat.le_refl _) (fun b x e => Heap.get?_push_of_some _ e) ⟨_, _, Heap.get?_push_size _ rfl, rfl, rfl, rfl⟩
  refine concat_meets (s := G.sh h tk) ⟨_, ho, rfl⟩ ⟨_, ho2, rfl⟩ noFill_list_add seq_list_add PySem.F.slot_list_add PySem.F.entry_list_add (PySem.F.args_list_add_2 _ _) (list_addW l b vs.toArray ws.toArray n n2 dd dd2 sl sl2 (by simpa using small_line hz (by decide))) ⟨ho, ho2, ?_⟩
  rw [e]
  exact ⟨_, tk, _, _, rfl, I', q _ hnn⟩
theorem W_drop {α : Type} {t : Sem α} {Q : α → Fld → Led → Prop} (H : W G A stk L m led t (fun v m' led' => ∃ led'', Le led'' led' ∧ Q v m' led'') E) : W G A stk L m led t Q E := fun h tk I =>
  H.use I fun v h' tk' m' led' I' ⟨led'', le, q⟩ => ⟨h', tk', m', led'', rfl, I'.less le, q⟩
theorem WQ_tailT2 {Q : Value → Prop} {value slice : Expr} {o : Addr} {vs : List Value} {t : Nat} {i : Int} {v : Value} {u : Tok} (hx : led o = some (t, .tup vs)) (h0 : 0 ≤ i) (h1 : i < 1000) (hv : vs[i.toNat]? = some v) (q : Q v)
    (hs : subscripted slice false (.ref o) (.int i u) = operate [.ref o, .int i u] (getItem (.ref o) (.int i u)) := by with_unfolding_all rfl) : WQ G A stk L m led (subscriptTail value slice (.ref o) (.int i u)) Q E := by
  obtain ⟨k, rfl⟩ := Int.eq_ofNat_of_zero_le h0
  exact WQ_tailT hx (by omega) (by simpa using hv) q hs
end
local macro_rules | `(tactic| walk_at "stq") => `(tactic| first
  | ((with_reducible refine' WQ_nameL ?zhv ?_ ?zj1 ?zj2 ?zj3 ?zj4); (case zhv => walk_at "fl"); (case zj1 => rfl); (case zj2 => rfl); (case zj3 => rfl); (case zj4 => rfl))
  | ((with_reducible refine' WQ_nameK ?zhv ?_ ?zj1 ?zj2 ?zj3 ?zj4); (case zj1 => rfl); (case zj2 => rfl); (case zj3 => rfl); (case zhv => k_is); (case zj4 => rfl))
  | ((with_reducible refine' WQ_nameC ?zhc ?zhl ?_ ?zj1 ?zj2 ?zj3); (case zj1 => rfl); (case zj2 => rfl); (case zhc => rfl); (case zhl => walk_at "lk"); (case zj3 => rfl))
  | ((with_reducible refine' WQ_int ?_); intro _)
  | ((with_reducible refine' WQ_attr ?_ ?zhe); (case zhe => rfl))
  | ((with_reducible refine' WQ_get ?zhx ?zhd ?zhv ?zhk ?zhh ?_); (case zhx => walk_at "lk"); (case zhd => walk_at "lk"); (case zhv => walk_at "fl"); (case zhk => kernel_rfl); (case zhh => first | rfl | assumption))
  | with_reducible refine' WQ_sub ?_
  | ((with_reducible refine' WQ_tailT2 ?zhx ?zh0 ?zh1 ?zhv ?_ ?zhs); (case zhx => walk_at "lk"); (case zh0 => decide); (case zh1 => decide); (case zhv => rfl); (case zhs => with_unfolding_all rfl))
  | with_reducible refine' WQ_binop ?_
  | with_reducible refine' WQ_eqI ?_
  | with_reducible refine' WQ_truthyB ?_
  | with_reducible refine' WQ_test0 ?_
  | with_reducible refine' WQ_test1 ?_
  | ((with_reducible refine' WQ_tcmp ?_ ?zhs); (case zhs => rfl))
  | ((with_reducible refine' WQ_tplain ?_ ?zhe); (case zhe => rfl)))
section
variable {G : Gd} {A : Around} {stk : List (Addr × Hid)} {L : Addr} {m : Fld} {led : Led} {E : Value → Shared → Prop}
set_option maxRecDepth 100000
set_option maxHeartbeats 4000000
theorem c_tagged_types {Q : Value → Led → Prop} (hA : A.depth ≤ 700) (hU : A.units ≤ 7500) (hh : A.handled = none) {s dsc p dp r0 d0 th tu x dx pl ro sb ds t dt : Addr} {t0 t1 t2 t3 t4 t5 t6 t7 t8 t9 ta tb tc td te n1 n2 n3 n4 n5 n6 n7 : Nat} {fsc fp f0 fx fs ft : Fld} {g : Int → Option Value} {u u1 u2 u3 : Tok} {num pn : Int} {v0 v1 v2 : Value}
    (s1 : led s = some (t0, .inst 290 dsc)) (s2 : led dsc = some (td, .attrs fsc n4)) (s3 : fsc "place" = some (.ref p))
    (p1 : led p = some (t9, .inst 428 dp)) (p2 : led dp = some (ta, .attrs fp n5)) (p3 : fp "root" = some (.ref r0)) (p4 : fp "number" = some (.int pn u3))
    (r1 : led r0 = some (tb, .inst 428 d0)) (r2 : led d0 = some (tc, .attrs f0 n6)) (r3 : f0 "type_homes" = some (.ref th)) (r4 : led th = some (te, .idict g n7)) (r5 : g num = some (.ref tu)) (r6 : led tu = some (t8, .tup [.ref p, v2]))
    (h1 : led x = some (t1, .inst 269 dx)) (h2 : led dx = some (t2, .attrs fx n1)) (h4 : fx "params" = some (.ref pl)) (h5 : fx "result" = some .none)
    (h6 : led pl = some (t3, .list [.ref ro])) (h7 : led ro = some (t4, .tup [v0, v1, .ref sb, .none])) (h8 : led sb = some (t5, .inst 531 ds)) (h9 : led ds = some (t6, .attrs fs n2)) (ha : fs "type" = some (.ref t))
    (hb : led t = some (t7, .inst 510 dt)) (hc : led dt = some (5100, .attrs ft n3)) (hd : ft "number" = some (.int num u2)) (he : ft "is_tagged" = some (.bool true)) (hf : ft "kind" = some (.str "record" u1))
    (H : ∀ b, led b = none → Q (.ref b) (up led b (0, .list [.ref t]))) : FnC G A stk L m led (.ref 405) [.ref s, .ref x] Q E := by
  refine Fn_less ?_
  refine' Fn_pos ["scope", "sub"] ?zho ?zhcd ?zhroom ?zhbind ?zhloc ?zhco ?zhgen ?zhk ?zhcell ?_
  walk_at "enter"
  intro L1 E1 stk1
  refine' W_mg2 "scope" "sub" (v0 := .ref s)  (v1 := .ref x) ?zm0 ?zm1 ?_
  case zm0 => exact rfl
  case zm1 => exact rfl
  intro m1 e0 e1
  repeat walk_at "st"
  refine W_list 0 ?_
  repeat walk_at "st"
  refine ⟨by decide, ?_⟩
  intro b hb0
  repeat walk_at "st"
  refine' For_list (by exact hh) ?_ ?zhs
  case zhs => intro _; rfl
  repeat walk_at "st"
  refine' W_compL 0 (fun _ => true) (fun _ y => y = .ref sb) (by exact hh) ?zhclos ?zhcell ?zhkind ?zhnames ?zhx ?_ ?zhs
  case zhs => intro _; rfl
  walk_at "compE"
  repeat walk_at "st"
  refine ⟨pl, t3, _, rfl, by walk_at "lk", by simp, ?_, ?_⟩
  · intro v hv
    rw [List.mem_singleton] at hv
    subst hv
    intro stk C m2 E2 hm
    refine ⟨?_, fun _ => ?_⟩
    · repeat walk_at "stq"
      rfl
    · repeat walk_at "stq"
      rfl
  intro ys hys l1 hl1
  cases hys with | cons q1 q2
  cases q2
  subst q1
  obtain ⟨hl1b, hl10⟩ := up_none hl1
  repeat walk_at "st"
  refine W_list 0 ?_
  repeat walk_at "st"
  refine ⟨by decide, ?_⟩
  intro l2 hl2
  obtain ⟨hl21, hl20⟩ := up_none hl2
  refine W_drop ?_
  refine' W_addL 0 (by walk_at "lk") (by walk_at "lk") (by show 2 ≤ 1000; decide) ?_
  intro l3 hl3
  refine ⟨_, Le.up (Le.trans (Le.fresh hl1) (Le.fresh hl2)), ?_⟩
  obtain ⟨hl32, hl3⟩ := up_none hl3
  obtain ⟨hl31, hl3⟩ := up_none hl3
  obtain ⟨hl3b, hl3⟩ := up_none hl3
  clear hl1 hl2 hl32 hl31 hl10 hl1b hl21 hl20
  have hbl3 := hl3b.symm
  refine ⟨l3, 0, [.ref sb, .none], fun i m' led' => m' "found" = some (.ref b) ∧ m' "sub" = some (.ref x) ∧ m' "scope" = some (.ref s) ∧ ((i = 0 ∧ led' = up (up led b (0, .list [])) l3 (0, .list [.ref sb, .none])) ∨ (0 < i ∧ led' = up (up led b (0, .list [.ref t])) l3 (0, .list [.ref sb, .none]))), rfl, up_eq _ _ _, ⟨by walk_at "fl", by walk_at "fl", by walk_at "fl", .inl ⟨rfl, rfl⟩⟩, ?_, ?_, ?_, ?_⟩
  · rintro i m' led' ⟨_, _, _, ⟨_, rfl⟩ | ⟨_, rfl⟩⟩
    · walk_at "lk"
    · walk_at "lk"
  · intro v hv
    exact letGoes_name
  · rintro stk2 E2 i v m' led' hi ⟨q1, q2, q3, ⟨rfl, rfl⟩ | ⟨hi0, rfl⟩⟩
    · cases hi
      repeat walk_at "st"
      refine' W_methD (by walk_at "lk") PySem.F.slot_dict_get PySem.F.type_dict_get ?_
      repeat walk_at "st"
      refine' W_getI (by walk_at "lk") ?_
      rw [r5, Option.getD_some]
      repeat walk_at "st"
      refine' W_compLA 0 (fun _ => true) (fun _ _ => True) hh rfl ?zhsw ?zhclos ?zhcell ?zhkind ?zhnames ?zhx ?zhy ?zhp ?_
      walk_at "comp"
      repeat walk_at "st"
      refine ⟨b, 0, [], rfl, by walk_at "lk", by decide, fun _ hv => (nomatch hv), fun ys hys => ?_⟩
      cases hys
      intro b2 hb2
      revert hb2
      refine upn2 fun b2l3 b2b hb2 => ?_
      repeat walk_at "st"
      refine andQ_t (by simp) ?_
      repeat walk_at "st"
      refine' W_notinNil (t := 0) (by walk_at "lk") ?_
      refine W_less (Le.fresh (by walk_at "fresh")) ?_
      repeat walk_at "st"
      refine' W_append (t := 0) (vs := []) (by walk_at "lk") (by decide) ?_
      repeat walk_at "st"
      refine W_cast (by rw [up_comm _ (show l3 ≠ b by walk_at "ne"), up_up]) ?_
      refine W_nil ?_
      exact ⟨by walk_at "fl", by walk_at "fl", by walk_at "fl", .inr ⟨by decide, rfl⟩⟩
    · have : i = 1 ∧ v = .none := by
        match i, hi0, hi with
        | 1, _, hi => cases hi; exact ⟨rfl, rfl⟩
      obtain ⟨rfl, rfl⟩ := this
      repeat walk_at "st"
      exact ⟨by walk_at "fl", by walk_at "fl", by walk_at "fl", .inr ⟨by decide, rfl⟩⟩
  · rintro m' led' ⟨q1, q2, q3, ⟨z, rfl⟩ | ⟨_, rfl⟩⟩
    · cases z
    repeat walk_at "st"
    refine ⟨_, ?_, H b hb0⟩
    exact Le.fresh (by walk_at "fresh")
end
section
variable {G : Gd} {A : Around} {stk : List (Addr × Hid)} {L : Addr} {m : Fld} {led : Led} {E : Value → Shared → Prop}
set_option maxRecDepth 100000
set_option maxHeartbeats 4000000
variable {cn : Str} {cs : Scope} {a : Addr} {ccd : Value} {cl : List (Str × Addr)} {x : Str} {pos : Pos} {v : Value} {env : Env}
theorem W_storeC {Q : Unit → Fld → Led → Prop} {y : Str} {c : Addr} {t : Nat} {o : Option Value} (hl : env.kindOf y = some .cell) (hc : env.cells.lookup y = some c) (hv : led c = some (t, .cell o)) (q : Q () m (up led c (t, .cell (some v)))) (hk : env.scope.kind = .function) :
    W G A stk L m led (storeName env y v) Q E := fun h tk I => by
  refine wpAny_storeName_cell (s := G.sh h tk) hk hl hc (I.led c t _ hv).1 fun h' hi hs => ?_
  exact ⟨h', tk, m, _, rfl, I.put1 hv hs (show Rep G h' c (.cell (some v)) from hi), q⟩
theorem W_compR {Q : Value → Fld → Led → Prop} {elt iter : Expr} {px : Pos} {ifs : List Expr} {scope : Scope} (t' : Nat) (p : Value → Bool) (F : Value → Value → Prop) (hh : A.handled = none)
    (hclos : closureFor scope env = pure cl) (hcell : ∀ y ∈ scope.names, y.2 ≠ .cell) (hkind : scope.kind = .function) (hnames : ∀ y ∈ scope.names, y.2 = .local → scope.names.lookup y.1 = some .local) (hx : scope.names.lookup x = some .local)
    (H : W G A stk L m led (eval iter env) (fun xv m1 led1 => ∃ (r : Addr) (t n : Nat), xv = .ref r ∧ led1 r = some (t, .rng 0 (n : Nat)) ∧ n ≤ 1000 ∧ (∀ (i : Nat) u, i < n → CompOk G A env scope cl x ifs elt led1 p F (.int i u)) ∧
      (∀ (its ys : List Value), its.length = n → (∀ (i : Nat) v, its[i]? = some v → ∃ u, v = .int i u) → Paired F (its.filter p) ys → NewAt led1 (t', .list ys) fun a led' => Q (.ref a) m1 led')) E)
    (hs : ∀ x, foldedSetIterable iter env x = pure x := by intro _; rfl) : W G A stk L m led (eval (.ListComp elt [⟨.Name x px, iter, ifs, 0⟩] scope pos) env) Q E := fun h tk I => by
  refine wpAny_ListComp_free p F hclos hcell hkind hnames hx (H.use I fun xv h1 tk1 m1 led1 I1 q => ?_) hs
  obtain ⟨r, t, n, rfl, hl, hz, hok, hQ⟩ := q
  obtain ⟨u1, u2, u3, hr⟩ := (I1.led r t _ hl).1
  have hzz : Builtin.Range.rangeSize 0 (n : Nat) 1 = (n : Int) := by
    rw [rangeSize_one]
    by_cases hlt : (0 : Int) < (n : Nat)
    · rw [if_pos hlt]; omega
    · rw [if_neg hlt]; omega
  have hsm : Builtin.Range.small 0 (n : Nat) 1 = true := by
    unfold Builtin.Range.small
    rw [hzz]
    simp
    have fl : ∀ z : Int, -5000 ≤ z → z ≤ 5000 → Builtin.Range.rangeFitsLong z = true := fun z h1 h2 => by simp [Builtin.Range.rangeFitsLong]; omega
    exact ⟨⟨⟨⟨fl _ (by omega) (by omega), fl _ (by omega) (by omega)⟩, fl _ (by omega) (by omega)⟩, fl _ (by omega) (by omega)⟩, .inr (fl _ (by omega) (by omega))⟩
  refine wpAny_pyIter_range hr hsm ?_
  rw [hzz]
  have up : ∀ b o, h1.get? b = some o → (h1.push { cls := .type "range_iterator", data := .fields #[rawInt 0, rawInt n, rawInt 1] }).get? b = some o := fun b o e => Heap.get?_push_of_some _ e
  refine ⟨h1.objs.size, _, _, n, _, _, rfl, (Walks.range hh h1.objs.size 0 1 n).bound, small_line hz (by decide), ?_, ?_, ?_, ?_⟩
  · show (h1.push _).get? h1.objs.size = _
    rw [Heap.get?_push_size _ rfl]
    simp
  · intro b hb
    show b < (h1.push _).objs.size
    rw [Heap.size_push, List.mem_singleton.mp hb]
    exact Nat.lt_succ_self _
  · exact comp_quiet I1 (fun b o e => ⟨Nat.ne_of_lt (Heap.lt_size e), up b o e⟩) (by show h1.objs.size ≤ (h1.push _).objs.size; rw [Heap.size_push]; exact Nat.le_succ _) fun i v hv => by
      obtain ⟨hi, u, rfl⟩ := hv
      have := hok i u hi
      rwa [show (0 : Int) + (i : Int) * 1 = (i : Int) by omega]
  · intro D h' tk' ys vs hD hl' hpl hlen hP hF hk
    have hD1 : h1.get? D = none := by
      cases q : h1.get? D with
      | none => rfl
      | some o => exact absurd ((up D o q).symm.trans hD) (by simp)
    obtain ⟨hn, I'⟩ := I1.newPlain (t := t') hD1 (fun b o e => hk b o (by simp; exact Nat.ne_of_lt (Heap.lt_size e)) (up b o e)) hpl
    refine ⟨h', tk', m1, _, rfl, I', hQ vs _ hlen (fun i v hv => ?_) hF D hn⟩
    obtain ⟨_, u, e⟩ := hP i v hv
    exact ⟨u, by rw [e, show (0 : Int) + (i : Int) * 1 = (i : Int) by omega]⟩
end
theorem Keep.at {S : List Addr} {a : Addr} {e : Nat × AO} {l1 l2 : Led} (h : Keep (a :: S) l1 l2) (q : l2 a = some e) : Keep S (up l1 a e) l2 := fun b x hx hb => by
  by_cases z : b = a
  · subst z; rw [up_eq] at hx; rw [q, hx]
  · rw [up_ne z] at hx; exact h b x hx (by simp [z, hb])
theorem Keep.le {l1 l2 : Led} (h : Keep [] l1 l2) : Le l1 l2 := fun a x q => h a x q (by simp)
section
variable {G : Gd} {A : Around} {stk : List (Addr × Hid)} {L : Addr} {m : Fld} {led : Led} {E : Value → Shared → Prop}
set_option maxRecDepth 100000
set_option maxHeartbeats 4000000
theorem WQ_tailL0 {Q : Value → Prop} {value slice : Expr} {o : Addr} {vs : List Value} {t : Nat} {v : Value} {u : Tok} (hx : led o = some (t, .list vs)) (hv : vs[0]? = some v) (q : Q v)
    (hs : subscripted slice false (.ref o) (.int ((0 : Nat) : Int) u) = operate [.ref o, .int ((0 : Nat) : Int) u] (getItem (.ref o) (.int ((0 : Nat) : Int) u)) := by with_unfolding_all rfl) : WQ G A stk L m led (subscriptTail value slice (.ref o) (.int ((0 : Nat) : Int) u)) Q E := WQ_tailL hx (by decide) hv q hs
end
local macro_rules | `(tactic| walk_at "stq") => `(tactic| ((with_reducible refine' WQ_tailL0 ?zhx ?zhv ?_ ?zhs); (case zhx => walk_at "lk"); (case zhv => rfl); (case zhs => with_unfolding_all rfl)))
section
variable {G : Gd} {A : Around} {stk : List (Addr × Hid)} {L : Addr} {m : Fld} {led : Led} {E : Value → Shared → Prop}
set_option maxRecDepth 100000
set_option maxHeartbeats 4000000
theorem W_neSS {Q : Value → Fld → Led → Prop} {y : Str} {t u : Tok} (q : Q (.bool false) m led) : W G A stk L m led (compareOp .NotEq (.str y t) (.str y u)) Q E := fun h tk I => PySem.P.ne_str (s := G.sh h tk) (by
  have e : (y.cps.toList != y.cps.toList) = false := by simp
  rw [e]
  exact ⟨_, _, _, _, rfl, I, q⟩)
theorem c_lay_primitive {Q : Value → Led → Prop} (hA : A.depth ≤ 680) (hU : A.units ≤ 7400) (hh : A.handled = none) {s dsc p dp r0 d0 th tu x dx pl ro sb ds t dt e de op : Addr} {t0 t1 t3 t4 t5 t7 t8 t9 ta tb tc td te n1 n2 n3 n4 n5 n6 n7 n8 : Nat} {fsc fp f0 fx fs ft fe : Fld} {g : Int → Option Value} {u u1 u2 u3 u4 u5 u6 u7 u8 : Tok} {num pn N : Int} {v0 v2 v3 v4 v5 : Value} {nm : Str} (hnm : Nm nm)
    (s1 : led s = some (t0, .inst 290 dsc)) (s2 : led dsc = some (td, .attrs fsc n4)) (s3 : fsc "place" = some (.ref p))
    (p1 : led p = some (t9, .inst 428 dp)) (p2 : led dp = some (ta, .attrs fp n5)) (p3 : fp "root" = some (.ref r0)) (p4 : fp "number" = some (.int pn u3)) (p5 : fp "kind" = some (.str "package" u4)) (p6 : fp "part" = some (.str "visible" u5))
    (r1 : led r0 = some (tb, .inst 428 d0)) (r2 : led d0 = some (tc, .attrs f0 n6)) (r3 : f0 "type_homes" = some (.ref th)) (r4 : led th = some (te, .idict g n7)) (r5 : g num = some (.ref tu)) (r6 : led tu = some (t8, .tup [.ref p, v2]))
    (h1 : led x = some (t1, .inst 269 dx)) (h2 : led dx = some (2690, .attrs fx n1)) (h3 : fx "name" = some (.str nm u)) (h4 : fx "params" = some (.ref pl)) (h5 : fx "result" = some .none) (h5' : fx "operation" = some v3) (h5'' : fx "control" = some v4)
    (h6 : led pl = some (t3, .list [.ref ro])) (h7 : led ro = some (t4, .tup [v0, .str "in" u6, .ref sb, .none])) (h8 : led sb = some (t5, .inst 531 ds)) (h9 : led ds = some (5310, .attrs fs n2)) (ha : fs "type" = some (.ref t))
    (hb : led t = some (t7, .inst 510 dt)) (hc : led dt = some (5100, .attrs ft n3)) (hd : ft "number" = some (.int num u2)) (he : ft "is_tagged" = some (.bool true)) (hf : ft "kind" = some (.str "record" u1)) (hg : ft "parent" = some .none) (hi : ft "operations" = some (.ref op)) (hj : led op = some (1006, .sd (fun _ => none) 0))
    (g1 : led e = some (318, .inst 318 de)) (g2 : led de = some (3180, .attrs fe n8)) (g3 : fe "name" = some (.str nm u7)) (g4 : fe "number" = some (.int N u8)) (g5 : fe "unique" = some v5) (hN0 : 0 ≤ N) (hN1 : N < 1000)
    (H : ∀ (lc : Addr) (w1 w2 w3 : Tok), led lc = none →
      Q .none (up (up (up (up led dx (2690, .attrs (fup (fup fx "operation" (.str (Txt.join " " [nm, "inself"]) w1)) "control" (.ref lc)) n1)) lc (0, .list [.int 0 w2])) de (3180, .attrs (fup fe "unique" (.str (uniq (uniq nm N) 0) w3)) n8)) op (1006, .sd (fup (fun _ => none) (Txt.join " " [nm, "inself"]) (.str (uniq (uniq nm N) 0) w3)) (0 + 1)))) :
    FnC G A stk L m led (.ref 410) [.ref s, .ref e, .ref x, .bool false] Q E := by
  refine' Fn_cellsM (fup (fup (fun _ => none) "entity" (.ref e)) "is_abstract" (.bool false)) (fun L0 => up (up (up (up (led) (L0 + 1 + 1 + 1 + 1) (99, .cell (none))) (L0 + 1 + 1 + 1) (99, .cell (none))) (L0 + 1 + 1) (99, .cell (some (.ref x)))) (L0 + 1) (99, .cell (some (.ref s)))) (binds := [("scope", .ref s), ("entity", .ref e), ("sub", .ref x), ("is_abstract", .bool false)]) ?zho ?zhcd ?zhroom ?zhbind ?zhkind ?zhco ?zhgen ?zhk ?zhnd ?zhm ?zhc ?_
  case zho => k_is
  case zhcd => k_is
  case zhroom => omega
  case zhbind => exact rfl
  case zhkind => exact rfl
  case zhco => exact rfl
  case zhgen => exact rfl
  case zhk => exact rfl
  case zhnd => intro n; exact (by decide +kernel : (["t", "homes", "sub", "scope"] : List Str).Nodup)
  case zhm => intro L0; rfl
  case zhc => intro L0; rfl
  intro L1 E1 hfr
  refine' W_mg2 "entity" "is_abstract" (v0 := .ref e)  (v1 := .bool false) ?zm0 ?zm1 ?_
  case zm0 => exact rfl
  case zm1 => exact rfl
  intro m1 e0 e1
  have hn1 := hfr (L1 + 1) (Nat.le_succ _)
  have hn2 := hfr (L1 + 1 + 1) (Nat.le_add_right _ 2)
  have hn3 := hfr (L1 + 1 + 1 + 1) (Nat.le_add_right _ 3)
  have hn4 := hfr (L1 + 1 + 1 + 1 + 1) (Nat.le_add_right _ 4)
  have d12 : L1 + 1 ≠ L1 + 1 + 1 := Nat.ne_of_lt (Nat.lt_add_of_pos_right (k := 1) (Nat.succ_pos _))
  have d13 : L1 + 1 ≠ L1 + 1 + 1 + 1 := Nat.ne_of_lt (Nat.lt_add_of_pos_right (k := 2) (Nat.succ_pos _))
  have d14 : L1 + 1 ≠ L1 + 1 + 1 + 1 + 1 := Nat.ne_of_lt (Nat.lt_add_of_pos_right (k := 3) (Nat.succ_pos _))
  have d23 : L1 + 1 + 1 ≠ L1 + 1 + 1 + 1 := Nat.ne_of_lt (Nat.lt_add_of_pos_right (k := 1) (Nat.succ_pos _))
  have d24 : L1 + 1 + 1 ≠ L1 + 1 + 1 + 1 + 1 := Nat.ne_of_lt (Nat.lt_add_of_pos_right (k := 2) (Nat.succ_pos _))
  have d34 : L1 + 1 + 1 + 1 ≠ L1 + 1 + 1 + 1 + 1 := Nat.ne_of_lt (Nat.lt_add_of_pos_right (k := 1) (Nat.succ_pos _))
  repeat walk_at "st"
  refine W_call (c_tagged_types (u := u) (by show A.depth + 1 ≤ _; omega) (by show A.units + 3 ≤ _; omega) (by exact hh) (by walk_at "lk") (by walk_at "lk") s3 (by walk_at "lk") (by walk_at "lk") p3 p4 (by walk_at "lk") (by walk_at "lk") r3 (by walk_at "lk") r5 (by walk_at "lk") (by walk_at "lk") (by walk_at "lk") h4 h5 (by walk_at "lk") (by walk_at "lk") (by walk_at "lk") (by walk_at "lk") ha (by walk_at "lk") (by walk_at "lk") hd he hf ?_)
  intro rw hrw
  simp only [up_none_iff] at hrw
  obtain ⟨w1, w2, w3, w4, hrw⟩ := hrw
  repeat walk_at "st"
  refine W_neSS ?_
  repeat walk_at "st"
  refine' W_len (by walk_at "lk") (by show 1 ≤ 1000; decide) fun _ => ?_
  repeat walk_at "st"
  refine' For_list (by exact hh) ?_ ?zhs
  case zhs => intro _; rfl
  repeat walk_at "st"
  refine ⟨rw, 0, [.ref t], fun i m' led' => led' rw = some (0, .list [.ref t]) ∧ ((i = 0 ∧ m' = fup m1 "row" (.ref rw) ∧ led' = _) ∨ (0 < i ∧ ∃ led'', Le led'' led' ∧ Q .none led'')), rfl, up_eq _ _ _, ⟨up_eq _ _ _, .inl ⟨rfl, rfl, rfl⟩⟩, fun _ _ _ h => h.1, fun _ _ => letGoes_name, ?_, ?_⟩
  · rintro stk2 E2 i v m' led' hi ⟨q0, ⟨rfl, rfl, rfl⟩ | ⟨hi0, _⟩⟩
    · cases hi
      clear q0
      refine W_asgN ?_
      refine' W_storeC rfl rfl (by walk_at "lk") ?_ rfl
      have e0' : fup m1 "row" (.ref rw) "entity" = some (.ref e) := by walk_at "fl"
      have e1' : fup m1 "row" (.ref rw) "is_abstract" = some (.bool false) := by walk_at "fl"
      repeat walk_at "st"
      refine W_call (c_operation_key (u3 := u) (by show A.depth + 1 ≤ _; omega) (by exact hh) hnm (by walk_at "lk") (by walk_at "lk") h3 h4 h5 (by walk_at "lk") (by walk_at "lk") (by walk_at "lk") (by walk_at "lk") ha (by walk_at "lk") (by walk_at "lk") hd fun k1 => ?_)
      repeat walk_at "st"
      refine' W_compR 0 (fun _ => true) (fun v y => y = v) (by exact hh) ?zhclos ?zhcell ?zhkind ?zhnames ?zhx ?_ ?zhs
      case zhs => intro _; rfl
      walk_at "compE"
      repeat walk_at "st"
      refine' W_len (by walk_at "lk") (by show 1 ≤ 1000; decide) fun _ => ?_
      repeat walk_at "st"
      refine W_drop ?_
      refine' W_range1 0 ?_
      intro rg hrg
      revert hrg
      refine upn7 fun _ _ _ _ _ _ _ hrg => ?_
      refine ⟨_, Le.rfl', ?_⟩
      refine ⟨rg, 0, 1, rfl, up_eq _ _ _, by decide, ?_, ?_⟩
      · intro i ut hi0
        obtain rfl : i = 0 := by omega
        intro stk3 C m3 E3 hm
        refine ⟨?_, fun _ => ?_⟩
        · repeat walk_at "stq"
          simp
        · repeat walk_at "stq"
          rfl
      intro its ys hl1 hl2 hl3 lc hlc
      have hys : ∃ ul, ys = [.int 0 ul] := by
        match its, hl1, hl3 with
        | [y], _, .cons h .nil =>
          obtain ⟨ul, e⟩ := hl2 0 y rfl
          exact ⟨ul, by rw [h, e]; rfl⟩
      obtain ⟨ul, rfl⟩ := hys
      revert hlc
      refine upn8 fun _ _ _ _ _ _ _ _ hlc => ?_
      repeat walk_at "st"
      refine W_call (c_whole_name (by show A.depth + 1 ≤ _; omega) (by rcases hnm with rfl | rfl <;> decide +kernel) hN0 hN1 fun w6 => ?_)
      repeat walk_at "st"
      refine W_call (c_lay_operation (by show A.depth + 1 ≤ _; omega) (by walk_at "lk") (by walk_at "lk") hg hi (by walk_at "lk") (by decide) fun bb => ?_)
      repeat walk_at "st"
      refine W_nil ?_
      refine ⟨by walk_at "lk", .inr ⟨by decide, _, ?_, H lc k1 ul w6 hlc⟩⟩
      exact Keep.le (.at (.at (.at (.at (by walk_at "keep") (by walk_at "lk")) (by walk_at "lk")) (by walk_at "lk")) (by walk_at "lk"))
    · match i, hi0, hi with
      | i + 1, _, hi => cases hi
  · rintro m' led' ⟨_, ⟨z, _⟩ | ⟨_, q⟩⟩
    · cases z
    refine W_nil ?_
    exact q
end
/- the keys are distinct -/
noncomputable def whole (nm : Str) (N : Int) : Str := uniq (uniq nm N) 0
noncomputable def uK (nm : Str) (c : Nat) : Str := ukey nm (Int.ofNat c)
noncomputable def wK (nm : Str) (c : Nat) : Str := whole nm (Int.ofNat c)
theorem k1 : ∀ c c' : Fin 14, (uK "a" c.val = uK "a" c'.val → c = c') ∧ (uK "b" c.val = uK "b" c'.val → c = c') ∧ uK "a" c.val ≠ uK "b" c'.val := by decide +kernel
theorem k2 : ∀ c c' : Fin 32, (wK "a" c.val = wK "a" c'.val → c = c') ∧ (wK "b" c.val = wK "b" c'.val → c = c') ∧ (wK "a" c.val = wK "b" c'.val → c = c') := by decide +kernel
theorem k3 : ∀ (c : Fin 14) (c' : Fin 32), uK "a" c.val ≠ wK "a" c'.val ∧ uK "a" c.val ≠ wK "b" c'.val ∧ uK "b" c.val ≠ wK "a" c'.val ∧ uK "b" c.val ≠ wK "b" c'.val := by decide +kernel
theorem ofNat' {c : Int} (h : 0 ≤ c) {n : Nat} (h1 : c < n) : ∃ k : Fin n, c = Int.ofNat k.val := ⟨⟨c.toNat, by omega⟩, by simp; omega⟩
theorem ukey_inj {nm nm' : Str} {c c' : Int} (h : Nm nm) (h' : Nm nm') (h0 : 0 ≤ c) (h1 : c < 14) (h0' : 0 ≤ c') (h1' : c' < 14) (e : ukey nm c = ukey nm' c') : nm = nm' ∧ c = c' := by
  obtain ⟨k, rfl⟩ := ofNat' h0 h1
  obtain ⟨k', rfl⟩ := ofNat' h0' h1'
  have q := k1 k k'
  have q' := k1 k' k
  rcases h with rfl | rfl <;> rcases h' with rfl | rfl
  · exact ⟨rfl, by rw [q.1 e]⟩
  · exact absurd e q.2.2
  · exact absurd e.symm q'.2.2
  · exact ⟨rfl, by rw [q.2.1 e]⟩
theorem whole_inj {nm nm' : Str} {c c' : Int} (h : Nm nm) (h' : Nm nm') (h0 : 0 ≤ c) (h1 : c < 32) (h0' : 0 ≤ c') (h1' : c' < 32) (e : whole nm c = whole nm' c') : c = c' := by
  obtain ⟨k, rfl⟩ := ofNat' h0 h1
  obtain ⟨k', rfl⟩ := ofNat' h0' h1'
  have q := k2 k k'
  have q' := k2 k' k
  rcases h with rfl | rfl <;> rcases h' with rfl | rfl
  · rw [q.1 e]
  · rw [q.2.2 e]
  · rw [q'.2.2 e.symm]
  · rw [q.2.1 e]
theorem ukey_whole {nm nm' : Str} {c c' : Int} (h : Nm nm) (h' : Nm nm') (h0 : 0 ≤ c) (h1 : c < 14) (h0' : 0 ≤ c') (h1' : c' < 32) : ukey nm c ≠ whole nm' c' := by
  obtain ⟨k, rfl⟩ := ofNat' h0 h1
  obtain ⟨k', rfl⟩ := ofNat' h0' h1'
  have q := k3 k k'
  rcases h with rfl | rfl <;> rcases h' with rfl | rfl
  · exact q.1
  · exact q.2.1
  · exact q.2.2.1
  · exact q.2.2.2
/- the world at a turn of the first loop -/
structure Con where
  (run drun tt dtt s ds cm dcm th : Addr)
  (reg dreg cd nd fr dfr : Nat → Addr)
noncomputable def PlainU (cnt : Nat → Str → Int) (l : Nat) (key : Str) : Prop := ∃ nm c, Nm nm ∧ 0 ≤ c ∧ c < cnt l nm ∧ key = ukey nm c
noncomputable def WholeU (made : Int) (key : Str) : Prop := ∃ nm N, Nm nm ∧ 0 ≤ N ∧ N ≤ made ∧ key = whole nm N
noncomputable def SF (C : Con) (k : Nat) (led : Led) : Prop := ∃ f n i t u v g j, led C.ds = some (2900, .attrs f n) ∧ f "count" = some (.int i t) ∧ f "place" = some v ∧ f "line" = some (.int 1 u) ∧ led C.th = some (1004, .idict g j) ∧ j ≤ k ∧ 0 ≤ i ∧ i ≤ 100 + (k : Int) ∧ (∀ z, i < z → z < 300 → g z = none) ∧ ∀ z, 300 + (k : Int) ≤ z → g z = none
structure Wd (C : Con) (k : Nat) (made : Int) (led : Led) (gn : Nat → Fld) (cnt : Nat → Str → Int) : Prop where
  run1 : led C.run = some (1, .inst 180 C.drun)
  run2 : ∃ f n t, led C.drun = some (2, .attrs f n) ∧ f "cells" = some (.ref C.cm) ∧ f "task" = some (.ref C.tt) ∧ f "line" = some (.int 0 t)
  tt1 : led C.tt = some (368, .inst 368 C.dtt)
  tt2 : ∃ f n v, led C.dtt = some (3680, .attrs f n) ∧ f "frame" = some v
  mk1 : led C.cm = some (117, .inst 117 C.dcm)
  mk2 : ∃ f n i t, led C.dcm = some (1170, .attrs f n) ∧ f "last" = some (.int i t) ∧ f "make_cell" = none
  s1 : led C.s = some (290, .inst 290 C.ds)
  s2 : SF C k led
  r1 : ∀ l, l < 3 → led (C.reg l) = some (428, .inst 428 (C.dreg l))
  r2 : ∀ l, l < 3 → ∃ f n y t u, led (C.dreg l) = some (4280, .attrs f n) ∧ f "kind" = some (.str y t) ∧ frameKinds.contains y = true ∧ f "root" = some (.ref (C.reg 0)) ∧ f "level" = some (.int (l : Int) u) ∧ f "counts" = some (.ref (C.cd l))
  r3 : ∃ f n t, led (C.dreg 0) = some (4280, .attrs f n) ∧ f "made" = some (.int made t) ∧ f "type_homes" = some (.ref C.th)
  c1 : ∀ l, l < 3 → ∃ g n, led (C.cd l) = some (1003, .sd g n) ∧ n ≤ k ∧ ∀ nm, 0 ≤ cnt l nm ∧ cnt l nm ≤ (k : Int) ∧ ((g nm = none ∧ cnt l nm = 0) ∨ ∃ t, g nm = some (.int (cnt l nm) t))
  n1 : ∀ l, l < 3 → ∃ n, led (C.nd l) = some (1005, .sd (gn l) n) ∧ n ≤ 2 * k
  f1 : ∀ l, l < 3 → led (C.fr l) = some (159, .inst 159 (C.dfr l))
  f2 : ∀ l, l < 3 → ∃ f n, led (C.dfr l) = some (1590, .attrs f n) ∧ f "names" = some (.ref (C.nd l)) ∧ f "parent" = some (match l with | 0 => .none | j + 1 => .ref (C.fr j))
  u1 : ∀ l key, gn l key ≠ none → PlainU cnt l key ∨ WholeU made key
  cdi : ∀ i j, i < 3 → j < 3 → C.cd i = C.cd j → i = j
  ndi : ∀ i j, i < 3 → j < 3 → C.nd i = C.nd j → i = j
  dri : ∀ l, 0 < l → l < 3 → C.dreg l ≠ C.dreg 0
  cb : ∀ l y, cnt l y ≤ (k : Int)
noncomputable def Stay (C : Con) (led led' : Led) : Prop := ∀ a t o, led a = some (t, o) → t ∉ [1001, 1002, 1003, 1004, 1005, 1170, 2900] → a ≠ C.dreg 0 → led' a = some (t, o)
noncomputable def Grow (gn : Nat → Fld) (cnt : Nat → Str → Int) (made : Int) (gn' : Nat → Fld) (cnt' : Nat → Str → Int) (made' : Int) : Prop :=
  made ≤ made' ∧ (∀ l nm, cnt l nm ≤ cnt' l nm) ∧ (∀ l key, PlainU cnt l key → gn' l key = gn l key) ∧ (∀ l key, WholeU made key → gn' l key = gn l key)
/- a row of the law's table -/
noncomputable def CellV (led : Led) (x : Addr) (k : Nat) : Prop := ∃ d g n u, led x = some (89, .inst 89 d) ∧ led d = some (890, .attrs g n) ∧ g "value" = some (.int (k : Int) u)
noncomputable def BodyV (led : Led) (x : Addr) (k : Nat) : Prop := ∃ d g n u, led x = some (587, .inst 587 d) ∧ led d = some (5870, .attrs g n) ∧ g "body" = some (.int (k : Int) u)
noncomputable def SubV (led : Led) (x : Addr) (k : Nat) : Prop := ∃ d g n sb ds gs ns u, led x = some (229, .inst 229 d) ∧ led d = some (2290, .attrs g n) ∧ g "sub" = some (.ref sb) ∧ led sb = some (269, .inst 269 ds) ∧ led ds = some (2690, .attrs gs ns) ∧ gs "ups" = some (.int (k : Int) u)
noncomputable def SubW (led : Led) (x : Addr) (k : Nat) : Prop := ∃ d g n sb ds gs ns u lc u', led x = some (229, .inst 229 d) ∧ led d = some (2290, .attrs g n) ∧ g "sub" = some (.ref sb) ∧ led sb = some (269, .inst 269 ds) ∧ led ds = some (2690, .attrs gs ns) ∧ gs "ups" = some (.int (k : Int) u) ∧ gs "control" = some (.ref lc) ∧ led lc = some (0, .list [.int 0 u'])
noncomputable def IfIn (laid : Bool) (P : Value → Prop) (o : Option Value) : Prop := match laid with | true => ∃ v, o = some v ∧ P v | false => o = none
noncomputable def RefTo (P : Addr → Prop) (v : Value) : Prop := ∃ x, v = .ref x ∧ P x
noncomputable def Row0 (led : Led) (gn : Nat → Fld) (cnt : Nat → Str → Int) (l k : Nat) (key : Str) (laid : Bool) : Prop := laid = true ∧ PlainU cnt l key ∧ IfIn true (RefTo fun x => CellV led x k) (gn l key)
noncomputable def Row1 (led : Led) (gn : Nat → Fld) (made : Int) (l k : Nat) (asked : Value) (laid : Bool) : Prop := ∃ wk u, asked = .str wk u ∧ WholeU made wk ∧ (∀ l', l' ≠ l → gn l' wk = none) ∧ IfIn laid (RefTo fun x => BodyV led x k) (gn l wk)
noncomputable def Row2 (led : Led) (gn : Nat → Fld) (made : Int) (l k : Nat) (asked : Value) (laid : Bool) : Prop := ∃ aq ty dty op K uK wk uw ft nt go no num un, asked = .ref aq ∧ led aq = some (0, .tup [.ref ty, .str K uK]) ∧ led ty = some (510, .inst 510 dty) ∧ led dty = some (5100, .attrs ft nt) ∧ ft "operations" = some (.ref op) ∧
  ft "number" = some (.int num un) ∧ led op = some (1006, .sd go no) ∧ go K = some (.str wk uw) ∧ WholeU made wk ∧ (∀ l', l' ≠ l → gn l' wk = none) ∧ IfIn laid (RefTo fun x => SubW led x k) (gn l wk)
noncomputable def Row3 (led : Led) (gn : Nat → Fld) (cnt : Nat → Str → Int) (l k : Nat) (key : Str) (laid : Bool) : Prop := PlainU cnt l key ∧ IfIn laid (RefTo fun x => SubV led x k) (gn l key)
noncomputable def RowOk (C : Con) (led : Led) (gn : Nat → Fld) (cnt : Nat → Str → Int) (made : Int) (l k : Nat) (r4 : Addr) (laid : Bool) : Prop :=
  ∃ (sort : Int) (us : Tok) (e de p dp : Addr) (asked : Value) (fe fp : Fld) (ne np : Nat) (key : Str) (uk ul : Tok),
    led r4 = some (0, .tup [.int sort us, .ref e, asked, .bool laid]) ∧ led e = some (318, .inst 318 de) ∧ led de = some (3180, .attrs fe ne) ∧ fe "home" = some (.ref p) ∧ fe "unique" = some (.str key uk) ∧
    led p = some (428, .inst 428 dp) ∧ led dp = some (4280, .attrs fp np) ∧ fp "level" = some (.int (l : Int) ul) ∧ dp ≠ C.dreg 0 ∧
    ((sort = 0 ∧ Row0 led gn cnt l k key laid) ∨ (sort = 1 ∧ Row1 led gn made l k asked laid) ∨ (sort = 2 ∧ Row2 led gn made l k asked laid) ∨ (sort = 3 ∧ Row3 led gn cnt l k key laid))
section
variable {C : Con} {led led' : Led} {gn gn' : Nat → Fld} {cnt cnt' : Nat → Str → Int} {made made' : Int} {l k : Nat} {laid : Bool}
theorem PlainU.step {key : Str} (h : PlainU cnt l key) (g : Grow gn cnt made gn' cnt' made') : PlainU cnt' l key := by
  obtain ⟨nm, c, h1, h2, h3, h4⟩ := h
  exact ⟨nm, c, h1, h2, Int.lt_of_lt_of_le h3 (g.2.1 l nm), h4⟩
theorem WholeU.step {key : Str} (h : WholeU made key) (g : made ≤ made') : WholeU made' key := by
  obtain ⟨nm, c, h1, h2, h3, h4⟩ := h
  exact ⟨nm, c, h1, h2, Int.le_trans h3 g, h4⟩
theorem IfIn.imp {P P' : Value → Prop} {o : Option Value} (h : IfIn laid P o) (k : ∀ v, P v → P' v) : IfIn laid P' o := by
  cases laid with
  | false => exact h
  | true => obtain ⟨v, e, q⟩ := h; exact ⟨v, e, k v q⟩
/-- what stands at a place of another tag than the root's dict -/
theorem Stay.at (S : Stay C led led') (D : ∃ f n, led (C.dreg 0) = some (4280, .attrs f n)) {a : Addr} {t : Nat} {o : AO} (h : led a = some (t, o)) (ht : t ∉ [1001, 1002, 1003, 1004, 1005, 1170, 2900, 4280]) : led' a = some (t, o) := by
  refine S a t o h (fun hm => ht ?_) fun e => ?_
  · exact (show t ∈ [1001, 1002, 1003, 1004, 1005, 1170, 2900] ++ [4280] from List.mem_append_left _ hm)
  · obtain ⟨f, n, D⟩ := D
    rw [e, D] at h
    cases h
    exact ht (by simp)
/- what a row speaks of is kept -/
noncomputable def rowTag (t : Nat) : Bool := [0, 89, 229, 269, 318, 428, 510, 587, 890, 1006, 2290, 2690, 3180, 5100, 5870].contains t
noncomputable def KeepR (led led' : Led) : Prop := ∀ a t o, led a = some (t, o) → rowTag t = true → led' a = some (t, o)
theorem CellV.gen {x : Addr} (K : KeepR led led') (h : CellV led x k) : CellV led' x k := exE4 h fun d g n u => andE3 fun z1 z2 z3 => exI4 d g n u ⟨K _ _ _ z1 rfl, K _ _ _ z2 rfl, z3⟩
theorem BodyV.gen {x : Addr} (K : KeepR led led') (h : BodyV led x k) : BodyV led' x k := exE4 h fun d g n u => andE3 fun z1 z2 z3 => exI4 d g n u ⟨K _ _ _ z1 rfl, K _ _ _ z2 rfl, z3⟩
theorem SubV.gen {x : Addr} (K : KeepR led led') (h : SubV led x k) : SubV led' x k := exE8 h fun d g n sb ds gs ns u => andE6 fun z1 z2 z3 z4 z5 z6 => exI8 d g n sb ds gs ns u ⟨K _ _ _ z1 rfl, K _ _ _ z2 rfl, z3, K _ _ _ z4 rfl, K _ _ _ z5 rfl, z6⟩
theorem SubW.gen {x : Addr} (K : KeepR led led') (h : SubW led x k) : SubW led' x k := exE10 h fun d g n sb ds gs ns u lc u' => andE8 fun z1 z2 z3 z4 z5 z6 z7 z8 => exI10 d g n sb ds gs ns u lc u' ⟨K _ _ _ z1 rfl, K _ _ _ z2 rfl, z3, K _ _ _ z4 rfl, K _ _ _ z5 rfl, z6, z7, K _ _ _ z8 rfl⟩
theorem RefTo.imp {P P' : Addr → Prop} (h : ∀ x, P x → P' x) (v : Value) : RefTo P v → RefTo P' v := fun ⟨x, e, z⟩ => ⟨x, e, h x z⟩
noncomputable def GrowP (gn : Nat → Fld) (cnt : Nat → Str → Int) (gn' : Nat → Fld) (cnt' : Nat → Str → Int) : Prop := ∀ l key, PlainU cnt l key → PlainU cnt' l key ∧ gn' l key = gn l key
noncomputable def GrowW (gn : Nat → Fld) (made : Int) (gn' : Nat → Fld) (made' : Int) : Prop := ∀ key, WholeU made key → WholeU made' key ∧ ∀ l, gn' l key = gn l key
theorem Row0.gen {key : Str} (K : KeepR led led') (g : GrowP gn cnt gn' cnt') (h : Row0 led gn cnt l k key laid) : Row0 led' gn' cnt' l k key laid := by
  refine andE3 (fun q1 q2 q3 => ⟨q1, (g l key q2).1, ?_⟩) h
  rw [(g l key q2).2]
  exact q3.imp (RefTo.imp fun x => CellV.gen K)
theorem Row3.gen {key : Str} (K : KeepR led led') (g : GrowP gn cnt gn' cnt') (h : Row3 led gn cnt l k key laid) : Row3 led' gn' cnt' l k key laid := by
  refine andE2 (fun q2 q3 => ⟨(g l key q2).1, ?_⟩) h
  rw [(g l key q2).2]
  exact q3.imp (RefTo.imp fun x => SubV.gen K)
theorem Row1.gen {asked : Value} (K : KeepR led led') (g : GrowW gn made gn' made') (h : Row1 led gn made l k asked laid) : Row1 led' gn' made' l k asked laid := by
  refine exE2 h fun wk u => andE4 fun q1 q2 q3 q4 => exI2 wk u ⟨q1, (g wk q2).1, fun l' hl => ((g wk q2).2 l').trans (q3 l' hl), ?_⟩
  rw [(g wk q2).2]
  exact q4.imp (RefTo.imp fun x => BodyV.gen K)
theorem Row2.gen {asked : Value} (K : KeepR led led') (g : GrowW gn made gn' made') (h : Row2 led gn made l k asked laid) : Row2 led' gn' made' l k asked laid := by
  refine exE14 h fun aq ty dty op K' uK wk uw ft nt go no num un => andE11 fun q1 q2 q3 q4 q5 q6 q7 q8 q9 qa qb =>
    exI14 aq ty dty op K' uK wk uw ft nt go no num un ⟨q1, K _ _ _ q2 rfl, K _ _ _ q3 rfl, K _ _ _ q4 rfl, q5, q6, K _ _ _ q7 rfl, q8, (g wk q9).1, fun l' hl => ((g wk q9).2 l').trans (qa l' hl), ?_⟩
  rw [(g wk q9).2]
  exact qb.imp (RefTo.imp fun x => SubW.gen K)
theorem RowOk.gen {r4 : Addr} (K : KeepR led led') (K1 : ∀ a o, led a = some (4280, o) → a ≠ C.dreg 0 → led' a = some (4280, o)) (gP : GrowP gn cnt gn' cnt') (gW : GrowW gn made gn' made')
    (h : RowOk C led gn cnt made l k r4 laid) : RowOk C led' gn' cnt' made' l k r4 laid :=
  exE14 h fun sort us e de p dp asked fe fp ne np key uk ul => andE10 fun h1 h2 h3 h4 h5 h6 h7 h8 h9 hr =>
    exI14 sort us e de p dp asked fe fp ne np key uk ul ⟨K _ _ _ h1 rfl, K _ _ _ h2 rfl, K _ _ _ h3 rfl, h4, h5, K _ _ _ h6 rfl, K1 _ _ h7 h9, h8, h9,
      hr.imp (fun q => ⟨q.1, Row0.gen K gP q.2⟩) (Or.imp (fun q => ⟨q.1, Row1.gen K gW q.2⟩) (Or.imp (fun q => ⟨q.1, Row2.gen K gW q.2⟩) (fun q => ⟨q.1, Row3.gen K gP q.2⟩)))⟩
theorem GrowP.same : GrowP gn cnt gn cnt := fun _ _ h => ⟨h, rfl⟩
theorem GrowW.same : GrowW gn made gn made := fun _ h => ⟨h, fun _ => rfl⟩
theorem RowOk.step {r4 : Addr} (D : ∃ f n, led (C.dreg 0) = some (4280, .attrs f n)) (h : RowOk C led gn cnt made l k r4 laid) (S : Stay C led led') (g : Grow gn cnt made gn' cnt' made') : RowOk C led' gn' cnt' made' l k r4 laid :=
  h.gen (fun a t o e ht => S.at D e fun hm => (by
      simp only [List.mem_cons, List.not_mem_nil, or_false] at hm
      rcases hm with rfl | rfl | rfl | rfl | rfl | rfl | rfl | rfl <;> exact absurd ht (by decide)))
    (fun a o e hne => S a _ _ e (by decide) hne) (fun l key q => ⟨q.step g, g.2.2.1 l key q⟩) fun key q => ⟨q.step g.1, fun l => g.2.2.2 l key q⟩
end
section
variable {C : Con} {led led' : Led} {gn : Nat → Fld} {cnt : Nat → Str → Int} {made : Int} {k : Nat}
noncomputable def gnW (gn : Nat → Fld) (lv : Nat) (g' : Fld) : Nat → Fld := fun l => if l = lv then g' else gn l
noncomputable def cntW (cnt : Nat → Str → Int) (lv : Nat) (nm : Str) : Nat → Str → Int := fun l y => if l = lv ∧ y = nm then cnt l y + 1 else cnt l y
theorem Wd.step (W : Wd C k made led gn cnt) (hm : made = 4 + 2 * (k : Int)) (hk : k < 13) {lv : Nat} (hlv : lv < 3) {nm : Str} (hnm : Nm nm) {g' : Fld} {bs : List Addr}
    (hK : Keep (C.dreg 0 :: C.cd lv :: C.nd lv :: C.dcm :: C.ds :: C.th :: bs) led led') (hbs : ∀ b ∈ bs, ∃ t o, led b = some (t, o) ∧ (t = 1001 ∨ t = 1002))
    (hd : ∀ f n, led (C.dreg 0) = some (4280, .attrs f n) → ∃ w, led' (C.dreg 0) = some (4280, .attrs (fup f "made" (.int (made + 1) w)) n))
    (hc : ∀ g n, led (C.cd lv) = some (1003, .sd g n) → ∃ w, led' (C.cd lv) = some (1003, .sd (fup g nm (.int (cnt lv nm + 1) w)) (n + 1)))
    (hn : ∃ n', led' (C.nd lv) = some (1005, .sd g' n') ∧ n' ≤ 2 * (k + 1)) (hmk : ∃ f n i t, led' C.dcm = some (1170, .attrs f n) ∧ f "last" = some (.int i t) ∧ f "make_cell" = none) (hs : SF C (k + 1) led')
    (hg : ∀ key, key ≠ ukey nm (cnt lv nm) → key ≠ whole nm (made + 1) → g' key = gn lv key) :
    Wd C (k + 1) (made + 1) led' (gnW gn lv g') (cntW cnt lv nm) ∧ Grow gn cnt made (gnW gn lv g') (cntW cnt lv nm) (made + 1) ∧ Stay C led led' := by
  refine exE2 (W.c1 lv hlv) fun gc nc => andE3 fun c1 c2 c3 => exE1 (W.n1 lv hlv) fun nn => andE2 fun n1 n2 => exE4 W.mk2 fun fm nm0 im tm => andE3 fun m1 m2 _ => ?_
  refine exE8 W.s2 fun fs ns is ts us vs gs js => andE6 fun s1 s2 s3 s4 s5 _ => exE3 W.r3 fun f0 n0 t0 => andE3 fun d1 d2 d3 => ?_
  have hC := c3 nm
  have hT : ∀ a t o, led a = some (t, o) → a ≠ C.dreg 0 → a ≠ C.cd lv → a ≠ C.nd lv → t ∉ [1001, 1002, 1004, 1170, 2900] → led' a = some (t, o) := by
    intro a t o h h1 h2 h3 ht
    simp only [List.mem_cons, List.not_mem_nil, or_false, not_or] at ht
    refine hK a _ h ?_
    simp only [List.mem_cons, not_or]
    refine ⟨h1, h2, h3, ?_, ?_, ?_, ?_⟩
    · rintro rfl; rw [m1] at h; cases h; omega
    · rintro rfl; rw [s1] at h; cases h; omega
    · rintro rfl; rw [s5] at h; cases h; omega
    · intro hb
      obtain ⟨t', o', e, q⟩ := hbs a hb
      rw [h] at e; cases e; omega
  have S : Stay C led led' := by
    intro a t o h ht hne
    simp only [List.mem_cons, List.not_mem_nil, or_false, not_or] at ht
    refine hT a t o h hne ?_ ?_ ?_
    · rintro rfl; rw [c1] at h; cases h; omega
    · rintro rfl; rw [n1] at h; cases h; omega
    · simp only [List.mem_cons, List.not_mem_nil, or_false, not_or]; omega
  have D : ∃ f n, led (C.dreg 0) = some (4280, .attrs f n) := ⟨f0, n0, d1⟩
  have hle : ∀ l y, cnt l y ≤ cntW cnt lv nm l y := by
    intro l y
    unfold cntW
    split <;> omega
  have hP : ∀ l key, PlainU cnt l key → PlainU (cntW cnt lv nm) l key := by
    rintro l key ⟨y, c, h1, h2, h3, h4⟩
    exact ⟨y, c, h1, h2, Int.lt_of_lt_of_le h3 (hle l y), h4⟩
  have hW : ∀ key, WholeU made key → WholeU (made + 1) key := by
    rintro key ⟨y, c, h1, h2, h3, h4⟩
    exact ⟨y, c, h1, h2, by omega, h4⟩
  refine ⟨?_, ⟨by omega, hle, ?_, ?_⟩, S⟩
  · constructor
    · exact S.at D W.run1 (by decide)
    · obtain ⟨f, n, t, h, r⟩ := W.run2
      exact ⟨f, n, t, S.at D h (by decide), r⟩
    · exact S.at D W.tt1 (by decide)
    · obtain ⟨f, n, v, h, r⟩ := W.tt2
      exact ⟨f, n, v, S.at D h (by decide), r⟩
    · exact S.at D W.mk1 (by decide)
    · exact hmk
    · exact S.at D W.s1 (by decide)
    · exact hs
    · exact fun l hl => S.at D (W.r1 l hl) (by decide)
    · intro l hl
      refine exE5 (W.r2 l hl) fun f n y t u => andE6 fun h q1 q2 q3 q4 q5 => ?_
      by_cases z : l = 0
      · subst z
        obtain ⟨w, e⟩ := hd f n h
        exact ⟨_, n, y, t, u, e, by rw [fup_ne (by decide)]; exact q1, q2, by rw [fup_ne (by decide)]; exact q3, by rw [fup_ne (by decide)]; exact q4, by rw [fup_ne (by decide)]; exact q5⟩
      · exact ⟨f, n, y, t, u, S _ _ _ h (by decide) (W.dri l (by omega) hl), q1, q2, q3, q4, q5⟩
    · obtain ⟨w, e⟩ := hd f0 n0 d1
      exact ⟨_, n0, w, e, fup_eq _ _ _, by rw [fup_ne (by decide)]; exact d3⟩
    · intro l hl
      by_cases z : l = lv
      · subst z
        obtain ⟨w, e⟩ := hc gc nc c1
        refine ⟨_, _, e, by omega, fun y => ?_⟩
        have q := c3 y
        by_cases hy : y = nm
        · subst hy
          have e2 : cntW cnt l y l y = cnt l y + 1 := by unfold cntW; rw [if_pos ⟨rfl, rfl⟩]
          rw [e2]
          exact ⟨by omega, by omega, .inr ⟨w, fup_eq _ _ _⟩⟩
        · have e2 : cntW cnt l nm l y = cnt l y := by unfold cntW; rw [if_neg (by simp [hy])]
          rw [e2, fup_ne hy]
          exact ⟨q.1, by omega, q.2.2⟩
      · obtain ⟨g, n, h, q1, q2⟩ := W.c1 l hl
        refine ⟨g, n, hT _ _ _ h ?_ (fun e => z (W.cdi l lv hl hlv e)) ?_ (by decide), by omega, fun y => ?_⟩
        · intro e; rw [e, d1] at h; cases h
        · intro e; rw [e, n1] at h; cases h
        · have e2 : cntW cnt lv nm l y = cnt l y := by unfold cntW; rw [if_neg (by simp [z])]
          have q := q2 y
          rw [e2]
          exact ⟨q.1, by omega, q.2.2⟩
    · intro l hl
      by_cases z : l = lv
      · subst z
        obtain ⟨n', e, q⟩ := hn
        exact ⟨n', by unfold gnW; rw [if_pos rfl]; exact e, q⟩
      · obtain ⟨n, h, q⟩ := W.n1 l hl
        refine ⟨n, ?_, by omega⟩
        unfold gnW
        rw [if_neg z]
        refine hT _ _ _ h ?_ ?_ (fun e => z (W.ndi l lv hl hlv e)) (by decide)
        · intro e; rw [e, d1] at h; cases h
        · intro e; rw [e, c1] at h; cases h
    · exact fun l hl => S.at D (W.f1 l hl) (by decide)
    · intro l hl
      obtain ⟨f, n, h, r⟩ := W.f2 l hl
      exact ⟨f, n, S.at D h (by decide), r⟩
    · intro l key hne
      unfold gnW at hne
      by_cases z : l = lv
      · subst z
        rw [if_pos rfl] at hne
        by_cases e1 : key = ukey nm (cnt l nm)
        · exact .inl ⟨nm, _, hnm, hC.1, by unfold cntW; rw [if_pos ⟨rfl, rfl⟩]; omega, e1⟩
        by_cases e2 : key = whole nm (made + 1)
        · exact .inr ⟨nm, _, hnm, by omega, by omega, e2⟩
        rw [hg key e1 e2] at hne
        rcases W.u1 l key hne with q | q
        · exact .inl (hP l key q)
        · exact .inr (hW key q)
      · rw [if_neg z] at hne
        rcases W.u1 l key hne with q | q
        · exact .inl (hP l key q)
        · exact .inr (hW key q)
    · exact W.cdi
    · exact W.ndi
    · exact W.dri
    · intro l y
      have q := W.cb l y
      unfold cntW
      split <;> omega
  · rintro l key ⟨y, c, h1, h2, h3, rfl⟩
    unfold gnW
    by_cases z : l = lv
    · subst z
      rw [if_pos rfl]
      have q := c3 y
      refine hg _ (fun e => ?_) (ukey_whole h1 hnm h2 (by omega) (by omega) (by omega))
      obtain ⟨rfl, rfl⟩ := ukey_inj h1 hnm h2 (by omega) hC.1 (by omega) e
      omega
    · rw [if_neg z]
  · rintro l key ⟨y, c, h1, h2, h3, rfl⟩
    unfold gnW
    by_cases z : l = lv
    · subst z
      rw [if_pos rfl]
      refine hg _ (fun e => ukey_whole hnm h1 hC.1 (by omega) h2 (by omega) e.symm) fun e => ?_
      have := whole_inj h1 hnm h2 (by omega) (by omega) (by omega) e
      omega
    · rw [if_neg z]
end
noncomputable def Told (C : Con) (k lv : Nat) (led : Led) (gn : Nat → Fld) (cnt : Nat → Str → Int) (Q : Value → Led → Prop) : Prop :=
  ∀ r4 led' gn' cnt' laid, Wd C (k + 1) (5 + 2 * (k : Int)) led' gn' cnt' → Grow gn cnt (4 + 2 * (k : Int)) gn' cnt' (5 + 2 * (k : Int)) → Stay C led led' → RowOk C led' gn' cnt' (5 + 2 * (k : Int)) lv k r4 laid → Q (.ref r4) led'
theorem Told.fin {C : Con} {led led' : Led} {gn : Nat → Fld} {cnt : Nat → Str → Int} {k lv : Nat} {Q : Value → Led → Prop} (H : Told C k lv led gn cnt Q) (W : Wd C k (4 + 2 * (k : Int)) led gn cnt) (hk : k < 13) (hlv : lv < 3) {nm : Str} (hnm : Nm nm) {r4 : Addr} {laid : Bool} (g' : Fld) (bs : List Addr)
    (hK : Keep (C.dreg 0 :: C.cd lv :: C.nd lv :: C.dcm :: C.ds :: C.th :: bs) led led') (hbs : ∀ b ∈ bs, ∃ t o, led b = some (t, o) ∧ (t = 1001 ∨ t = 1002))
    (hd : ∀ f n, led (C.dreg 0) = some (4280, .attrs f n) → ∃ w, led' (C.dreg 0) = some (4280, .attrs (fup f "made" (.int (4 + 2 * (k : Int) + 1) w)) n))
    (hc : ∀ g n, led (C.cd lv) = some (1003, .sd g n) → ∃ w, led' (C.cd lv) = some (1003, .sd (fup g nm (.int (cnt lv nm + 1) w)) (n + 1)))
    (hn : ∃ n', led' (C.nd lv) = some (1005, .sd g' n') ∧ n' ≤ 2 * (k + 1)) (hmk : ∃ f n i t, led' C.dcm = some (1170, .attrs f n) ∧ f "last" = some (.int i t) ∧ f "make_cell" = none) (hs : SF C (k + 1) led')
    (hg : ∀ key, key ≠ ukey nm (cnt lv nm) → key ≠ whole nm (4 + 2 * (k : Int) + 1) → g' key = gn lv key)
    (hrow : RowOk C led' (gnW gn lv g') (cntW cnt lv nm) (4 + 2 * (k : Int) + 1) lv k r4 laid) : Q (.ref r4) led' := by
  obtain ⟨W', gr, S⟩ := W.step rfl hk hlv hnm hK hbs hd hc hn hmk hs hg
  rw [show 4 + 2 * (k : Int) + 1 = 5 + 2 * (k : Int) by omega] at W' gr hrow
  exact H r4 led' _ _ laid W' gr S hrow
theorem ifRef {P : Addr → Prop} {o : Option Value} {y : Addr} (ho : o = some (.ref y)) (h : P y) : IfIn true (RefTo P) o := ⟨_, ho, y, rfl, h⟩
theorem cntW_lt {cnt : Nat → Str → Int} {lv : Nat} {nm : Str} : cnt lv nm < cntW cnt lv nm lv nm := by
  unfold cntW
  rw [if_pos ⟨rfl, rfl⟩]
  omega
theorem gnW_at {gn : Nat → Fld} {lv : Nat} {g' : Fld} {key : Str} {o : Option Value} (h : g' key = o) : gnW gn lv g' lv key = o := by
  unfold gnW
  rw [if_pos rfl]
  exact h
section
variable {G : Gd} {A : Around} {stk : List (Addr × Hid)} {L : Addr} {m : Fld} {led : Led} {E : Value → Shared → Prop}
set_option maxRecDepth 100000
set_option maxHeartbeats 4000000
theorem c_told0 {Q : Value → Led → Prop} (hA : A.depth ≤ 660) (hU : A.units ≤ 7200) (hh : A.handled = none) {C : Con} {k lv : Nat} {gn : Nat → Fld} {cnt : Nat → Str → Int} (W : Wd C k (4 + 2 * (k : Int)) led gn cnt) (hk : k < 13) (hlv : lv < 3)
    {p dp bn bo : Addr} {fp : Fld} {np : Nat} {u1 u2 u3 u4 uk uc : Tok} {pn code : Int} (p1 : led p = some (428, .inst 428 dp)) (p2 : led dp = some (4280, .attrs fp np)) (p3 : fp "kind" = some (.str "package" u1)) (p4 : fp "parent" = some (.ref (C.reg lv))) (p5 : fp "root" = some (.ref (C.reg 0)))
    (p6 : fp "part" = some (.str "visible" u2)) (p7 : fp "names" = some (.ref bn)) (p8 : fp "order" = some (.ref bo)) (p9 : fp "number" = some (.int pn u3)) (pa : fp "level" = some (.int (lv : Int) u4)) (pb : led bn = some (1001, .sd (fun _ => none) 0)) (pc : led bo = some (1002, .list [])) (pd : dp ≠ C.dreg 0)
    (hpl : ∀ f n, led C.ds = some (2900, .attrs f n) → f "place" = some (.ref p)) (hc0 : 0 ≤ code) (hsort : (code.fdiv 3).fmod 4 = 0) (H : Told C k lv led gn cnt Q) :
    FnC G A stk L m led (.ref 605) [.ref C.run, .ref C.s, .ref (C.fr lv), .int (k : Int) uk, .int code uc] Q E := by
  refine exE3 W.run2 fun frun nrun trun => andE4 fun drun1 drun2 drun3 drun4 => ?_
  have run1 := W.run1
  have mk1 := W.mk1
  refine exE4 W.mk2 fun fmk nmk imk tmk => andE3 fun mk2 mk3 mk4 => ?_
  have s1 := W.s1
  refine exE8 W.s2 fun fsc nsc isc tsc usc vsc gth nth => andE10 fun s2 s3 s4' s5 th1 th2 th3 th4 th5 th6 => ?_
  have s4 : fsc "place" = some (.ref p) := hpl _ _ s2
  have hr1 := W.r1 lv hlv
  have hr0 := W.r1 0 (by decide)
  refine exE5 (W.r2 lv hlv) fun fr nr kr tr ur => andE6 fun hr2 hr3 hr4 hr5 hr6 hr7 => ?_
  refine exE3 W.r3 fun f0 n0 t0 => andE3 fun r01 r02 r03 => ?_
  refine exE2 (W.c1 lv hlv) fun gc nc => andE3 fun hc1 hc2 hc3 => ?_
  refine exE1 (W.n1 lv hlv) fun nn => andE2 fun hn1 hn2 => ?_
  have hf1 := W.f1 lv hlv
  refine exE2 (W.f2 lv hlv) fun ffr nfr => andE3 fun hf2 hf3 hf4 => ?_
  have hidx : ∃ c, (seqIndex? ((code.fdiv 12).fmod 2) (Str.ofString "ab").length).bind ((Str.ofString "ab").cps[·]?) = some c ∧ Nm ⟨#[c]⟩ := by
    have : (code.fdiv 12).fmod 2 = 0 ∨ (code.fdiv 12).fmod 2 = 1 := by
      rw [Int.fmod_eq_emod_of_nonneg _ (by decide)]; omega
    rcases this with e | e <;> rw [e]
    · exact ⟨97, by decide +kernel, .inl (by decide +kernel)⟩
    · exact ⟨98, by decide +kernel, .inr (by decide +kernel)⟩
  refine exE1 hidx fun ch => andE2 fun hch hnm0 => ?_
  have hrange : (decide ((code.fdiv 12).fmod 2 < -(2 ^ 63 : Int)) || decide ((code.fdiv 12).fmod 2 ≥ 2 ^ 63)) = false := by
    rw [Int.fmod_eq_emod_of_nonneg _ (by decide)]
    simp
    omega
  refine exE1 (⟨_, rfl, hnm0⟩ : ∃ nm, (⟨#[ch]⟩ : Str) = nm ∧ Nm nm) fun nm => andE2 fun hnmE hnm => ?_
  clear hnm0
  have hdot : (Builtin.Str.occurrences nm "." 0 nm.length 1).isEmpty = true := by
    rcases hnm with e | e <;> (subst e; decide +kernel)
  have hlen : nm.length ≤ 100 := by
    rcases hnm with e | e <;> (subst e; decide +kernel)
  have hcn := hc3 nm
  refine Fn_less ?_
  refine' Fn_pos ["run", "scope", "frame", "at", "code"] ?zho ?zhcd ?zhroom ?zhbind ?zhloc ?zhco ?zhgen ?zhk ?zhcell ?_
  walk_at "enter"
  intro L1 E1 stk1
  refine' W_mg5 "run" "scope" "frame" "at" "code" (v0 := .ref C.run)  (v1 := .ref C.s)  (v2 := .ref (C.fr lv))  (v3 := .int (k : Int) uk)  (v4 := .int code uc) ?zm0 ?zm1 ?zm2 ?zm3 ?zm4 ?_
  case zm0 => exact rfl
  case zm1 => exact rfl
  case zm2 => exact rfl
  case zm3 => exact rfl
  case zm4 => exact rfl
  intro m1 e0 e1 e2 e3 e4
  repeat walk_at "st"
  refine W_tup 0 ?_
  repeat walk_at "st"
  refine' W_tailS hrange hch (fun _ => ?_) ?zhs
  case zhs => with_unfolding_all rfl
  rw [hnmE]
  repeat walk_at "st"
  refine ⟨(by show 4 ≤ 1000; decide), ?_⟩
  intro tb htb
  refine' W_untup (by exact hh) (by walk_at "lk") rfl rfl ?_
  refine W_inord ?_
  repeat walk_at "st"
  refine W_inord ?_
  repeat walk_at "st"
  refine W_inord ?_
  repeat walk_at "st"
  refine W_inord ?_
  repeat walk_at "st"
  refine W_inord0 ?_
  refine W_less (Le.fresh htb) ?_
  clear htb
  refine gen1 (decide (0 < (code.fdiv 24).fmod 4)) fun bl => ?_
  refine gen1 ((code.fdiv 96).fmod 2 == 1) fun bm => ?_
  rw [hsort]
  repeat walk_at "st"
  refine W_call (new_Entity 318 3180 (by show A.depth + 1 ≤ _; omega) ?_)
  intro e de j1 j2 j3 fe he hde hed k1 k2 k3 k4 k5 k6 k7 k8 k9 ka kb
  repeat walk_at "st"
  refine W_call (c_declare_ready (by show A.depth + 1 ≤ _; omega) (by show A.units + 3 ≤ _; omega) (by exact hh) (by walk_at "lk") (by walk_at "lk") p3 p4 p5 p6 rfl p7 p8 (by walk_at "lk") (by walk_at "lk") hr3 hr4 hr7 (by walk_at "lk") (by omega) (by walk_at "lk") (by walk_at "lk") r02 pd (by walk_at "lk") (by walk_at "lk") (by walk_at "lk") (by walk_at "lk") k1 k2 k6 k5 k7 k8 kb (by decide +kernel) hdot hlen hcn.1 (by omega) hcn.2.2 ?_)
  intro b w1 w2 fe' w4 w5 z1 z2 z3 _
  repeat walk_at "st"
  refine W_call (c_make_cell (by show A.depth + 1 ≤ _; omega) (by walk_at "lk") (by walk_at "lk") mk3 fun x d w6 fc hx hd hxd hxm hdm hfc => ?_)
  revert hx hd
  walk_at "split"
  repeat walk_at "st"
  refine' W_setS (by walk_at "lk") (by omega) ?_
  repeat walk_at "st"
  refine W_tup 0 ?_
  repeat walk_at "st"
  refine ⟨(by show 4 ≤ 1000; decide), ?_⟩
  intro r4 hr4'
  revert hr4'
  walk_at "split"
  repeat walk_at "st"
  refine ⟨_, Le.rfl', ?_⟩
  refine Told.fin (laid := true) H W hk hlv hnm (fup (gn lv) (ukey nm (cnt lv nm)) (.ref x)) [bn, bo] (by walk_at "keep") ?_ ?_ ?_ ⟨_, by walk_at "lk", by omega⟩ ⟨_, _, _, _, by walk_at "lk", fup_eq _ _ _, by rw [fup_ne (by decide)]; exact mk4⟩ ?_ ?_ ?_
  · intro b' hb'
    simp only [List.mem_cons, List.not_mem_nil, or_false] at hb'
    rcases hb' with rfl | rfl
    · exact ⟨_, _, pb, .inl rfl⟩
    · exact ⟨_, _, pc, .inr rfl⟩
  · intro f n h
    rw [r01] at h
    cases h
    exact ⟨w1, by walk_at "lk"⟩
  · intro g n h
    rw [hc1] at h
    cases h
    exact ⟨w2, by walk_at "lk"⟩
  · exact exI8 fsc nsc isc tsc usc vsc gth nth ⟨by walk_at "lk", s3, s4', s5, by walk_at "lk", by omega, th3, by omega, th5, fun z hz => th6 z (by omega)⟩
  · intro key h1 h2
    exact fup_ne h1
  · refine exI14 0 _ e de p dp .none fe' fp 17 np _ _ _ ⟨by walk_at "lk", by walk_at "lk", by walk_at "lk", z3, z1, by walk_at "lk", by walk_at "lk", pa, pd, .inl ⟨rfl, rfl, ⟨nm, cnt lv nm, hnm, hcn.1, cntW_lt, rfl⟩, ifRef (gnW_at (fup_eq _ _ _)) (exI4 d fc 3 _ ⟨by walk_at "lk", by walk_at "lk", hfc⟩)⟩⟩
end
theorem Wd.freshU {C : Con} {k : Nat} {led : Led} {gn : Nat → Fld} {cnt : Nat → Str → Int} (W : Wd C k (4 + 2 * (k : Int)) led gn cnt) (hk : k < 13) {lv : Nat} (hlv : lv < 3) {nm : Str} (hnm : Nm nm) : gn lv (ukey nm (cnt lv nm)) = none := by
  obtain ⟨g, n, _, _, hc⟩ := W.c1 lv hlv
  have h0 := hc nm
  cases q : gn lv (ukey nm (cnt lv nm)) with
  | none => rfl
  | some v =>
    exfalso
    rcases W.u1 lv _ (by rw [q]; exact fun z => nomatch z) with ⟨y, c, h1, h2, h3, h4⟩ | ⟨y, c, h1, h2, h3, h4⟩
    · have h5 := hc y
      obtain ⟨rfl, rfl⟩ := ukey_inj hnm h1 h0.1 (by omega) h2 (by omega) h4
      omega
    · exact ukey_whole hnm h1 h0.1 (by omega) h2 (by omega) h4
theorem Wd.freshW {C : Con} {k : Nat} {led : Led} {gn : Nat → Fld} {cnt : Nat → Str → Int} (W : Wd C k (4 + 2 * (k : Int)) led gn cnt) (hk : k < 13) {nm : Str} (hnm : Nm nm) (l : Nat) : gn l (whole nm (4 + 2 * (k : Int) + 1)) = none := by
  cases q : gn l (whole nm (4 + 2 * (k : Int) + 1)) with
  | none => rfl
  | some v =>
    exfalso
    rcases W.u1 l _ (by rw [q]; exact fun z => nomatch z) with ⟨y, c, h1, h2, h3, h4⟩ | ⟨y, c, h1, h2, h3, h4⟩
    · have := W.cb l y
      exact ukey_whole h1 hnm h2 (by omega) (by omega) (by omega) h4.symm
    · have := whole_inj hnm h1 (by omega) (by omega) h2 (by omega) h4
      omega
section
variable {G : Gd} {A : Around} {stk : List (Addr × Hid)} {L : Addr} {m : Fld} {led : Led} {E : Value → Shared → Prop}
set_option maxRecDepth 100000
set_option maxHeartbeats 4000000
theorem W_unary2 {Q : Value → Fld → Led → Prop} {e : Expr} {op : UnaryOp} {env : Env} {pos : Pos} (H : W G A stk L m led (eval e env) (fun v m1 led1 => W G A stk L m1 led1 (unaryOp op v) Q E) E) : W G A stk L m led (eval (.UnaryOp op e pos) env) Q E := fun _ _ I =>
  wpAny_UnaryOp (H.use I fun _ h' tk' _ _ I' q => q h' tk' I')
theorem c_told3 {Q : Value → Led → Prop} (hA : A.depth ≤ 660) (hU : A.units ≤ 7200) (hh : A.handled = none) {C : Con} {k lv : Nat} {gn : Nat → Fld} {cnt : Nat → Str → Int} (W : Wd C k (4 + 2 * (k : Int)) led gn cnt) (hk : k < 13) (hlv : lv < 3)
    {p dp bn bo : Addr} {fp : Fld} {np : Nat} {u1 u2 u3 u4 uk uc : Tok} {pn code : Int} (p1 : led p = some (428, .inst 428 dp)) (p2 : led dp = some (4280, .attrs fp np)) (p3 : fp "kind" = some (.str "package" u1)) (p4 : fp "parent" = some (.ref (C.reg lv))) (p5 : fp "root" = some (.ref (C.reg 0)))
    (p6 : fp "part" = some (.str "visible" u2)) (p7 : fp "names" = some (.ref bn)) (p8 : fp "order" = some (.ref bo)) (p9 : fp "number" = some (.int pn u3)) (pa : fp "level" = some (.int (lv : Int) u4)) (pb : led bn = some (1001, .sd (fun _ => none) 0)) (pc : led bo = some (1002, .list [])) (pd : dp ≠ C.dreg 0)
    (hpl : ∀ f n, led C.ds = some (2900, .attrs f n) → f "place" = some (.ref p)) (hc0 : 0 ≤ code) (hsort : (code.fdiv 3).fmod 4 = 3) (H : Told C k lv led gn cnt Q) :
    FnC G A stk L m led (.ref 605) [.ref C.run, .ref C.s, .ref (C.fr lv), .int (k : Int) uk, .int code uc] Q E := by
  refine exE3 W.run2 fun frun nrun trun => andE4 fun drun1 drun2 drun3 drun4 => ?_
  have run1 := W.run1
  have mk1 := W.mk1
  refine exE4 W.mk2 fun fmk nmk imk tmk => andE3 fun mk2 mk3 mk4 => ?_
  have s1 := W.s1
  refine exE8 W.s2 fun fsc nsc isc tsc usc vsc gth nth => andE10 fun s2 s3 s4' s5 th1 th2 th3 th4 th5 th6 => ?_
  have s4 : fsc "place" = some (.ref p) := hpl _ _ s2
  have hr1 := W.r1 lv hlv
  have hr0 := W.r1 0 (by decide)
  refine exE5 (W.r2 lv hlv) fun fr nr kr tr ur => andE6 fun hr2 hr3 hr4 hr5 hr6 hr7 => ?_
  refine exE3 W.r3 fun f0 n0 t0 => andE3 fun r01 r02 r03 => ?_
  refine exE2 (W.c1 lv hlv) fun gc nc => andE3 fun hc1 hc2 hc3 => ?_
  refine exE1 (W.n1 lv hlv) fun nn => andE2 fun hn1 hn2 => ?_
  have hf1 := W.f1 lv hlv
  refine exE2 (W.f2 lv hlv) fun ffr nfr => andE3 fun hf2 hf3 hf4 => ?_
  have hidx : ∃ c, (seqIndex? ((code.fdiv 12).fmod 2) (Str.ofString "ab").length).bind ((Str.ofString "ab").cps[·]?) = some c ∧ Nm ⟨#[c]⟩ := by
    have : (code.fdiv 12).fmod 2 = 0 ∨ (code.fdiv 12).fmod 2 = 1 := by
      rw [Int.fmod_eq_emod_of_nonneg _ (by decide)]; omega
    rcases this with e | e <;> rw [e]
    · exact ⟨97, by decide +kernel, .inl (by decide +kernel)⟩
    · exact ⟨98, by decide +kernel, .inr (by decide +kernel)⟩
  refine exE1 hidx fun ch => andE2 fun hch hnm0 => ?_
  have hrange : (decide ((code.fdiv 12).fmod 2 < -(2 ^ 63 : Int)) || decide ((code.fdiv 12).fmod 2 ≥ 2 ^ 63)) = false := by
    rw [Int.fmod_eq_emod_of_nonneg _ (by decide)]
    simp
    omega
  refine exE1 (⟨_, rfl, hnm0⟩ : ∃ nm, (⟨#[ch]⟩ : Str) = nm ∧ Nm nm) fun nm => andE2 fun hnmE hnm => ?_
  clear hnm0
  have hdot : (Builtin.Str.occurrences nm "." 0 nm.length 1).isEmpty = true := by
    rcases hnm with e | e <;> (subst e; decide +kernel)
  have hlen : nm.length ≤ 100 := by
    rcases hnm with e | e <;> (subst e; decide +kernel)
  have hcn := hc3 nm
  refine Fn_less ?_
  refine' Fn_pos ["run", "scope", "frame", "at", "code"] ?zho ?zhcd ?zhroom ?zhbind ?zhloc ?zhco ?zhgen ?zhk ?zhcell ?_
  walk_at "enter"
  intro L1 E1 stk1
  refine' W_mg5 "run" "scope" "frame" "at" "code" (v0 := .ref C.run)  (v1 := .ref C.s)  (v2 := .ref (C.fr lv))  (v3 := .int (k : Int) uk)  (v4 := .int code uc) ?zm0 ?zm1 ?zm2 ?zm3 ?zm4 ?_
  case zm0 => exact rfl
  case zm1 => exact rfl
  case zm2 => exact rfl
  case zm3 => exact rfl
  case zm4 => exact rfl
  intro m1 e0 e1 e2 e3 e4
  repeat walk_at "st"
  refine W_tup 0 ?_
  repeat walk_at "st"
  refine' W_tailS hrange hch (fun _ => ?_) ?zhs
  case zhs => with_unfolding_all rfl
  rw [hnmE]
  repeat walk_at "st"
  refine ⟨(by show 4 ≤ 1000; decide), ?_⟩
  intro tb htb
  refine' W_untup (by exact hh) (by walk_at "lk") rfl rfl ?_
  refine W_inord ?_
  repeat walk_at "st"
  refine W_inord ?_
  repeat walk_at "st"
  refine W_inord ?_
  repeat walk_at "st"
  refine W_inord ?_
  repeat walk_at "st"
  refine W_inord0 ?_
  refine W_less (Le.fresh htb) ?_
  clear htb
  refine gen1 (decide (0 < (code.fdiv 24).fmod 4)) fun bl => ?_
  refine gen1 ((code.fdiv 96).fmod 2 == 1) fun bm => ?_
  rw [hsort]
  repeat walk_at "st"
  refine W_call (new_Sub 269 2690 (by show A.depth + 1 ≤ _; omega) ?_)
  intro sb sd sbp sbc su1 su2 fsb hsb hsd hsbd q1 q2 q3 q4 q5 q6
  repeat walk_at "st"
  refine W_tup 0 ?_
  repeat walk_at "st"
  refine W_tup 0 ?_
  repeat walk_at "st"
  refine ⟨(by decide), ?_⟩
  intro ta hta
  repeat walk_at "st"
  refine W_unary2 ?_
  repeat walk_at "st"
  refine ⟨(by show 2 ≤ 1000; decide), ?_⟩
  intro tb htb
  refine W_less (Le.trans (Le.fresh hta) (Le.fresh htb)) ?_
  clear hta htb
  repeat walk_at "st"
  refine W_call (new_Entity 318 3180 (by show A.depth + 1 ≤ _; omega) ?_)
  intro e de j1 j2 j3 fe he hde hed k1 k2 k3 k4 k5 k6 k7 k8 k9 ka kb
  revert he hde
  walk_at "split"
  repeat walk_at "st"
  refine W_call (c_declare_ready (by show A.depth + 1 ≤ _; omega) (by show A.units + 3 ≤ _; omega) (by exact hh) (by walk_at "lk") (by walk_at "lk") p3 p4 p5 p6 rfl p7 p8 (by walk_at "lk") (by walk_at "lk") hr3 hr4 hr7 (by walk_at "lk") (by omega) (by walk_at "lk") (by walk_at "lk") r02 pd (by walk_at "lk") (by walk_at "lk") (by walk_at "lk") (by walk_at "lk") k1 k2 k6 k5 k7 k8 kb (by decide +kernel) hdot hlen hcn.1 (by omega) hcn.2.2 ?_)
  intro b w1 w2 fe' w4 w5 z1 z2 z3 _
  repeat walk_at "st"
  cases bl with
  | false =>
    repeat walk_at "st"
    refine W_tup 0 ?_
    repeat walk_at "st"
    refine ⟨(by show 4 ≤ 1000; decide), ?_⟩
    intro r4 hr4'
    revert hr4'
    walk_at "split"
    repeat walk_at "st"
    refine ⟨_, Le.rfl', ?_⟩
    refine Told.fin (laid := false) H W hk hlv hnm (gn lv) [bn, bo] (by walk_at "keep") ?_ ?_ ?_ ⟨nn, by walk_at "lk", by omega⟩ ⟨fmk, nmk, imk, tmk, by walk_at "lk", mk3, mk4⟩ ?_ ?_ ?_
    · intro b' hb'
      simp only [List.mem_cons, List.not_mem_nil, or_false] at hb'
      rcases hb' with rfl | rfl
      · exact ⟨_, _, pb, .inl rfl⟩
      · exact ⟨_, _, pc, .inr rfl⟩
    · intro f n h
      rw [r01] at h
      cases h
      exact ⟨w1, by walk_at "lk"⟩
    · intro g n h
      rw [hc1] at h
      cases h
      exact ⟨w2, by walk_at "lk"⟩
    · exact exI8 fsc nsc isc tsc usc vsc gth nth ⟨by walk_at "lk", s3, s4', s5, by walk_at "lk", by omega, th3, by omega, th5, fun z hz => th6 z (by omega)⟩
    · intro key h1 h2
      rfl
    · refine exI14 3 _ e de p dp .none fe' fp 17 np _ _ _ ⟨by walk_at "lk", by walk_at "lk", by walk_at "lk", z3, z1, by walk_at "lk", by walk_at "lk", pa, pd, .inr (.inr (.inr ⟨rfl, ⟨nm, cnt lv nm, hnm, hcn.1, cntW_lt, rfl⟩, gnW_at (W.freshU hk hlv hnm)⟩))⟩
  | true =>
    repeat walk_at "st"
    refine W_call (new_SubThing 229 2290 (by show A.depth + 1 ≤ _; omega) fun x d fc hx hd hxd hfc => ?_)
    revert hx hd
    walk_at "split"
    repeat walk_at "st"
    refine' W_setS (by walk_at "lk") (by omega) ?_
    repeat walk_at "st"
    refine W_tup 0 ?_
    repeat walk_at "st"
    refine ⟨(by show 4 ≤ 1000; decide), ?_⟩
    intro r4 hr4'
    revert hr4'
    walk_at "split"
    repeat walk_at "st"
    refine ⟨_, Le.rfl', ?_⟩
    refine Told.fin (laid := true) H W hk hlv hnm (fup (gn lv) (ukey nm (cnt lv nm)) (.ref x)) [bn, bo] (by walk_at "keep") ?_ ?_ ?_ ⟨_, by walk_at "lk", by omega⟩ ⟨fmk, nmk, imk, tmk, by walk_at "lk", mk3, mk4⟩ ?_ ?_ ?_
    · intro b' hb'
      simp only [List.mem_cons, List.not_mem_nil, or_false] at hb'
      rcases hb' with rfl | rfl
      · exact ⟨_, _, pb, .inl rfl⟩
      · exact ⟨_, _, pc, .inr rfl⟩
    · intro f n h
      rw [r01] at h
      cases h
      exact ⟨w1, by walk_at "lk"⟩
    · intro g n h
      rw [hc1] at h
      cases h
      exact ⟨w2, by walk_at "lk"⟩
    · exact exI8 fsc nsc isc tsc usc vsc gth nth ⟨by walk_at "lk", s3, s4', s5, by walk_at "lk", by omega, th3, by omega, th5, fun z hz => th6 z (by omega)⟩
    · intro key h1 h2
      exact fup_ne h1
    · refine exI14 3 _ e de p dp .none fe' fp 17 np _ _ _ ⟨by walk_at "lk", by walk_at "lk", by walk_at "lk", z3, z1, by walk_at "lk", by walk_at "lk", pa, pd, .inr (.inr (.inr ⟨rfl, ⟨nm, cnt lv nm, hnm, hcn.1, cntW_lt, rfl⟩, ifRef (gnW_at (fup_eq _ _ _)) (exI8 d fc 3 sb sd _ 11 uk ⟨by walk_at "lk", by walk_at "lk", hfc, by walk_at "lk", by walk_at "lk", by walk_at "fl"⟩)⟩))⟩
end
theorem Keep.trans {M M' : List Addr} {l1 l2 l3 : Led} (h : Keep M l1 l2) (k : Keep M' l2 l3) (hs : ∀ a, a ∈ M → a ∈ M') : Keep M' l1 l3 := fun a x hx ha => k a x (h a x hx fun q => ha (hs a q)) ha
section
variable {G : Gd} {A : Around} {stk : List (Addr × Hid)} {L : Addr} {m : Fld} {led : Led} {E : Value → Shared → Prop}
set_option maxRecDepth 100000
set_option maxHeartbeats 4000000
theorem c_told1 {Q : Value → Led → Prop} (hA : A.depth ≤ 660) (hU : A.units ≤ 7200) (hh : A.handled = none) {C : Con} {k lv : Nat} {gn : Nat → Fld} {cnt : Nat → Str → Int} (W : Wd C k (4 + 2 * (k : Int)) led gn cnt) (hk : k < 13) (hlv : lv < 3)
    {p dp bn bo : Addr} {fp : Fld} {np : Nat} {u1 u2 u3 u4 uk uc : Tok} {pn code : Int} (p1 : led p = some (428, .inst 428 dp)) (p2 : led dp = some (4280, .attrs fp np)) (p3 : fp "kind" = some (.str "package" u1)) (p4 : fp "parent" = some (.ref (C.reg lv))) (p5 : fp "root" = some (.ref (C.reg 0)))
    (p6 : fp "part" = some (.str "visible" u2)) (p7 : fp "names" = some (.ref bn)) (p8 : fp "order" = some (.ref bo)) (p9 : fp "number" = some (.int pn u3)) (pa : fp "level" = some (.int (lv : Int) u4)) (pb : led bn = some (1001, .sd (fun _ => none) 0)) (pc : led bo = some (1002, .list [])) (pd : dp ≠ C.dreg 0)
    (hpl : ∀ f n, led C.ds = some (2900, .attrs f n) → f "place" = some (.ref p)) (hc0 : 0 ≤ code) (hsort : (code.fdiv 3).fmod 4 = 1) (H : Told C k lv led gn cnt Q) :
    FnC G A stk L m led (.ref 605) [.ref C.run, .ref C.s, .ref (C.fr lv), .int (k : Int) uk, .int code uc] Q E := by
  refine exE3 W.run2 fun frun nrun trun => andE4 fun drun1 drun2 drun3 drun4 => ?_
  have run1 := W.run1
  have mk1 := W.mk1
  refine exE4 W.mk2 fun fmk nmk imk tmk => andE3 fun mk2 mk3 mk4 => ?_
  have s1 := W.s1
  refine exE8 W.s2 fun fsc nsc isc tsc usc vsc gth nth => andE10 fun s2 s3 s4' s5 th1 th2 th3 th4 th5 th6 => ?_
  have s4 : fsc "place" = some (.ref p) := hpl _ _ s2
  have hr1 := W.r1 lv hlv
  have hr0 := W.r1 0 (by decide)
  refine exE5 (W.r2 lv hlv) fun fr nr kr tr ur => andE6 fun hr2 hr3 hr4 hr5 hr6 hr7 => ?_
  refine exE3 W.r3 fun f0 n0 t0 => andE3 fun r01 r02 r03 => ?_
  refine exE2 (W.c1 lv hlv) fun gc nc => andE3 fun hc1 hc2 hc3 => ?_
  refine exE1 (W.n1 lv hlv) fun nn => andE2 fun hn1 hn2 => ?_
  have hf1 := W.f1 lv hlv
  refine exE2 (W.f2 lv hlv) fun ffr nfr => andE3 fun hf2 hf3 hf4 => ?_
  have hidx : ∃ c, (seqIndex? ((code.fdiv 12).fmod 2) (Str.ofString "ab").length).bind ((Str.ofString "ab").cps[·]?) = some c ∧ Nm ⟨#[c]⟩ := by
    have : (code.fdiv 12).fmod 2 = 0 ∨ (code.fdiv 12).fmod 2 = 1 := by
      rw [Int.fmod_eq_emod_of_nonneg _ (by decide)]; omega
    rcases this with e | e <;> rw [e]
    · exact ⟨97, by decide +kernel, .inl (by decide +kernel)⟩
    · exact ⟨98, by decide +kernel, .inr (by decide +kernel)⟩
  refine exE1 hidx fun ch => andE2 fun hch hnm0 => ?_
  have hrange : (decide ((code.fdiv 12).fmod 2 < -(2 ^ 63 : Int)) || decide ((code.fdiv 12).fmod 2 ≥ 2 ^ 63)) = false := by
    rw [Int.fmod_eq_emod_of_nonneg _ (by decide)]
    simp
    omega
  refine exE1 (⟨_, rfl, hnm0⟩ : ∃ nm, (⟨#[ch]⟩ : Str) = nm ∧ Nm nm) fun nm => andE2 fun hnmE hnm => ?_
  clear hnm0
  have hdot : (Builtin.Str.occurrences nm "." 0 nm.length 1).isEmpty = true := by
    rcases hnm with e | e <;> (subst e; decide +kernel)
  have hlen : nm.length ≤ 100 := by
    rcases hnm with e | e <;> (subst e; decide +kernel)
  have hcn := hc3 nm
  refine Fn_less ?_
  refine' Fn_pos ["run", "scope", "frame", "at", "code"] ?zho ?zhcd ?zhroom ?zhbind ?zhloc ?zhco ?zhgen ?zhk ?zhcell ?_
  walk_at "enter"
  intro L1 E1 stk1
  refine' W_mg5 "run" "scope" "frame" "at" "code" (v0 := .ref C.run)  (v1 := .ref C.s)  (v2 := .ref (C.fr lv))  (v3 := .int (k : Int) uk)  (v4 := .int code uc) ?zm0 ?zm1 ?zm2 ?zm3 ?zm4 ?_
  case zm0 => exact rfl
  case zm1 => exact rfl
  case zm2 => exact rfl
  case zm3 => exact rfl
  case zm4 => exact rfl
  intro m1 e0 e1 e2 e3 e4
  repeat walk_at "st"
  refine W_tup 0 ?_
  repeat walk_at "st"
  refine' W_tailS hrange hch (fun _ => ?_) ?zhs
  case zhs => with_unfolding_all rfl
  rw [hnmE]
  repeat walk_at "st"
  refine ⟨(by show 4 ≤ 1000; decide), ?_⟩
  intro tb htb
  refine' W_untup (by exact hh) (by walk_at "lk") rfl rfl ?_
  refine W_inord ?_
  repeat walk_at "st"
  refine W_inord ?_
  repeat walk_at "st"
  refine W_inord ?_
  repeat walk_at "st"
  refine W_inord ?_
  repeat walk_at "st"
  refine W_inord0 ?_
  refine W_less (Le.fresh htb) ?_
  clear htb
  refine gen1 (decide (0 < (code.fdiv 24).fmod 4)) fun bl => ?_
  refine gen1 ((code.fdiv 96).fmod 2 == 1) fun bm => ?_
  rw [hsort]
  repeat walk_at "st"
  refine W_list 0 ?_
  repeat walk_at "st"
  refine ⟨(by show 2 ≤ 1000; decide), ?_⟩
  intro ll hll
  repeat walk_at "st"
  have hix : 0 ≤ (code.fdiv 192).fmod 2 ∧ (code.fdiv 192).fmod 2 < 2 := by
    rw [Int.fmod_eq_emod_of_nonneg _ (by decide)]; omega
  have hek : ∀ w w', ∃ ek tk, [Value.str "task" w, Value.str "protected" w'][((code.fdiv 192).fmod 2).toNat]? = some (.str ek tk) ∧ (ek == Str.ofString "exception") = false := by
    intro w w'
    have : (code.fdiv 192).fmod 2 = 0 ∨ (code.fdiv 192).fmod 2 = 1 := by omega
    rcases this with z | z <;> rw [z]
    · exact ⟨_, _, rfl, by decide +kernel⟩
    · exact ⟨_, _, rfl, by decide +kernel⟩
  obtain ⟨ek, tk, hek1, hek2⟩ := hek _ _
  refine' W_tailL (by walk_at "lk") hix.1 (by omega) hek1 ?_ ?zhs
  case zhs => with_unfolding_all rfl
  repeat walk_at "st"
  refine W_less (Le.fresh hll) ?_
  clear hll
  refine W_call (c_new_type_entity (by show A.depth + 1 ≤ _; omega) (by show A.units + 3 ≤ _; omega) (by exact hh) (by walk_at "lk") (by walk_at "lk") s3 s4 s5 rfl (by walk_at "lk") (by walk_at "lk") p3 p4 p5 p6 rfl p7 p8 (by walk_at "lk") (by walk_at "lk") hr3 hr4 hr7 (by walk_at "lk") (by omega) (by walk_at "lk") (by walk_at "lk") r02 pd r03 (by walk_at "lk") (by omega) (th5 _ (by omega) (by omega)) (by walk_at "lk") (by walk_at "lk") hek2 hdot hlen hcn.1 (by omega) hcn.2.2 (by omega) (by omega) ?_)
  intro v e de t dt q fe ft w1 w2 w3 w4 w5 w6 led2 f1 f2 f3 f4 f5 f6 f7 f8 f9 z1 z2 z3 z4 hKn
  have hold : led (C.dreg 0) = some (4280, .attrs f0 n0) ∧ led (C.cd lv) = some (1003, .sd gc nc) ∧ led bn = some (1001, .sd (fun _ => none) 0) ∧ led bo = some (1002, .list []) := ⟨r01, hc1, pb, pc⟩
  have g1 := hKn _ _ run1 (by walk_at "notin")
  have g2 := hKn _ _ drun1 (by walk_at "notin")
  have g3 := hKn _ _ mk1 (by walk_at "notin")
  have g4 := hKn _ _ mk2 (by walk_at "notin")
  have g5 := hKn _ _ hf1 (by walk_at "notin")
  have g6 := hKn _ _ hf2 (by walk_at "notin")
  have g7 := hKn _ _ hn1 (by walk_at "notin")
  have g8 := hKn _ _ p1 (by walk_at "notin")
  have g9 := hKn _ _ p2 (by walk_at "notin")
  have z4' : ft "name" = some (.str (whole nm (4 + 2 * (k : Int) + 1)) w6) := z4
  have hwu : whole nm (4 + 2 * (k : Int) + 1) ≠ ukey nm (cnt lv nm) := fun z => ukey_whole hnm hnm hcn.1 (by omega) (by omega) (by omega) z.symm
  have hsub : ∀ a, a ∈ [C.dreg 0, C.cd lv, bn, bo, C.th, C.ds] → a ∈ [C.dreg 0, C.cd lv, C.nd lv, C.dcm, C.ds, C.th, bn, bo] := by
    intro a ha
    simp only [List.mem_cons, List.not_mem_nil, or_false] at ha ⊢
    rcases ha with h | h | h | h | h | h <;> simp [h]
  have hbs' : ∀ b ∈ [bn, bo], ∃ t o, led b = some (t, o) ∧ (t = 1001 ∨ t = 1002) := by
    intro b' hb'
    simp only [List.mem_cons, List.not_mem_nil, or_false] at hb'
    rcases hb' with rfl | rfl
    · exact ⟨_, _, hold.2.2.1, .inl rfl⟩
    · exact ⟨_, _, hold.2.2.2, .inr rfl⟩
  clear z4 r01 hc1 pb pc run1 drun1 mk1 mk2 hf1 hf2 hn1 p1 p2 s1 s2 th1 hr1 hr0 hr2
  refine' W_untup (by exact hh) (by walk_at "lk") rfl rfl ?_
  refine W_inord ?_
  repeat walk_at "st"
  refine W_inord ?_
  repeat walk_at "st"
  refine W_inord0 ?_
  repeat walk_at "st"
  cases bm with
  | true =>
    repeat walk_at "st"
    cases bl with
    | true =>
      repeat walk_at "st"
      refine W_call (new_BodyThing 587 5870 (by show A.depth + 1 ≤ _; omega) fun y dy fy hy hdy hydy hfy => ?_)
      revert hy hdy
      walk_at "split"
      repeat walk_at "st"
      refine' W_setS (by walk_at "lk") (by omega) ?_
      repeat walk_at "st"
      refine W_tup 0 ?_
      repeat walk_at "st"
      refine ⟨(by show 4 ≤ 1000; decide), ?_⟩
      intro r4 hr4'
      revert hr4'
      walk_at "split"
      repeat walk_at "st"
      refine ⟨_, Le.rfl', ?_⟩
      refine Told.fin (laid := true) H W hk hlv hnm (fup (gn lv) (whole nm (4 + 2 * (k : Int) + 1)) (.ref y)) [bn, bo] (Keep.trans hKn (by walk_at "keep") hsub) hbs' ?_ ?_ ⟨_, by walk_at "lk", by omega⟩ ⟨fmk, nmk, imk, tmk, by walk_at "lk", mk3, mk4⟩ ?_ ?_ ?_
      · intro f n h
        rw [hold.1] at h
        cases h
        exact ⟨w1, by walk_at "lk"⟩
      · intro g n h
        rw [hold.2.1] at h
        cases h
        exact ⟨w2, by walk_at "lk"⟩
      · refine exI8 _ nsc (isc + 1) w3 usc _ _ (nth + 1) ⟨by walk_at "lk", fup_eq _ _ _, (fup_ne (by decide)).trans s4', (fup_ne (by decide)).trans s5, by walk_at "lk", by omega, by omega, by omega, fun z h1 h2 => ?_, fun z h1 => ?_⟩
        · unfold iup; rw [if_neg (by omega)]; exact th5 z (by omega) h2
        · unfold iup; rw [if_neg (by omega)]; exact th6 z (by omega)
      · intro key h1 h2
        exact fup_ne h2
      · refine exI14 1 _ e de p dp _ fe fp 17 np _ _ _ ⟨by walk_at "lk", by walk_at "lk", by walk_at "lk", z3, z1, by walk_at "lk", by walk_at "lk", pa, pd, .inr (.inl ⟨rfl, exI2 _ _ ⟨rfl, ⟨nm, _, hnm, by omega, by omega, rfl⟩, fun l' hl => ?_, ifRef (gnW_at (fup_eq _ _ _)) (exI4 dy fy 2 _ ⟨by walk_at "lk", by walk_at "lk", hfy⟩)⟩⟩)⟩
        unfold gnW
        rw [if_neg hl]
        exact W.freshW hk hnm l'
    | false =>
      repeat walk_at "st"
      refine W_tup 0 ?_
      repeat walk_at "st"
      refine ⟨(by show 4 ≤ 1000; decide), ?_⟩
      intro r4 hr4'
      revert hr4'
      walk_at "split"
      repeat walk_at "st"
      refine ⟨_, Le.rfl', ?_⟩
      refine Told.fin (laid := false) H W hk hlv hnm (gn lv) [bn, bo] (Keep.trans hKn (by walk_at "keep") hsub) hbs' ?_ ?_ ⟨_, by walk_at "lk", by omega⟩ ⟨fmk, nmk, imk, tmk, by walk_at "lk", mk3, mk4⟩ ?_ ?_ ?_
      · intro f n h
        rw [hold.1] at h
        cases h
        exact ⟨w1, by walk_at "lk"⟩
      · intro g n h
        rw [hold.2.1] at h
        cases h
        exact ⟨w2, by walk_at "lk"⟩
      · refine exI8 _ nsc (isc + 1) w3 usc _ _ (nth + 1) ⟨by walk_at "lk", fup_eq _ _ _, (fup_ne (by decide)).trans s4', (fup_ne (by decide)).trans s5, by walk_at "lk", by omega, by omega, by omega, fun z h1 h2 => ?_, fun z h1 => ?_⟩
        · unfold iup; rw [if_neg (by omega)]; exact th5 z (by omega) h2
        · unfold iup; rw [if_neg (by omega)]; exact th6 z (by omega)
      · intro key h1 h2
        exact rfl
      · refine exI14 1 _ e de p dp _ fe fp 17 np _ _ _ ⟨by walk_at "lk", by walk_at "lk", by walk_at "lk", z3, z1, by walk_at "lk", by walk_at "lk", pa, pd, .inr (.inl ⟨rfl, exI2 _ _ ⟨rfl, ⟨nm, _, hnm, by omega, by omega, rfl⟩, fun l' hl => ?_, gnW_at (W.freshW hk hnm lv)⟩⟩)⟩
        unfold gnW
        rw [if_neg hl]
        exact W.freshW hk hnm l'
  | false =>
    repeat walk_at "st"
    cases bl with
    | true =>
      repeat walk_at "st"
      refine W_call (c_make_cell (by show A.depth + 1 ≤ _; omega) (by walk_at "lk") (by walk_at "lk") mk3 fun x d w7 fc hx hd hxd hxm hdm hfc => ?_)
      revert hx hd
      walk_at "split"
      repeat walk_at "st"
      refine' W_setS (by walk_at "lk") (by omega) ?_
      repeat walk_at "st"
      refine W_call (new_BodyThing 587 5870 (by show A.depth + 1 ≤ _; omega) fun y dy fy hy hdy hydy hfy => ?_)
      revert hy hdy
      walk_at "split"
      repeat walk_at "st"
      refine' W_setS (by walk_at "lk") (by omega) ?_
      repeat walk_at "st"
      refine W_tup 0 ?_
      repeat walk_at "st"
      refine ⟨(by show 4 ≤ 1000; decide), ?_⟩
      intro r4 hr4'
      revert hr4'
      walk_at "split"
      repeat walk_at "st"
      refine ⟨_, Le.rfl', ?_⟩
      refine Told.fin (laid := true) H W hk hlv hnm (fup (fup (gn lv) (ukey nm (cnt lv nm)) (.ref x)) (whole nm (4 + 2 * (k : Int) + 1)) (.ref y)) [bn, bo] (Keep.trans hKn (by walk_at "keep") hsub) hbs' ?_ ?_ ⟨_, by walk_at "lk", by omega⟩ ⟨_, _, _, _, by walk_at "lk", fup_eq _ _ _, by rw [fup_ne (by decide)]; exact mk4⟩ ?_ ?_ ?_
      · intro f n h
        rw [hold.1] at h
        cases h
        exact ⟨w1, by walk_at "lk"⟩
      · intro g n h
        rw [hold.2.1] at h
        cases h
        exact ⟨w2, by walk_at "lk"⟩
      · refine exI8 _ nsc (isc + 1) w3 usc _ _ (nth + 1) ⟨by walk_at "lk", fup_eq _ _ _, (fup_ne (by decide)).trans s4', (fup_ne (by decide)).trans s5, by walk_at "lk", by omega, by omega, by omega, fun z h1 h2 => ?_, fun z h1 => ?_⟩
        · unfold iup; rw [if_neg (by omega)]; exact th5 z (by omega) h2
        · unfold iup; rw [if_neg (by omega)]; exact th6 z (by omega)
      · intro key h1 h2
        exact (fup_ne h2).trans (fup_ne h1)
      · refine exI14 1 _ e de p dp _ fe fp 17 np _ _ _ ⟨by walk_at "lk", by walk_at "lk", by walk_at "lk", z3, z1, by walk_at "lk", by walk_at "lk", pa, pd, .inr (.inl ⟨rfl, exI2 _ _ ⟨rfl, ⟨nm, _, hnm, by omega, by omega, rfl⟩, fun l' hl => ?_, ifRef (gnW_at (fup_eq _ _ _)) (exI4 dy fy 2 _ ⟨by walk_at "lk", by walk_at "lk", hfy⟩)⟩⟩)⟩
        unfold gnW
        rw [if_neg hl]
        exact W.freshW hk hnm l'
    | false =>
      repeat walk_at "st"
      refine W_call (c_make_cell (by show A.depth + 1 ≤ _; omega) (by walk_at "lk") (by walk_at "lk") mk3 fun x d w7 fc hx hd hxd hxm hdm hfc => ?_)
      revert hx hd
      walk_at "split"
      repeat walk_at "st"
      refine' W_setS (by walk_at "lk") (by omega) ?_
      repeat walk_at "st"
      refine W_tup 0 ?_
      repeat walk_at "st"
      refine ⟨(by show 4 ≤ 1000; decide), ?_⟩
      intro r4 hr4'
      revert hr4'
      walk_at "split"
      repeat walk_at "st"
      refine ⟨_, Le.rfl', ?_⟩
      refine Told.fin (laid := false) H W hk hlv hnm (fup (gn lv) (ukey nm (cnt lv nm)) (.ref x)) [bn, bo] (Keep.trans hKn (by walk_at "keep") hsub) hbs' ?_ ?_ ⟨_, by walk_at "lk", by omega⟩ ⟨_, _, _, _, by walk_at "lk", fup_eq _ _ _, by rw [fup_ne (by decide)]; exact mk4⟩ ?_ ?_ ?_
      · intro f n h
        rw [hold.1] at h
        cases h
        exact ⟨w1, by walk_at "lk"⟩
      · intro g n h
        rw [hold.2.1] at h
        cases h
        exact ⟨w2, by walk_at "lk"⟩
      · refine exI8 _ nsc (isc + 1) w3 usc _ _ (nth + 1) ⟨by walk_at "lk", fup_eq _ _ _, (fup_ne (by decide)).trans s4', (fup_ne (by decide)).trans s5, by walk_at "lk", by omega, by omega, by omega, fun z h1 h2 => ?_, fun z h1 => ?_⟩
        · unfold iup; rw [if_neg (by omega)]; exact th5 z (by omega) h2
        · unfold iup; rw [if_neg (by omega)]; exact th6 z (by omega)
      · intro key h1 h2
        exact fup_ne h1
      · refine exI14 1 _ e de p dp _ fe fp 17 np _ _ _ ⟨by walk_at "lk", by walk_at "lk", by walk_at "lk", z3, z1, by walk_at "lk", by walk_at "lk", pa, pd, .inr (.inl ⟨rfl, exI2 _ _ ⟨rfl, ⟨nm, _, hnm, by omega, by omega, rfl⟩, fun l' hl => ?_, gnW_at ((fup_ne hwu).trans (W.freshW hk hnm lv))⟩⟩)⟩
        unfold gnW
        rw [if_neg hl]
        exact W.freshW hk hnm l'
end
theorem Keep.trans2 {M : List Addr} {l1 l2 l3 : Led} {z : Addr} (h : Keep M l1 l2) (hz : l1 z = none) (k : Keep (z :: M) l2 l3) : Keep M l1 l3 := fun a x hx ha => k a x (h a x hx ha) fun q => by
  rcases List.mem_cons.mp q with e | e
  · rw [e, hz] at hx; cases hx
  · exact ha e
section
variable {G : Gd} {A : Around} {stk : List (Addr × Hid)} {L : Addr} {m : Fld} {led : Led} {E : Value → Shared → Prop}
set_option maxRecDepth 100000
set_option maxHeartbeats 4000000
theorem W_gen {α : Type} {t : Sem α} {Q : α → Fld → Led → Prop} (P : Led → Prop) (h : P led) (H : ∀ l, P l → W G A stk L m l t Q E) : W G A stk L m led t Q E := H led h
theorem c_told2 {Q : Value → Led → Prop} (hA : A.depth ≤ 660) (hU : A.units ≤ 7200) (hh : A.handled = none) {C : Con} {k lv : Nat} {gn : Nat → Fld} {cnt : Nat → Str → Int} (W : Wd C k (4 + 2 * (k : Int)) led gn cnt) (hk : k < 13) (hlv : lv < 3)
    {p dp bn bo : Addr} {fp : Fld} {np : Nat} {u1 u2 u3 u4 uk uc : Tok} {pn code : Int} (p1 : led p = some (428, .inst 428 dp)) (p2 : led dp = some (4280, .attrs fp np)) (p3 : fp "kind" = some (.str "package" u1)) (p4 : fp "parent" = some (.ref (C.reg lv))) (p5 : fp "root" = some (.ref (C.reg 0)))
    (p6 : fp "part" = some (.str "visible" u2)) (p7 : fp "names" = some (.ref bn)) (p8 : fp "order" = some (.ref bo)) (p9 : fp "number" = some (.int pn u3)) (pa : fp "level" = some (.int (lv : Int) u4)) (pb : led bn = some (1001, .sd (fun _ => none) 0)) (pc : led bo = some (1002, .list [])) (pd : dp ≠ C.dreg 0)
    (hpl : ∀ f n, led C.ds = some (2900, .attrs f n) → f "place" = some (.ref p)) (hc0 : 0 ≤ code) (hsort : (code.fdiv 3).fmod 4 = 2) (H : Told C k lv led gn cnt Q) :
    FnC G A stk L m led (.ref 605) [.ref C.run, .ref C.s, .ref (C.fr lv), .int (k : Int) uk, .int code uc] Q E := by
  refine exE3 W.run2 fun frun nrun trun => andE4 fun drun1 drun2 drun3 drun4 => ?_
  have run1 := W.run1
  have mk1 := W.mk1
  refine exE4 W.mk2 fun fmk nmk imk tmk => andE3 fun mk2 mk3 mk4 => ?_
  have s1 := W.s1
  refine exE8 W.s2 fun fsc nsc isc tsc usc vsc gth nth => andE10 fun s2 s3 s4' s5 th1 th2 th3 th4 th5 th6 => ?_
  have s4 : fsc "place" = some (.ref p) := hpl _ _ s2
  have hr1 := W.r1 lv hlv
  have hr0 := W.r1 0 (by decide)
  refine exE5 (W.r2 lv hlv) fun fr nr kr tr ur => andE6 fun hr2 hr3 hr4 hr5 hr6 hr7 => ?_
  refine exE3 W.r3 fun f0 n0 t0 => andE3 fun r01 r02 r03 => ?_
  refine exE2 (W.c1 lv hlv) fun gc nc => andE3 fun hc1 hc2 hc3 => ?_
  refine exE1 (W.n1 lv hlv) fun nn => andE2 fun hn1 hn2 => ?_
  have hf1 := W.f1 lv hlv
  refine exE2 (W.f2 lv hlv) fun ffr nfr => andE3 fun hf2 hf3 hf4 => ?_
  have hidx : ∃ c, (seqIndex? ((code.fdiv 12).fmod 2) (Str.ofString "ab").length).bind ((Str.ofString "ab").cps[·]?) = some c ∧ Nm ⟨#[c]⟩ := by
    have : (code.fdiv 12).fmod 2 = 0 ∨ (code.fdiv 12).fmod 2 = 1 := by
      rw [Int.fmod_eq_emod_of_nonneg _ (by decide)]; omega
    rcases this with e | e <;> rw [e]
    · exact ⟨97, by decide +kernel, .inl (by decide +kernel)⟩
    · exact ⟨98, by decide +kernel, .inr (by decide +kernel)⟩
  refine exE1 hidx fun ch => andE2 fun hch hnm0 => ?_
  have hrange : (decide ((code.fdiv 12).fmod 2 < -(2 ^ 63 : Int)) || decide ((code.fdiv 12).fmod 2 ≥ 2 ^ 63)) = false := by
    rw [Int.fmod_eq_emod_of_nonneg _ (by decide)]
    simp
    omega
  refine exE1 (⟨_, rfl, hnm0⟩ : ∃ nm, (⟨#[ch]⟩ : Str) = nm ∧ Nm nm) fun nm => andE2 fun hnmE hnm => ?_
  clear hnm0
  have hdot : (Builtin.Str.occurrences nm "." 0 nm.length 1).isEmpty = true := by
    rcases hnm with e | e <;> (subst e; decide +kernel)
  have hlen : nm.length ≤ 100 := by
    rcases hnm with e | e <;> (subst e; decide +kernel)
  have hcn := hc3 nm
  refine Fn_less ?_
  refine' Fn_pos ["run", "scope", "frame", "at", "code"] ?zho ?zhcd ?zhroom ?zhbind ?zhloc ?zhco ?zhgen ?zhk ?zhcell ?_
  walk_at "enter"
  intro L1 E1 stk1
  refine' W_mg5 "run" "scope" "frame" "at" "code" (v0 := .ref C.run)  (v1 := .ref C.s)  (v2 := .ref (C.fr lv))  (v3 := .int (k : Int) uk)  (v4 := .int code uc) ?zm0 ?zm1 ?zm2 ?zm3 ?zm4 ?_
  case zm0 => exact rfl
  case zm1 => exact rfl
  case zm2 => exact rfl
  case zm3 => exact rfl
  case zm4 => exact rfl
  intro m1 e0 e1 e2 e3 e4
  repeat walk_at "st"
  refine W_tup 0 ?_
  repeat walk_at "st"
  refine' W_tailS hrange hch (fun _ => ?_) ?zhs
  case zhs => with_unfolding_all rfl
  rw [hnmE]
  repeat walk_at "st"
  refine ⟨(by show 4 ≤ 1000; decide), ?_⟩
  intro tb htb
  refine' W_untup (by exact hh) (by walk_at "lk") rfl rfl ?_
  refine W_inord ?_
  repeat walk_at "st"
  refine W_inord ?_
  repeat walk_at "st"
  refine W_inord ?_
  repeat walk_at "st"
  refine W_inord ?_
  repeat walk_at "st"
  refine W_inord0 ?_
  refine W_less (Le.fresh htb) ?_
  clear htb
  refine gen1 (decide (0 < (code.fdiv 24).fmod 4)) fun bl => ?_
  refine gen1 ((code.fdiv 96).fmod 2 == 1) fun bm => ?_
  rw [hsort]
  repeat walk_at "st"
  refine W_call (new_Sub 269 2690 (by show A.depth + 1 ≤ _; omega) ?_)
  intro sb sd sbp sbc su1 su2 fsb hsb hsd hsbd q1 q2 q3 q4 q5 q6
  repeat walk_at "st"
  refine W_tup 0 ?_
  repeat walk_at "st"
  refine W_tup 0 ?_
  repeat walk_at "st"
  refine ⟨(by decide), ?_⟩
  intro ta hta
  repeat walk_at "st"
  refine W_unary2 ?_
  repeat walk_at "st"
  refine ⟨(by show 2 ≤ 1000; decide), ?_⟩
  intro tb htb
  refine W_less (Le.trans (Le.fresh hta) (Le.fresh htb)) ?_
  clear hta htb
  repeat walk_at "st"
  refine W_call (new_Entity 318 3180 (by show A.depth + 1 ≤ _; omega) ?_)
  intro e de j1 j2 j3 fe he hde hed k1 k2 k3 k4 k5 k6 k7 k8 k9 ka kb
  revert he hde
  walk_at "split"
  repeat walk_at "st"
  refine W_call (c_law_tagged (u1 := uk) (by show A.depth + 1 ≤ _; omega) (by show A.units + 3 ≤ _; omega) (by walk_at "lk") (by walk_at "lk") p5 p6 rfl (by walk_at "lk") (by walk_at "lk") r03 (by walk_at "lk") (th6 _ (by omega)) (by omega) ?_)
  intro t dt op q ft v1 v2 ht hdt htd hopd hopt hop hq hqt hqop hqd t1 t2 t3 t4 t5 t6
  revert ht hdt hop hq
  walk_at "split"
  repeat walk_at "st"
  refine W_list 0 ?_
  repeat walk_at "st"
  refine W_tup 0 ?_
  repeat walk_at "st"
  refine W_call (c_whole_subtype (by show A.depth + 1 ≤ _; omega) fun sx sxd fsx hsx hsxd hsxx hsx1 => ?_)
  revert hsx hsxd
  walk_at "split"
  repeat walk_at "st"
  refine ⟨(by show 4 ≤ 1000; decide), ?_⟩
  intro ro hro
  revert hro
  walk_at "split"
  repeat walk_at "st"
  refine ⟨(by show 1 ≤ 1000; decide), ?_⟩
  intro pl hpl'
  revert hpl'
  walk_at "split"
  repeat walk_at "st"
  refine W_tup 0 ?_
  repeat walk_at "st"
  refine W_tup 0 ?_
  repeat walk_at "st"
  refine ⟨(by show 1 ≤ 1000; decide), ?_⟩
  intro ta hta
  repeat walk_at "st"
  refine W_unary2 ?_
  repeat walk_at "st"
  refine ⟨(by show 2 ≤ 1000; decide), ?_⟩
  intro tb htb
  refine W_less (Le.trans (Le.fresh hta) (Le.fresh htb)) ?_
  clear hta htb
  repeat walk_at "st"
  refine W_call (c_declare_ready (by show A.depth + 1 ≤ _; omega) (by show A.units + 3 ≤ _; omega) (by exact hh) (by walk_at "lk") (by walk_at "lk") p3 p4 p5 p6 rfl p7 p8 (by walk_at "lk") (by walk_at "lk") hr3 hr4 hr7 (by walk_at "lk") (by omega) (by walk_at "lk") (by walk_at "lk") r02 pd (by walk_at "lk") (by walk_at "lk") (by walk_at "lk") (by walk_at "lk") (by walk_at "fl") (by walk_at "fl") (by walk_at "fl") (by walk_at "fl") (by walk_at "fl") (by walk_at "fl") (by walk_at "fl") (by decide +kernel) hdot hlen hcn.1 (by omega) hcn.2.2 ?_)
  intro b w1 w2 fe' w4 w5 z1 z2 z3 z4
  have z5 : fe' "name" = some (.str nm _) := (z4 "name" (by decide) (by decide) (by decide) (by decide) (by decide)).trans ((fup_ne (by decide)).trans k2)
  clear z4
  repeat walk_at "st"
  refine W_call (c_lay_primitive (by show A.depth + 1 ≤ _; omega) (by show A.units + 3 ≤ _; omega) (by exact hh) hnm (by walk_at "lk") (by walk_at "lk") s4 (by walk_at "lk") (by walk_at "lk") p5 p9 p3 p6 (by walk_at "lk") (by walk_at "lk") (by walk_at "fl") (by walk_at "lk") (iup_eq _ _ _) (by walk_at "lk") (by walk_at "lk") (by walk_at "lk") (by walk_at "fl") (by walk_at "fl") (by walk_at "fl") (by walk_at "fl") (by walk_at "fl") (by walk_at "lk") (by walk_at "lk") (by walk_at "lk") (by walk_at "lk") hsx1 (by walk_at "lk") (by walk_at "lk") t2 t5 t1 t3 t4 (by walk_at "lk") (by walk_at "lk") (by walk_at "lk") z5 z2 z1 (by omega) (by omega) ?_)
  intro lc y1 y2 y3 hlc
  revert hlc
  walk_at "split"
  repeat walk_at "st"
  have hu : uniq (uniq nm (4 + 2 * (k : Int) + 1)) 0 = whole nm (4 + 2 * (k : Int) + 1) := rfl
  refine W_gen (fun l => l (C.fr lv) = some (159, .inst 159 (C.dfr lv)) ∧ l (C.dfr lv) = some (1590, .attrs ffr nfr) ∧ l (C.nd lv) = some (1005, .sd (gn lv) nn) ∧ l C.dcm = some (1170, .attrs fmk nmk) ∧ l C.ds = some (2900, .attrs fsc nsc) ∧
    l C.th = some (1004, .idict (iup gth (300 + (k : Int)) (.ref q)) (nth + 1)) ∧ l (C.dreg 0) = some (4280, .attrs (fup f0 "made" (.int (4 + 2 * (k : Int) + 1) w1)) n0) ∧ l (C.cd lv) = some (1003, .sd (fup gc nm (.int (cnt lv nm + 1) w2)) (nc + 1)) ∧
    l e = some (318, .inst 318 de) ∧ l de = some (3180, .attrs (fup fe' "unique" (.str (uniq (uniq nm (4 + 2 * (k : Int) + 1)) 0) y3)) 17) ∧ l p = some (428, .inst 428 dp) ∧ l dp = some (4280, .attrs fp np) ∧
    l sb = some (269, .inst 269 sd) ∧ l sd = some (2690, .attrs (fup (fup (fup fsb "params" (.ref pl)) "operation" (.str (Txt.join (Str.ofString " ") [nm, Str.ofString "inself"]) y1)) "control" (.ref lc)) 11) ∧ l lc = some (0, .list [.int 0 y2]) ∧
    l t = some (510, .inst 510 dt) ∧ l dt = some (5100, .attrs ft 24) ∧ l op = some (1006, .sd (fup (fun _ => none) (Txt.join (Str.ofString " ") [nm, Str.ofString "inself"]) (.str (uniq (uniq nm (4 + 2 * (k : Int) + 1)) 0) y3)) (0 + 1)) ∧ Keep [C.dreg 0, C.cd lv, C.nd lv, C.dcm, C.ds, C.th, bn, bo] led l)
    ⟨by walk_at "lk", by walk_at "lk", by walk_at "lk", by walk_at "lk", by walk_at "lk", by walk_at "lk", by walk_at "lk", by walk_at "lk", by walk_at "lk", by walk_at "lk", by walk_at "lk", by walk_at "lk", by walk_at "lk", by walk_at "lk", by walk_at "lk", by walk_at "lk", by walk_at "lk", by walk_at "lk", by walk_at "keep"⟩ ?_
  intro led3
  refine andE19 fun g1 g2 g3 g4 g5 g6 g7 g8 g9 ga gb' gc' gd ge gf gg gh gi hKn => ?_
  rw [hu] at ga gi
  have hold : led (C.dreg 0) = some (4280, .attrs f0 n0) ∧ led (C.cd lv) = some (1003, .sd gc nc) := ⟨r01, hc1⟩
  have hbs' : ∀ b ∈ [bn, bo], ∃ t o, led b = some (t, o) ∧ (t = 1001 ∨ t = 1002) := by
    intro b' hb'
    simp only [List.mem_cons, List.not_mem_nil, or_false] at hb'
    rcases hb' with rfl | rfl
    · exact ⟨_, _, pb, .inl rfl⟩
    · exact ⟨_, _, pc, .inr rfl⟩
  refine exE6 t6 fun a1 a2 a3 a4 a5 au => andE14 fun r1 r2 r3 r4 r5 r6 r7 r8 r9 ra rb rc rd re => ?_
  clear r01 hc1 pb pc run1 drun1 mk1 mk2 hf1 hf2 hn1 p1 p2 s1 s2 th1 hr1 hr0 hr2
  refine W_tup 0 ?_
  cases bm with
  | true =>
    repeat walk_at "st"
    refine W_call (c_derived_type (by show A.depth + 1 ≤ _; omega) (by walk_at "lk") (by walk_at "lk") t4 (by walk_at "lk") t1 r1 r2 r3 r4 r5 r6 r7 r8 rd re rc r9 rb t5 ra rfl rfl rfl rfl rfl rfl rfl rfl rfl rfl rfl rfl rfl rfl rfl rfl fun x2 d2 b2 ux f2 hx2 hd2 hxd2 hbd2 hbx2 hb2 m3 m4 => ?_)
    repeat walk_at "st"
    refine ⟨(by show 2 ≤ 1000; decide), ?_⟩
    intro aq haq
    revert haq
    walk_at "split"
    repeat walk_at "st"
    cases bl with
    | true =>
      repeat walk_at "st"
      refine W_call (new_SubThing 229 2290 (by show A.depth + 1 ≤ _; omega) fun y dy fy hy hdy hydy hfy => ?_)
      revert hy hdy
      walk_at "split"
      repeat walk_at "st"
      refine' W_setS (by walk_at "lk") (by omega) ?_
      repeat walk_at "st"
      refine W_tup 0 ?_
      repeat walk_at "st"
      refine ⟨(by show 4 ≤ 1000; decide), ?_⟩
      intro r4' hr4'
      revert hr4'
      walk_at "split"
      repeat walk_at "st"
      refine ⟨_, Le.rfl', ?_⟩
      refine Told.fin (laid := true) H W hk hlv hnm (fup (gn lv) (whole nm (4 + 2 * (k : Int) + 1)) (.ref y)) [bn, bo] (Keep.trans2 hKn hsd (by walk_at "keep")) hbs' ?_ ?_ ⟨_, by walk_at "lk", by omega⟩ ⟨fmk, nmk, imk, tmk, by walk_at "lk", mk3, mk4⟩ ?_ ?_ ?_
      · intro f n h
        rw [hold.1] at h
        cases h
        exact ⟨w1, by walk_at "lk"⟩
      · intro g n h
        rw [hold.2] at h
        cases h
        exact ⟨w2, by walk_at "lk"⟩
      · refine exI8 fsc nsc isc tsc usc vsc _ (nth + 1) ⟨by walk_at "lk", s3, s4', s5, by walk_at "lk", by omega, th3, by omega, fun z h1 h2 => ?_, fun z h1 => ?_⟩
        · unfold iup; rw [if_neg (by omega)]; exact th5 z h1 h2
        · unfold iup; rw [if_neg (by omega)]; exact th6 z (by omega)
      · intro key h1 h2
        exact fup_ne h2
      · refine exI14 2 _ e de p dp _ _ fp 17 np _ _ _ ⟨by walk_at "lk", by walk_at "lk", by walk_at "lk", by walk_at "fl", by walk_at "fl", by walk_at "lk", by walk_at "lk", pa, pd, .inr (.inr (.inl ⟨rfl, exI14 aq x2 d2 b2 _ _ (whole nm (4 + 2 * (k : Int) + 1)) y3 f2 24 _ (0 + 1) _ _ ⟨rfl, by walk_at "lk", by walk_at "lk", by walk_at "lk", m4, m3, by walk_at "lk", fup_eq _ _ _, ⟨nm, _, hnm, by omega, by omega, rfl⟩, fun l' hl => ?_, ifRef (gnW_at (fup_eq _ _ _)) (exI10 dy fy 3 sb sd _ _ uk lc y2 ⟨by walk_at "lk", by walk_at "lk", hfy, by walk_at "lk", by walk_at "lk", by walk_at "fl", by walk_at "fl", by walk_at "lk"⟩)⟩⟩))⟩
        unfold gnW
        rw [if_neg hl]
        exact W.freshW hk hnm l'
    | false =>
      repeat walk_at "st"
      refine W_tup 0 ?_
      repeat walk_at "st"
      refine ⟨(by show 4 ≤ 1000; decide), ?_⟩
      intro r4' hr4'
      revert hr4'
      walk_at "split"
      repeat walk_at "st"
      refine ⟨_, Le.rfl', ?_⟩
      refine Told.fin (laid := false) H W hk hlv hnm (gn lv) [bn, bo] (Keep.trans hKn (by walk_at "keep") fun _ h => h) hbs' ?_ ?_ ⟨_, by walk_at "lk", by omega⟩ ⟨fmk, nmk, imk, tmk, by walk_at "lk", mk3, mk4⟩ ?_ ?_ ?_
      · intro f n h
        rw [hold.1] at h
        cases h
        exact ⟨w1, by walk_at "lk"⟩
      · intro g n h
        rw [hold.2] at h
        cases h
        exact ⟨w2, by walk_at "lk"⟩
      · refine exI8 fsc nsc isc tsc usc vsc _ (nth + 1) ⟨by walk_at "lk", s3, s4', s5, by walk_at "lk", by omega, th3, by omega, fun z h1 h2 => ?_, fun z h1 => ?_⟩
        · unfold iup; rw [if_neg (by omega)]; exact th5 z h1 h2
        · unfold iup; rw [if_neg (by omega)]; exact th6 z (by omega)
      · intro key h1 h2
        exact rfl
      · refine exI14 2 _ e de p dp _ _ fp 17 np _ _ _ ⟨by walk_at "lk", by walk_at "lk", by walk_at "lk", by walk_at "fl", by walk_at "fl", by walk_at "lk", by walk_at "lk", pa, pd, .inr (.inr (.inl ⟨rfl, exI14 aq x2 d2 b2 _ _ (whole nm (4 + 2 * (k : Int) + 1)) y3 f2 24 _ (0 + 1) _ _ ⟨rfl, by walk_at "lk", by walk_at "lk", by walk_at "lk", m4, m3, by walk_at "lk", fup_eq _ _ _, ⟨nm, _, hnm, by omega, by omega, rfl⟩, fun l' hl => ?_, gnW_at (W.freshW hk hnm lv)⟩⟩))⟩
        unfold gnW
        rw [if_neg hl]
        exact W.freshW hk hnm l'
  | false =>
    repeat walk_at "st"
    refine ⟨(by show 2 ≤ 1000; decide), ?_⟩
    intro aq haq
    revert haq
    walk_at "split"
    repeat walk_at "st"
    cases bl with
    | true =>
      repeat walk_at "st"
      refine W_call (new_SubThing 229 2290 (by show A.depth + 1 ≤ _; omega) fun y dy fy hy hdy hydy hfy => ?_)
      revert hy hdy
      walk_at "split"
      repeat walk_at "st"
      refine' W_setS (by walk_at "lk") (by omega) ?_
      repeat walk_at "st"
      refine W_tup 0 ?_
      repeat walk_at "st"
      refine ⟨(by show 4 ≤ 1000; decide), ?_⟩
      intro r4' hr4'
      revert hr4'
      walk_at "split"
      repeat walk_at "st"
      refine ⟨_, Le.rfl', ?_⟩
      refine Told.fin (laid := true) H W hk hlv hnm (fup (gn lv) (whole nm (4 + 2 * (k : Int) + 1)) (.ref y)) [bn, bo] (Keep.trans2 hKn hsd (by walk_at "keep")) hbs' ?_ ?_ ⟨_, by walk_at "lk", by omega⟩ ⟨fmk, nmk, imk, tmk, by walk_at "lk", mk3, mk4⟩ ?_ ?_ ?_
      · intro f n h
        rw [hold.1] at h
        cases h
        exact ⟨w1, by walk_at "lk"⟩
      · intro g n h
        rw [hold.2] at h
        cases h
        exact ⟨w2, by walk_at "lk"⟩
      · refine exI8 fsc nsc isc tsc usc vsc _ (nth + 1) ⟨by walk_at "lk", s3, s4', s5, by walk_at "lk", by omega, th3, by omega, fun z h1 h2 => ?_, fun z h1 => ?_⟩
        · unfold iup; rw [if_neg (by omega)]; exact th5 z h1 h2
        · unfold iup; rw [if_neg (by omega)]; exact th6 z (by omega)
      · intro key h1 h2
        exact fup_ne h2
      · refine exI14 2 _ e de p dp _ _ fp 17 np _ _ _ ⟨by walk_at "lk", by walk_at "lk", by walk_at "lk", by walk_at "fl", by walk_at "fl", by walk_at "lk", by walk_at "lk", pa, pd, .inr (.inr (.inl ⟨rfl, exI14 aq t dt op _ _ (whole nm (4 + 2 * (k : Int) + 1)) y3 ft 24 _ (0 + 1) _ _ ⟨rfl, by walk_at "lk", by walk_at "lk", by walk_at "lk", t4, t2, by walk_at "lk", fup_eq _ _ _, ⟨nm, _, hnm, by omega, by omega, rfl⟩, fun l' hl => ?_, ifRef (gnW_at (fup_eq _ _ _)) (exI10 dy fy 3 sb sd _ _ uk lc y2 ⟨by walk_at "lk", by walk_at "lk", hfy, by walk_at "lk", by walk_at "lk", by walk_at "fl", by walk_at "fl", by walk_at "lk"⟩)⟩⟩))⟩
        unfold gnW
        rw [if_neg hl]
        exact W.freshW hk hnm l'
    | false =>
      repeat walk_at "st"
      refine W_tup 0 ?_
      repeat walk_at "st"
      refine ⟨(by show 4 ≤ 1000; decide), ?_⟩
      intro r4' hr4'
      revert hr4'
      walk_at "split"
      repeat walk_at "st"
      refine ⟨_, Le.rfl', ?_⟩
      refine Told.fin (laid := false) H W hk hlv hnm (gn lv) [bn, bo] (Keep.trans hKn (by walk_at "keep") fun _ h => h) hbs' ?_ ?_ ⟨_, by walk_at "lk", by omega⟩ ⟨fmk, nmk, imk, tmk, by walk_at "lk", mk3, mk4⟩ ?_ ?_ ?_
      · intro f n h
        rw [hold.1] at h
        cases h
        exact ⟨w1, by walk_at "lk"⟩
      · intro g n h
        rw [hold.2] at h
        cases h
        exact ⟨w2, by walk_at "lk"⟩
      · refine exI8 fsc nsc isc tsc usc vsc _ (nth + 1) ⟨by walk_at "lk", s3, s4', s5, by walk_at "lk", by omega, th3, by omega, fun z h1 h2 => ?_, fun z h1 => ?_⟩
        · unfold iup; rw [if_neg (by omega)]; exact th5 z h1 h2
        · unfold iup; rw [if_neg (by omega)]; exact th6 z (by omega)
      · intro key h1 h2
        exact rfl
      · refine exI14 2 _ e de p dp _ _ fp 17 np _ _ _ ⟨by walk_at "lk", by walk_at "lk", by walk_at "lk", by walk_at "fl", by walk_at "fl", by walk_at "lk", by walk_at "lk", pa, pd, .inr (.inr (.inl ⟨rfl, exI14 aq t dt op _ _ (whole nm (4 + 2 * (k : Int) + 1)) y3 ft 24 _ (0 + 1) _ _ ⟨rfl, by walk_at "lk", by walk_at "lk", by walk_at "lk", t4, t2, by walk_at "lk", fup_eq _ _ _, ⟨nm, _, hnm, by omega, by omega, rfl⟩, fun l' hl => ?_, gnW_at (W.freshW hk hnm lv)⟩⟩))⟩
        unfold gnW
        rw [if_neg hl]
        exact W.freshW hk hnm l'
end
noncomputable def AtF (C : Con) (led : Led) (i : Nat) : Prop := ∃ f n, led C.dtt = some (3680, .attrs f n) ∧ f "frame" = some (.ref (C.fr i))
theorem AtF.le {C : Con} {led led' : Led} {i : Nat} (h : AtF C led i) (e : Le led led') : AtF C led' i := by
  obtain ⟨f, n, h1, h2⟩ := h
  exact ⟨f, n, e _ _ h1, h2⟩
theorem Wd.le {C : Con} {k : Nat} {made : Int} {led led' : Led} {gn : Nat → Fld} {cnt : Nat → Str → Int} (W : Wd C k made led gn cnt) (e : Le led led') : Wd C k made led' gn cnt where
  run1 := e _ _ W.run1
  run2 := by obtain ⟨f, n, t, h, r⟩ := W.run2; exact ⟨f, n, t, e _ _ h, r⟩
  tt1 := e _ _ W.tt1
  tt2 := by obtain ⟨f, n, t, h, r⟩ := W.tt2; exact ⟨f, n, t, e _ _ h, r⟩
  mk1 := e _ _ W.mk1
  mk2 := by obtain ⟨f, n, i, t, h, r⟩ := W.mk2; exact ⟨f, n, i, t, e _ _ h, r⟩
  s1 := e _ _ W.s1
  s2 := by obtain ⟨f, n, i, t, u, v, g, j, h1, h2, h3, h4, h5, r⟩ := W.s2; exact ⟨f, n, i, t, u, v, g, j, e _ _ h1, h2, h3, h4, e _ _ h5, r⟩
  r1 := fun l hl => e _ _ (W.r1 l hl)
  r2 := fun l hl => by obtain ⟨f, n, y, t, u, h, r⟩ := W.r2 l hl; exact ⟨f, n, y, t, u, e _ _ h, r⟩
  r3 := by obtain ⟨f, n, t, h, r⟩ := W.r3; exact ⟨f, n, t, e _ _ h, r⟩
  c1 := fun l hl => by obtain ⟨g, n, h, r⟩ := W.c1 l hl; exact ⟨g, n, e _ _ h, r⟩
  n1 := fun l hl => by obtain ⟨n, h, r⟩ := W.n1 l hl; exact ⟨n, e _ _ h, r⟩
  f1 := fun l hl => e _ _ (W.f1 l hl)
  f2 := fun l hl => by obtain ⟨f, n, h, r⟩ := W.f2 l hl; exact ⟨f, n, e _ _ h, r⟩
  u1 := W.u1
  cdi := W.cdi
  ndi := W.ndi
  dri := W.dri
  cb := W.cb
section
variable {G : Gd} {A : Around} {stk : List (Addr × Hid)} {L : Addr} {m : Fld} {led : Led} {E : Value → Shared → Prop}
set_option maxRecDepth 100000
set_option maxHeartbeats 4000000
theorem c_told {Q : Value → Led → Prop} (hA : A.depth ≤ 660) (hU : A.units ≤ 7200) (hh : A.handled = none) {C : Con} {k lv : Nat} {gn : Nat → Fld} {cnt : Nat → Str → Int} (W : Wd C k (4 + 2 * (k : Int)) led gn cnt) (hk : k < 13) (hlv : lv < 3)
    {p dp bn bo : Addr} {fp : Fld} {np : Nat} {u1 u2 u3 u4 uk uc : Tok} {pn code : Int} (p1 : led p = some (428, .inst 428 dp)) (p2 : led dp = some (4280, .attrs fp np)) (p3 : fp "kind" = some (.str "package" u1)) (p4 : fp "parent" = some (.ref (C.reg lv))) (p5 : fp "root" = some (.ref (C.reg 0)))
    (p6 : fp "part" = some (.str "visible" u2)) (p7 : fp "names" = some (.ref bn)) (p8 : fp "order" = some (.ref bo)) (p9 : fp "number" = some (.int pn u3)) (pa : fp "level" = some (.int (lv : Int) u4)) (pb : led bn = some (1001, .sd (fun _ => none) 0)) (pc : led bo = some (1002, .list [])) (pd : dp ≠ C.dreg 0)
    (hpl : ∀ f n, led C.ds = some (2900, .attrs f n) → f "place" = some (.ref p)) (hc0 : 0 ≤ code) (H : Told C k lv led gn cnt Q) :
    FnC G A stk L m led (.ref 605) [.ref C.run, .ref C.s, .ref (C.fr lv), .int (k : Int) uk, .int code uc] Q E := by
  have h4 : (code.fdiv 3).fmod 4 = 0 ∨ (code.fdiv 3).fmod 4 = 1 ∨ (code.fdiv 3).fmod 4 = 2 ∨ (code.fdiv 3).fmod 4 = 3 := by
    rw [Int.fmod_eq_emod_of_nonneg _ (by decide)]; omega
  rcases h4 with h | h | h | h
  · exact c_told0 hA hU hh W hk hlv p1 p2 p3 p4 p5 p6 p7 p8 p9 pa pb pc pd hpl hc0 h H
  · exact c_told1 hA hU hh W hk hlv p1 p2 p3 p4 p5 p6 p7 p8 p9 pa pb pc pd hpl hc0 h H
  · exact c_told2 hA hU hh W hk hlv p1 p2 p3 p4 p5 p6 p7 p8 p9 pa pb pc pd hpl hc0 h H
  · exact c_told3 hA hU hh W hk hlv p1 p2 p3 p4 p5 p6 p7 p8 p9 pa pb pc pd hpl hc0 h H
theorem c_frame_at {Q : Value → Led → Prop} (hA : A.depth ≤ 780) (hh : A.handled = none) {C : Con} {k i l : Nat} {made : Int} {gn : Nat → Fld} {cnt : Nat → Str → Int} {u : Tok} (W : Wd C k made led gn cnt) (hfr : AtF C led i) (hi : i < 3) (hl : l ≤ i)
    (H : Q (.ref (C.fr l)) led) : FnC G A stk L m led (.ref 191) [.ref C.run, .int ((i : Int) - (l : Int)) u] Q E := by
  refine exE3 W.run2 fun frun nrun trun => andE4 fun drun1 drun2 drun3 drun4 => ?_
  have run1 := W.run1
  have tt1 := W.tt1
  refine exE2 hfr fun ftt ntt => andE2 fun tt2 tt3 => ?_
  have hf1 := W.f1
  have hf2 := W.f2
  refine Fn_less ?_
  refine' Fn_pos ["run", "ups"] ?zho ?zhcd ?zhroom ?zhbind ?zhloc ?zhco ?zhgen ?zhk ?zhcell ?_
  walk_at "enter"
  intro L1 E1 stk1
  refine' W_mg2 "run" "ups" (v0 := .ref C.run)  (v1 := .int ((i : Int) - (l : Int)) u) ?zm0 ?zm1 ?_
  case zm0 => exact rfl
  case zm1 => exact rfl
  intro m1 e0 e1
  repeat walk_at "st"
  refine' For_range (by exact hh) ?_ ?zhs
  case zhs => intro _; rfl
  repeat walk_at "st"
  refine' W_range1 0 ?_
  intro rg hrg
  have hz : ((i : Int) - (l : Int)) = 0 + ((i - l : Nat) : Int) := by omega
  refine ⟨rg, 0, 0, i - l, fun j m' led' => led' = up led rg (0, .rng 0 (0 + ((i - l : Nat) : Int))) ∧ m' "frame" = some (.ref (C.fr (i - j))), rfl, ?_, by decide, by decide, by omega, ⟨?_, ?_⟩, ?_, ?_⟩
  · rw [hz]; exact up_eq _ _ _
  · rw [hz]
  · rw [Nat.sub_zero]; walk_at "fl"
  · rintro stk2 E2 j t m' led' hj ⟨rfl, h1⟩
    obtain ⟨d1, hd⟩ : ∃ j', i - j = j' + 1 := ⟨i - j - 1, by omega⟩
    have g1 := hf1 (i - j) (by omega)
    obtain ⟨f, n, g2, g3, g4⟩ := hf2 (i - j) (by omega)
    rw [hd] at g4
    have g5 : f "parent" = some (.ref (C.fr (i - (j + 1)))) := by rw [g4, show i - (j + 1) = d1 by omega]
    repeat walk_at "st"
    refine W_nil ?_
    exact ⟨rfl, by walk_at "fl"⟩
  · rintro m' led' ⟨rfl, h1⟩
    rw [show i - (i - l) = l by omega] at h1
    repeat walk_at "st"
    exact ⟨led, Le.fresh hrg, H⟩
theorem W_attrC {Q : Value → Fld → Led → Prop} {xp pos : Pos} {env : Env} {attr : Str} {e : Expr} {as : List Expr} {ks : List Keyword} (H : W G A stk L m led (eval (.Call e as ks xp) env) (fun o m' led' => W G A stk L m' led' (getAttr o attr true) Q E) E)
    (he : eval (.Attribute (.Call e as ks xp) attr pos) env = (do let o ← eval (.Call e as ks xp) env; standAt pos.atName; let r ← holding [o] (getAttr o attr true); letTemporaryGo (.Call e as ks xp) o r; pure r)) : W G A stk L m led (eval (.Attribute (.Call e as ks xp) attr pos) env) Q E :=
  fun _ _ I => Attribute_any_ (H.use I fun _ h' tk' _ _ I' q => q h' tk' I') he
theorem c_find_sub1 {Q : Value → Led → Prop} (hA : A.depth ≤ 770) (hh : A.handled = none) {C : Con} {k i l : Nat} {made : Int} {gn : Nat → Fld} {cnt : Nat → Str → Int} {u u' : Tok} {key : Str} {v : Value} (W : Wd C k made led gn cnt) (hfr : AtF C led i) (hi : i < 3) (hl : l ≤ i)
    (hv : gn l key = some v) (H : Q v led) : FnC G A stk L m led (.ref 247) [.ref C.run, .int ((i : Int) - (l : Int)) u, .str key u'] Q E := by
  have hf1 := W.f1 l (by omega)
  refine exE2 (W.f2 l (by omega)) fun f n => andE3 fun hf2 hf3 _ => ?_
  refine exE1 (W.n1 l (by omega)) fun nn => andE2 fun hn1 hn2 => ?_
  refine' Fn_pos ["run", "ups", "name"] ?zho ?zhcd ?zhroom ?zhbind ?zhloc ?zhco ?zhgen ?zhk ?zhcell ?_
  walk_at "enter"
  intro L1 E1 stk1
  refine' W_mg3 "run" "ups" "name" (v0 := .ref C.run)  (v1 := .int ((i : Int) - (l : Int)) u)  (v2 := .str key u') ?zm0 ?zm1 ?zm2 ?_
  case zm0 => exact rfl
  case zm1 => exact rfl
  case zm2 => exact rfl
  intro m1 e0 e1 e2
  repeat walk_at "st"
  refine' W_attrC ?_ ?zhe
  case zhe => rfl
  repeat walk_at "st"
  refine W_call (c_frame_at (by show A.depth + 1 ≤ _; omega) (by exact hh) W hfr hi hl ?_)
  repeat walk_at "st"
  refine' W_notinS hn1 ?_
  rw [hv]
  repeat walk_at "st"
  refine' W_tailD hn1 hv ?_ ?zhs
  case zhs => with_unfolding_all rfl
  repeat walk_at "st"
  exact H
end
section
variable {G : Gd} {A : Around} {stk : List (Addr × Hid)} {L : Addr} {m : Fld} {led : Led} {E : Value → Shared → Prop}
set_option maxRecDepth 100000
set_option maxHeartbeats 4000000
theorem c_held_at1 {Q : Value → Led → Prop} (hA : A.depth ≤ 770) (hh : A.handled = none) {C : Con} {k i l : Nat} {made : Int} {gn : Nat → Fld} {cnt : Nat → Str → Int} {u u' : Tok} {key : Str} {v : Value} (W : Wd C k made led gn cnt) (hfr : AtF C led i) (hi : i < 3) (hl : l ≤ i)
    (hv : gn l key = some v) (H : Q v led) : FnC G A stk L m led (.ref 198) [.ref C.run, .int ((i : Int) - (l : Int)) u, .str key u'] Q E := by
  have hf1 := W.f1 l (by omega)
  obtain ⟨f, n, hf2, hf3, _⟩ := W.f2 l (by omega)
  obtain ⟨nn, hn1, hn2⟩ := W.n1 l (by omega)
  refine' Fn_pos ["run", "ups", "name"] ?zho ?zhcd ?zhroom ?zhbind ?zhloc ?zhco ?zhgen ?zhk ?zhcell ?_
  walk_at "enter"
  intro L1 E1 stk1
  refine' W_mg3 "run" "ups" "name" (v0 := .ref C.run)  (v1 := .int ((i : Int) - (l : Int)) u)  (v2 := .str key u') ?zm0 ?zm1 ?zm2 ?_
  case zm0 => exact rfl
  case zm1 => exact rfl
  case zm2 => exact rfl
  intro m1 e0 e1 e2
  repeat walk_at "st"
  refine' W_attrC ?_ ?zhe
  case zhe => rfl
  repeat walk_at "st"
  refine W_call (c_frame_at (by show A.depth + 1 ≤ _; omega) (by exact hh) W hfr hi hl ?_)
  repeat walk_at "st"
  refine' W_notinS hn1 ?_
  rw [hv]
  repeat walk_at "st"
  refine' W_tailD hn1 hv ?_ ?zhs
  case zhs => with_unfolding_all rfl
  repeat walk_at "st"
  exact H
theorem c_named_sub1 {Q : Value → Led → Prop} (hA : A.depth ≤ 770) (hh : A.handled = none) {C : Con} {k i l : Nat} {made : Int} {gn : Nat → Fld} {cnt : Nat → Str → Int} {u' : Tok} {key : Str} {v : Value} (W : Wd C k made led gn cnt) (hi : i < 3) (hl : l ≤ i)
    (hv : gn l key = some v) (hno : ∀ l', l' ≠ l → gn l' key = none) (H : Q v led) : FnC G A stk L m led (.ref 240) [.ref C.run, .ref (C.fr i), .str key u'] Q E := by
  refine' Fn_pos ["run", "frame", "name"] ?zho ?zhcd ?zhroom ?zhbind ?zhloc ?zhco ?zhgen ?zhk ?zhcell ?_
  walk_at "enter"
  intro L1 E1 stk1
  refine' W_mg3 "run" "frame" "name" (v0 := .ref C.run)  (v1 := .ref (C.fr i))  (v2 := .str key u') ?zm0 ?zm1 ?zm2 ?_
  case zm0 => exact rfl
  case zm1 => exact rfl
  case zm2 => exact rfl
  intro m1 e0 e1 e2
  repeat walk_at "st"
  refine W_while (fun n m' led' => led' = led ∧ n ≤ i - l ∧ m' "frame" = some (.ref (C.fr (l + n))) ∧ m' "name" = some (.str key u')) (i - l) ⟨rfl, Nat.le_refl _, by rw [show l + (i - l) = i by omega]; exact e1, e2⟩ ?_
  rintro n m' led' E' ⟨rfl, hn, q1, q2⟩
  have hf1 := W.f1 (l + n) (by omega)
  obtain ⟨f, nf, hf2, hf3, hf4⟩ := W.f2 (l + n) (by omega)
  obtain ⟨nn, hn1, hn2⟩ := W.n1 (l + n) (by omega)
  repeat walk_at "st"
  refine whB_t rfl ?_
  repeat walk_at "st"
  refine' W_inS hn1 ?_
  rcases n with _ | n
  · have hv' : gn (l + 0) key = some v := hv
    rw [hv']
    repeat walk_at "st"
    refine' W_tailD hn1 hv' ?_ ?zhs
    case zhs => with_unfolding_all rfl
    repeat walk_at "st"
    exact H
  · rw [hno (l + (n + 1)) (by omega)]
    have hp : f "parent" = some (.ref (C.fr (l + n))) := hf4
    repeat walk_at "st"
    refine W_nil ?_
    exact ⟨n, by omega, rfl, by omega, by walk_at "fl", by walk_at "fl"⟩
end
local macro_rules | `(tactic| walk_at "stq") => `(tactic| first
  | ((with_reducible refine' WQ_callE ?_ ?zhe); (case zhe => with_unfolding_all rfl))
  | ((with_reducible refine' WQ_cwB ?_ ?zhe ?zhp); (case zhe => rfl); (case zhp => rfl))
  | ((with_reducible refine' WQ_args ?_ ?zhe); (case zhe => rfl))
  | with_reducible refine' WQ_args0 ?_
  | ((with_reducible refine' WQ_nameB ?zhv ?zhb ?_ ?zj0 ?zj1 ?zj2 ?zj3 ?zj4 ?zj5); (case zj1 => rfl); (case zj2 => rfl); (case zj3 => rfl); (case zj4 => rfl); (case zhv => k_is); (case zhb => boot_fast); (case zj0 => decide); (case zj5 => rfl)))
section
variable {G : Gd} {A : Around} {stk : List (Addr × Hid)} {L : Addr} {m : Fld} {led : Led} {E : Value → Shared → Prop}
set_option maxRecDepth 100000
set_option maxHeartbeats 4000000
theorem W_sliceFrom {Q : Value → Fld → Led → Prop} {value lower : Expr} {p pos : Pos} {env : Env} (t' : Nat)
    (H : W G A stk L m led (eval value env) (fun o m1 led1 => W G A stk L m1 led1 (eval lower env) (fun vl m2 led2 => ∃ (l : Addr) (vs : List Value) (t a : Nat) (u : Tok), o = .ref l ∧ led2 l = some (t, .list vs) ∧ vs.length ≤ 1000 ∧ vl = .int (a : Int) u ∧ a ≤ vs.length ∧
      NewAt led2 (t', .list (vs.drop a)) fun b led' => Q (.ref b) m2 led') E) E)
    (ht : ∀ o r, letTemporaryGo value o r = pure ()) : W G A stk L m led (eval (.Subscript value (.Slice (some lower) none none p) pos) env) Q E := fun h tk I => by
  refine wpAny_Subscript_list_slice (H.use I fun o h1 tk1 m1 led1 I1 q1 => ?_) ht
  refine wpAny_mono (q1.use I1 (Q' := fun vl s => wpAny (model G.prog G.w) A (evalPart none env) (fun vu s₃ => ∃ l items lo hi, o = .ref l ∧ s₃.heap.IsList l items ∧ items.size ≤ sizeLine ∧ IsPart vl lo ∧ IsPart vu hi ∧ _) E s) fun vl h2 tk2 m2 led2 I2 q2 => ?_) (fun _ _ x => x) fun _ _ e => e
  obtain ⟨l, vs, t, a, u, rfl, hl, hz, rfl, ha, q⟩ := q2
  rw [evalPart_none]
  refine wpAny_pure ?_
  have hL := PlainL.isList (I2.led l t _ hl).1
  obtain ⟨hn, I'⟩ := I2.new (h' := (h2.push { cls := .type "slice", data := .fields #[.int a u, .none, .none] }).push { cls := .type "list", data := .seq (slicePick vs.toArray (some (a : Int)) none none) }) (t := t') (o := .list (vs.drop a)) (a := h2.objs.size + 1) (by omega) (fun b x e => Heap.get?_push_of_some _ (Heap.get?_push_of_some _ e)) ⟨_, _, by rw [← Heap.size_push]; exact Heap.get?_push_size _ rfl, rfl, rfl, by rw [slicePick_from _ _ (by simpa using ha)]⟩
  exact ⟨l, _, _, _, rfl, hL, by simpa using small_line hz (by decide), .int _ _, .none, _, tk2, m2, _, rfl, I', q _ hn⟩
theorem c_common_tag {Q : Value → Led → Prop} (hA : A.depth ≤ 780) (hh : A.handled = none) {lt t dt : Addr} {t1 t2 t3 n : Nat} {f : Fld} {num : Int} {u : Tok} {ln : Value} (h1 : led lt = some (t1, .list [.ref t, .ref t])) (h2 : led t = some (t2, .inst 510 dt)) (h3 : led dt = some (t3, .attrs f n)) (h4 : f "number" = some (.int num u))
    (H : Q (.ref t) led) : FnC G A stk L m led (.ref 212) [.ref lt, ln] Q E := by
  refine Fn_less ?_
  refine' Fn_pos ["tags", "line"] ?zho ?zhcd ?zhroom ?zhbind ?zhloc ?zhco ?zhgen ?zhk ?zhcell ?_
  walk_at "enter"
  intro L1 E1 stk1
  refine' W_mg2 "tags" "line" (v0 := .ref lt)  (v1 := ln) ?zm0 ?zm1 ?_
  case zm0 => exact rfl
  case zm1 => exact rfl
  intro m1 e0 e1
  repeat walk_at "st"
  refine' For_list (by exact hh) ?_ ?zhs
  case zhs => intro _; rfl
  refine' W_sliceFrom 0 ?_ ?zht
  case zht => intro _ _; rfl
  repeat walk_at "st"
  refine ⟨lt, _, t1, 1, _, rfl, h1, by show 2 ≤ 1000; decide, rfl, by show 1 ≤ 2; decide, fun b hb => ?_⟩
  refine ⟨b, 0, [.ref t], fun i m' led' => led' = up led b (0, .list [.ref t]) ∧ m' "tags" = some (.ref lt), rfl, up_eq _ _ _, ⟨rfl, by walk_at "fl"⟩, ?_, fun _ _ => letGoes_name, ?_, ?_⟩
  · rintro i m' led' ⟨rfl, _⟩
    exact up_eq _ _ _
  · rintro stk2 E2 i v m' led' hi ⟨rfl, q1⟩
    have hv : v = .ref t := by
      have := List.mem_of_getElem? hi
      simpa using this
    subst hv
    repeat walk_at "st"
    refine ifS_f (by simp) ?_
    repeat walk_at "st"
    refine W_nil ?_
    exact ⟨rfl, by walk_at "fl"⟩
  · rintro m' led' ⟨rfl, q1⟩
    repeat walk_at "st"
    exact ⟨led, Le.fresh hb, H⟩
theorem WQ_tailLz {Q : Value → Prop} {value slice : Expr} {o : Addr} {vs : List Value} {t : Nat} {v : Value} {u : Tok} (hx : led o = some (t, .list vs)) (hv : vs[0]? = some v) (q : Q v)
    (hs : subscripted slice false (.ref o) (.int 0 u) = operate [.ref o, .int 0 u] (getItem (.ref o) (.int 0 u))) : WQ G A stk L m led (subscriptTail value slice (.ref o) (.int 0 u)) Q E := WQ_tailL0 hx hv q hs
theorem c_tagged_sub1 {Q : Value → Led → Prop} (hA : A.depth ≤ 760) (hh : A.handled = none) {C : Con} {k i l : Nat} {made : Int} {gn : Nat → Fld} {cnt : Nat → Str → Int} {led0 : Led} {ac tp rv rd ty dty op y dy sb ds lc : Addr} {t1 t2 t3 t4 na nb nc nd ne : Nat} {fr ft fy fs go : Fld} {num : Int} {u1 u2 u3 u4 u5 : Tok} {K wk : Str} {x1 x2 : Value}
    (W : Wd C k made led gn cnt) (hfr : AtF C led i) (hi : i < 3) (hl : l ≤ i)
    (a1 : led ac = some (0, .list [.ref tp])) (a2 : led tp = some (0, .tup [.ref rv, x1, x2])) (a3 : led rv = some (138, .inst 138 rd)) (a4 : led rd = some (1380, .attrs fr na)) (a5 : fr "type" = some (.ref ty)) (a6 : led ty = some (510, .inst 510 dty)) (a7 : led dty = some (5100, .attrs ft nb)) (a8 : ft "operations" = some (.ref op)) (a9 : ft "number" = some (.int num u1)) (b1 : led op = some (1006, .sd go nc)) (b2 : go K = some (.str wk u2))
    (c1 : led y = some (229, .inst 229 dy)) (c2 : led dy = some (2290, .attrs fy nd)) (c3 : fy "sub" = some (.ref sb)) (c4 : led sb = some (269, .inst 269 ds)) (c5 : led ds = some (2690, .attrs fs ne)) (c6 : fs "control" = some (.ref lc)) (c7 : led lc = some (0, .list [.int 0 u3]))
    (hv : gn l wk = some (.ref y)) (hno : ∀ l', l' ≠ l → gn l' wk = none) (H : Q (.ref y) led) : FnC G A stk L m led (.ref 252) [.ref C.run, .ref ac, .str K u4, .int 0 u5] Q E := by
  refine exE3 W.run2 fun frun nrun trun => andE4 fun drun1 drun2 drun3 drun4 => ?_
  have run1 := W.run1
  have tt1 := W.tt1
  refine exE2 hfr fun ftt ntt => andE2 fun tt2 tt3 => ?_
  refine' Fn_cellsM (fup (fup (fup (fun _ => none) "run" (.ref C.run)) "operation" (.str K u4)) "index" (.int 0 u5)) (fun L0 => up (led) (L0 + 1) (99, .cell (some (.ref ac)))) (binds := [("run", .ref C.run), ("actuals", .ref ac), ("operation", .str K u4), ("index", .int 0 u5)]) ?zho ?zhcd ?zhroom ?zhbind ?zhkind ?zhco ?zhgen ?zhk ?zhnd ?zhm ?zhc ?_
  case zho => k_is
  case zhcd => k_is
  case zhroom => omega
  case zhbind => exact rfl
  case zhkind => exact rfl
  case zhco => exact rfl
  case zhgen => exact rfl
  case zhk => exact rfl
  case zhnd => intro n; exact (by decide +kernel : (["actuals"] : List Str).Nodup)
  case zhm => intro L0; rfl
  case zhc => intro L0; rfl
  intro L1 E1 hfr
  refine' W_mg3 "run" "operation" "index" (v0 := .ref C.run)  (v1 := .str K u4)  (v2 := .int 0 u5) ?zm0 ?zm1 ?zm2 ?_
  case zm0 => exact rfl
  case zm1 => exact rfl
  case zm2 => exact rfl
  intro m1 e0 e1 e2
  have hn := hfr (L1 + 1) (Nat.le_succ _)
  repeat walk_at "st"
  refine' W_isi (by walk_at "lk") ?zhi ?_
  case zhi => k_is
  repeat walk_at "st"
  refine' W_notinS (by walk_at "lk") ?_
  rw [b2]
  repeat walk_at "st"
  refine' W_tailD (by walk_at "lk") b2 ?_ ?zhs
  case zhs => with_unfolding_all rfl
  repeat walk_at "st"
  refine W_call (c_named_sub1 (by show A.depth + 1 ≤ _; omega) (by exact hh) (W.le (Le.fresh hn)) hi hl hv hno ?_)
  repeat walk_at "st"
  refine' W_compLA 0 (fun _ => true) (fun _ y => y = .ref rv) (by exact hh) rfl ?zhsw ?zhclos ?zhcell ?zhkind ?zhnames ?zhx ?zhy ?zhp ?_
  walk_at "comp"
  repeat walk_at "st"
  refine ⟨lc, 0, [.int 0 u3], rfl, by walk_at "lk", by simp, ?_, ?_⟩
  · intro v hv
    rw [List.mem_singleton] at hv
    subst hv
    intro stk C m2 E2 hm
    refine ⟨?_, fun _ => ?_⟩
    · repeat walk_at "stq"
      rfl
    · repeat walk_at "stq"
      refine' WQ_tailLz (by walk_at "lk") rfl ?_ ?zhs
      case zhs => with_unfolding_all rfl
      repeat walk_at "stq"
      rfl
  intro ys hys l1 hl1
  cases hys with | cons q1 q2
  cases q2
  subst q1
  obtain ⟨hl1b, hl10⟩ := up_none hl1
  repeat walk_at "st"
  refine W_list 0 ?_
  repeat walk_at "st"
  refine ⟨by show 1 ≤ 1000; decide, ?_⟩
  intro l2 hl2
  have hl2' := hl2
  revert hl2'
  walk_at "split"
  refine' W_compL 0 (fun _ => true) (fun _ y => y = .ref ty) (by exact hh) ?zhclos ?zhcell ?zhkind ?zhnames ?zhx ?_ ?zhs
  case zhs => intro _; rfl
  walk_at "compE"
  repeat walk_at "st"
  refine ⟨l1, 0, [.ref rv], rfl, by walk_at "lk", by simp, ?_, ?_⟩
  · intro v hv
    rw [List.mem_singleton] at hv
    subst hv
    intro stk C m2 E2 hm
    refine ⟨?_, fun _ => ?_⟩
    · repeat walk_at "stq"
      refine' WQ_isi (by walk_at "lk") ?zhi ?_
      case zhi => k_is
      repeat walk_at "stq"
      rfl
    · repeat walk_at "stq"
      rfl
  intro ys hys l3 hl3
  cases hys with | cons q1 q2
  cases q2
  subst q1
  have hl3' := hl3
  revert hl3'
  walk_at "split"
  refine' W_addL 0 (by walk_at "lk") (by walk_at "lk") (by show 2 ≤ 1000; decide) ?_
  intro l4 hl4
  revert hl4
  walk_at "split"
  repeat walk_at "st"
  refine W_call (c_common_tag (t := ty) (t1 := 0) (by show A.depth + 1 ≤ _; omega) (by exact hh) (up_eq _ _ _) (by walk_at "lk") (by walk_at "lk") a9 ?_)
  repeat walk_at "st"
  refine ⟨led, ?_, H⟩
  exact Keep.le (by walk_at "keep")
end
local macro_rules | `(tactic| walk_at "side") => `(tactic| ((case zhk => kernel_rfl); (case zhn => decide); (case zhS => (repeat' apply And.intro) <;> rfl)))
section
variable {G : Gd} {A : Around} {stk : List (Addr × Hid)} {L : Addr} {m : Fld} {led : Led} {E : Value → Shared → Prop}
set_option maxRecDepth 100000
set_option maxHeartbeats 4000000
theorem new_Run {Q : Value → Led → Prop} {a_world a_limits : Value} (hA : A.depth ≤ 780)
    (H : ∀ (x d cm dcm : Addr) (u : Tok) (f fc : Fld), led x = none → led d = none → led cm = none → led dcm = none → x ≠ d → cm ≠ d → cm ≠ x → dcm ≠ d → dcm ≠ x → cm ≠ dcm → f "cells" = some (.ref cm) → f "task" = some .none → f "line" = some (.int 0 u) → fc "make_cell" = none → (∃ w, fc "last" = some (.int 0 w)) → f "limits" = some a_limits →
      Q (.ref x) (up (up (up (up led x (1, .inst 180 d)) cm (117, .inst 117 dcm)) dcm (1170, .attrs fc 1)) d (2, .attrs f 31))) :
    FnC G A stk L m led (.ref 180) [a_world, a_limits] Q E := by
  refine' Fn_new 1 2 ?zh1 ?zh2 ?zh3 ?_
  case zh1 => k_is
  case zh2 => k_is
  case zh3 => k_is
  intro x d hx hd hxd A1 hA1 _
  refine' Fn_pos ["self", "world", "limits"] ?zho ?zhcd ?zhroom ?zhbind ?zhloc ?zhco ?zhgen ?zhk ?zhcell ?_
  walk_at "enter"
  intro L1 E1 stk1
  refine' W_mg3 "self" "world" "limits" (v0 := .ref x)  (v1 := a_world)  (v2 := a_limits) ?zm0 ?zm1 ?zm2 ?_
  case zm0 => exact rfl
  case zm1 => exact rfl
  case zm2 => exact rfl
  intro m1 e0 e1 e2
  have hx1 : up led x (1, .inst 180 d) x = some (1, .inst 180 d) := up_eq _ _ _
  with_reducible refine I_name e0 e1 hx1 hxd ?zhk ?zhn ?zhS ?_
  walk_at "side"
  with_reducible refine I_name e0 e2 hx1 hxd ?zhk ?zhn ?zhS ?_
  walk_at "side"
  with_reducible refine I_dictG e0 hx1 hxd ?zhk ?zhn ?zhS ?_
  walk_at "side"
  intro b_nodes
  with_reducible refine I_dictG e0 hx1 hxd ?zhk ?zhn ?zhS ?_
  walk_at "side"
  intro b_statements
  with_reducible refine I_dictG e0 hx1 hxd ?zhk ?zhn ?zhS ?_
  walk_at "side"
  intro b_declarations
  refine W_cons ?_
  refine' W_assignA ?_ ?zhs
  case zhs => rfl
  repeat walk_at "st"
  refine W_call (new_CellMaker (a_0 := .none) 117 1170 (by show A1.depth + 1 ≤ _; omega) fun cm dcm uc fc hcm hdcm hcmd hfc hfm => ?_)
  revert hcm hdcm
  refine upn2 fun cm1 cm2 cm3 => upn2 fun dcm1 dcm2 dcm3 => ?_
  refine W_cast (by rw [up_comm _ (show d ≠ cm from cm1.symm), up_comm _ (show d ≠ dcm from dcm1.symm)]) ?_
  have hx2 : up (up (up led x (1, .inst 180 d)) cm (117, .inst 117 dcm)) dcm (1170, .attrs fc 1) x = some (1, .inst 180 d) := by walk_at "lk"
  walk_at "st"
  walk_at "st"
  walk_at "st"
  with_reducible refine I_none e0 hx2 hxd ?zhk ?zhn ?zhS ?_
  walk_at "side"
  with_reducible refine I_int e0 hx2 hxd ?zhk ?zhn ?zhS ?_
  walk_at "side"
  intro u_steps
  with_reducible refine I_int e0 hx2 hxd ?zhk ?zhn ?zhS ?_
  walk_at "side"
  intro u_line
  with_reducible refine I_none e0 hx2 hxd ?zhk ?zhn ?zhS ?_
  walk_at "side"
  with_reducible refine I_listG e0 hx2 hxd ?zhk ?zhn ?zhS ?_
  walk_at "side"
  intro b_discs
  with_reducible refine I_int e0 hx2 hxd ?zhk ?zhn ?zhS ?_
  walk_at "side"
  intro u_piled
  with_reducible refine I_int e0 hx2 hxd ?zhk ?zhn ?zhS ?_
  walk_at "side"
  intro u_heaped
  with_reducible refine I_none e0 hx2 hxd ?zhk ?zhn ?zhS ?_
  walk_at "side"
  with_reducible refine I_dictG e0 hx2 hxd ?zhk ?zhn ?zhS ?_
  walk_at "side"
  intro b_ends
  with_reducible refine I_dictG e0 hx2 hxd ?zhk ?zhn ?zhS ?_
  walk_at "side"
  intro b_drops
  with_reducible refine I_dictG e0 hx2 hxd ?zhk ?zhn ?zhS ?_
  walk_at "side"
  intro b_resumes
  with_reducible refine I_none e0 hx2 hxd ?zhk ?zhn ?zhS ?_
  walk_at "side"
  with_reducible refine I_none e0 hx2 hxd ?zhk ?zhn ?zhS ?_
  walk_at "side"
  with_reducible refine I_none e0 hx2 hxd ?zhk ?zhn ?zhS ?_
  walk_at "side"
  with_reducible refine I_none e0 hx2 hxd ?zhk ?zhn ?zhS ?_
  walk_at "side"
  with_reducible refine I_none e0 hx2 hxd ?zhk ?zhn ?zhS ?_
  walk_at "side"
  with_reducible refine I_none e0 hx2 hxd ?zhk ?zhn ?zhS ?_
  walk_at "side"
  with_reducible refine I_none e0 hx2 hxd ?zhk ?zhn ?zhS ?_
  walk_at "side"
  with_reducible refine I_none e0 hx2 hxd ?zhk ?zhn ?zhS ?_
  walk_at "side"
  with_reducible refine I_none e0 hx2 hxd ?zhk ?zhn ?zhS ?_
  walk_at "side"
  with_reducible refine I_none e0 hx2 hxd ?zhk ?zhn ?zhS ?_
  walk_at "side"
  with_reducible refine I_none e0 hx2 hxd ?zhk ?zhn ?zhS ?_
  walk_at "side"
  with_reducible refine I_none e0 hx2 hxd ?zhk ?zhn ?zhS ?_
  walk_at "side"
  with_reducible refine I_dictG e0 hx2 hxd ?zhk ?zhn ?zhS ?_
  walk_at "side"
  intro b_prot
  with_reducible refine I_listG e0 hx2 hxd ?zhk ?zhn ?zhS ?_
  walk_at "side"
  intro b_passed
  refine W_nil ⟨rfl, ?_⟩
  exact H x d cm dcm _ _ _ hx hd cm3 dcm3 hxd cm1 cm2 dcm1 dcm2 hcmd (by walk_at "fl") (by walk_at "fl") (by walk_at "fl") hfm ⟨_, hfc⟩ (by walk_at "fl")
end
section
variable {G : Gd} {A : Around} {stk : List (Addr × Hid)} {L : Addr} {m : Fld} {led : Led} {E : Value → Shared → Prop}
set_option maxRecDepth 100000
set_option maxHeartbeats 4000000
theorem Fn_bind {Q : Value → Led → Prop} {name qual : Str} {params : Arguments} {body : List Stmt} {scope : Scope} {dV kV doc pm cdv ct oc : Value} {an od : Option Addr} {osl : Array (Option Value)} {f : Addr} {args : List Value} {binds : List (Str × Value)}
    (ho : List.lookup f (tpx.heap_39 G.w.params) = some ⟨oc, od, .func (fnOf name qual params body scope dV kV doc pm an cdv ct), osl⟩) (hcd : codeIn (tpx.heap_39 G.w.params) cdv qual = true) (hroom : A.depth ≤ 900)
    (hbind : ∀ s : Shared, (tpx.heap_39 G.w.params).In s.heap → BindsTo s (fnOf name qual params body scope dV kV doc pm an cdv ct) ⟨args, []⟩ binds) (hloc : binds.all (fun y => decide (scope.names.lookup y.1 = some .local)) = true)
    (hco : scope.isCoroutine = false) (hgen : scope.isGenerator = false) (hk : scope.kind = .function) (hcell : ∀ x ∈ scope.names, x.2 ≠ .cell)
    (H : ∀ L' E m0, m0 = (fun y => binds.reverse.lookup y) → W G (A.deeper (envX qual scope L' f cdv [])) ((L, .fr m) :: stk) L' m0 led (execs body (envX qual scope L' f cdv [])) (fun fl _ led' => Q (retOf fl) led') E) :
    FnC G A stk L m led (.ref f) args Q E :=
  Fn_def (binds := binds) ho hcd (Nat.lt_of_le_of_lt hroom (by decide)) hbind (fun y hy => of_decide_eq_true (List.all_eq_true.mp hloc y hy)) (fun L' => H L' _ _ rfl) hco hgen hk hcell
theorem new_Limits {Q : Value → Led → Prop} (hA : A.depth ≤ 780) (H : ∀ x : Addr, Q (.ref x) led) : FnC G A stk L m led (.ref 347) [] Q E := by
  refine Fn_less ?_
  refine' Fn_new 3470 3471 ?zh1 ?zh2 ?zh3 ?_
  case zh1 => k_is
  case zh2 => k_is
  case zh3 => k_is
  intro x d hx hd hxd A1 hA1 _
  refine' Fn_bind ?zho ?zhcd ?zhroom ?zhbind ?zhloc ?zhco ?zhgen ?zhk ?zhcell ?_
  case zho => k_is
  case zhcd => k_is
  case zhroom => omega
  case zhbind => exact fun s X => binds_K X rfl (by k_is) rfl rfl rfl
  case zhloc => rfl
  case zhco => exact rfl
  case zhgen => exact rfl
  case zhk => exact rfl
  case zhcell => decide
  intro L1 E1 m1 hm
  have e0 : m1 "self" = some (.ref x) := by rw [hm]; rfl
  obtain ⟨v1, e1⟩ : ∃ v, m1 "width" = some v := by rw [hm]; exact ⟨_, rfl⟩
  obtain ⟨v2, e2⟩ : ∃ v, m1 "steps" = some v := by rw [hm]; exact ⟨_, rfl⟩
  obtain ⟨v3, e3⟩ : ∃ v, m1 "depth" = some v := by rw [hm]; exact ⟨_, rfl⟩
  obtain ⟨v4, e4⟩ : ∃ v, m1 "members" = some v := by rw [hm]; exact ⟨_, rfl⟩
  obtain ⟨v5, e5⟩ : ∃ v, m1 "text" = some v := by rw [hm]; exact ⟨_, rfl⟩
  obtain ⟨v6, e6⟩ : ∃ v, m1 "tasks" = some v := by rw [hm]; exact ⟨_, rfl⟩
  obtain ⟨v7, e7⟩ : ∃ v, m1 "heap" = some v := by rw [hm]; exact ⟨_, rfl⟩
  clear hm
  repeat walk_at "st"
  refine W_nil ⟨rfl, led, ?_, H x⟩
  exact Keep.le (by walk_at "keep")
end
section rules
variable {G : Gd} {A : Around} {stk : List (Addr × Hid)} {L : Addr} {m : Fld} {led : Led} {E : Value → Shared → Prop} {pos : Pos} {env : Env}
noncomputable def IterT (l : Addr) (i : Nat) (o : Obj) : Prop := o.cls = .type "tuple_iterator" ∧ o.data = .fields #[.ref l, .int (i : Int) 0]
theorem For_tup {Q : Flow → Fld → Led → Prop} {tn : Str} {tp : Pos} {iter : Expr} {body : List Stmt} (hh : A.handled = none)
    (H : W G A stk L m led (eval iter env) (fun x m1 led1 => ∃ l t vs J, x = .ref l ∧ led1 l = some (t, .tup vs) ∧ J 0 m1 led1 ∧ (∀ i m' led', J i m' led' → led' l = some (t, .tup vs)) ∧
      TurnL G A L (.Name tn tp) body env Q J vs ∧ ∀ m' led', J vs.length m' led' → Q .next m' led') E)
    (hs : ∀ x, foldedSetIterable iter env x = pure x := by intro _; rfl) : W G A stk L m led (exec (.For (.Name tn tp) iter body [] pos) env) Q E := fun h tk I => by
  refine wpAny_For (H.use I fun x h1 tk1 m1 led1 I1 q => ?_) hs
  obtain ⟨l, t, vs, J, rfl, hl, h0, hJ, turn, done⟩ := q
  have hlist : IsTup h1 l vs.toArray := (I1.led l t _ hl).1
  refine wpAny_pyIter_tuple hlist ?_
  let R : Result → Shared → Prop := fun r s' => match r with | .ok f => (∃ h' tk' m' led', s' = G.sh h' tk' ∧ Inv G stk L m' led' h' ∧ Q f m' led') | .error e => cameBackBy (model G.prog G.w) A env E e s'
  show codeAny (model G.prog G.w) A (.forLoop (.Name tn tp) (.ref h1.objs.size) body [] env) R _
  refine codeAny_forLoop_any (fun n s => ∃ h' tk' m' led' i, s = G.sh h' tk' ∧ Inv G ((h1.objs.size, .ob (IterT l i)) :: stk) L m' led' h' ∧ J i m' led' ∧ i ≤ vs.length ∧ n = vs.length - i) ?_ (vs.length - 0)
    ⟨_, tk1, m1, led1, 0, rfl, I1.hide (Nat.le_refl _) (fun b x e => Heap.get?_push_of_some _ e) (Heap.get?_push_size _ rfl) ⟨rfl, rfl⟩, h0, Nat.zero_le _, rfl⟩
  rintro n s ⟨h2, tk2, m2, led2, i, rfl, I2, hj, hi, rfl⟩
  obtain ⟨oi, e1, e2, e3⟩ := (I2.sk _ (.head _)).1
  have hit : h2.IsTupleIter h1.objs.size l i := ⟨oi, e1, e2, e3⟩
  have hl2 : IsTup h2 l vs.toArray := (I2.led l t _ (hJ i m2 led2 hj)).1
  by_cases hlt : i < vs.length
  · have hx : vs[i]? = some vs[i] := List.getElem?_eq_getElem hlt
    refine wpAny_pyNext_tuple_item hit hl2 (x := vs[i]) (by simpa using hx) fun h3 hit3 hs3 => ?_
    obtain ⟨oj, f1, f2, f3⟩ := hit3
    have I3 : Inv G ((h1.objs.size, .ob (IterT l (i + 1))) :: stk) L m2 led2 h3 := I2.hidTurn (fun b x e hb => (hs3.2 b hb).trans e) f1 ⟨f2, f3⟩
    refine wpAny_pure (a := ()) ?_
    refine (turn _ _ i vs[i] m2 led2 hx hj).use (tk := tk2) I3 fun _ h4 tk4 m4 led4 I4 q4 => q4.use I4 fun f h5 tk5 m5 led5 I5 q5 => ?_
    cases f with
    | next => exact ⟨_, by omega, h5, tk5, m5, led5, i + 1, rfl, I5, q5, hlt, rfl⟩
    | cont => exact ⟨_, by omega, h5, tk5, m5, led5, i + 1, rfl, I5, q5, hlt, rfl⟩
    | brk => exact ⟨h5, tk5, m5, led5, rfl, I5.bare, q5⟩
    | ret v => exact ⟨h5, tk5, m5, led5, rfl, I5.bare, q5⟩
  · have hi' : i = vs.length := by omega
    subst hi'
    refine wpAny_pyNext_tuple_end hh hit hl2 (by simp) fun h3 hs3 => ?_
    exact wpAny_execs_nil ⟨h3, tk2, m2, led2, rfl, I2.bare.hidEnd I2 hs3, done m2 led2 hj⟩
theorem W_tailLneg {Q : Value → Fld → Led → Prop} {value slice : Expr} {o : Addr} {vs : List Value} {t : Nat} {u : Tok} {v : Value} (hx : led o = some (t, .list vs)) (hz : vs.length ≤ 1000) (hne : 0 < vs.length) (hv : vs[vs.length - 1]? = some v) (q : Q v m led)
    (hs : subscripted slice false (.ref o) (.int (-1) u) = operate [.ref o, .int (-1) u] (getItem (.ref o) (.int (-1) u)) := by with_unfolding_all rfl) : W G A stk L m led (subscriptTail value slice (.ref o) (.int (-1) u)) Q E := fun h tk I =>
  have hl : h.IsList o vs.toArray := PlainL.isList (I.led o t _ hx).1
  tail_any (s := G.sh h tk) hl.typeIs slot_list_getitem.lookup (wpAny_getItem_list_neg (k := -1) hl (by decide) (by simp; omega) (by decide) (by simpa [show ((-1 : Int) + (vs.length : Int)).toNat = vs.length - 1 by omega] using hv) ⟨_, _, _, _, rfl, I, q⟩) hs
end rules
/- the world while the law lays its three frames -/
structure Bs (C : Con) (n : Nat) (led : Led) (rl fl : Addr) : Prop where
  run1 : led C.run = some (1, .inst 180 C.drun)
  run2 : ∃ f n t, led C.drun = some (2, .attrs f n) ∧ f "cells" = some (.ref C.cm) ∧ f "task" = some (.ref C.tt) ∧ f "line" = some (.int 0 t) ∧ ∃ y, f "limits" = some (.ref y)
  tt1 : led C.tt = some (368, .inst 368 C.dtt)
  tt2 : ∃ f n v, led C.dtt = some (3680, .attrs f n) ∧ f "frame" = some v
  mk1 : led C.cm = some (117, .inst 117 C.dcm)
  mk2 : ∃ f n i t, led C.dcm = some (1170, .attrs f n) ∧ f "last" = some (.int i t) ∧ f "make_cell" = none
  th1 : led C.th = some (1004, .idict (fun _ => none) 0)
  r1 : ∀ l, l < n → led (C.reg l) = some (428, .inst 428 (C.dreg l))
  r2 : ∀ l, l < n → ∃ f k y t u, led (C.dreg l) = some (4280, .attrs f k) ∧ f "kind" = some (.str y t) ∧ frameKinds.contains y = true ∧ f "root" = some (.ref (C.reg 0)) ∧ f "level" = some (.int (l : Int) u) ∧ f "counts" = some (.ref (C.cd l))
  r3 : ∃ f k t, led (C.dreg 0) = some (4280, .attrs f k) ∧ f "made" = some (.int (n : Int) t) ∧ f "type_homes" = some (.ref C.th)
  c1 : ∀ l, l < n → led (C.cd l) = some (1003, .sd (fun _ => none) 0)
  n1 : ∀ l, l < n → led (C.nd l) = some (1005, .sd (fun _ => none) 0)
  f1 : ∀ l, l < n → led (C.fr l) = some (159, .inst 159 (C.dfr l))
  f2 : ∀ l, l < n → ∃ f k, led (C.dfr l) = some (1590, .attrs f k) ∧ f "names" = some (.ref (C.nd l)) ∧ f "parent" = some (match l with | 0 => .none | j + 1 => .ref (C.fr j))
  rl1 : led rl = some (7001, .list ((List.range n).map fun l => .ref (C.reg l)))
  fl1 : led fl = some (7002, .list ((List.range n).map fun l => .ref (C.fr l)))
  cdi : ∀ i j, i < n → j < n → C.cd i = C.cd j → i = j
  ndi : ∀ i j, i < n → j < n → C.nd i = C.nd j → i = j
  dri : ∀ l, 0 < l → l < n → C.dreg l ≠ C.dreg 0
noncomputable def pick (f : Nat → Addr) (n : Nat) (x : Addr) : Nat → Addr := fun l => if l = n then x else f l
theorem pick_at {f : Nat → Addr} {n : Nat} {x : Addr} : pick f n x n = x := if_pos rfl
theorem pick_ne {f : Nat → Addr} {n : Nat} {x : Addr} {l : Nat} (h : l ≠ n) : pick f n x l = f l := if_neg h
theorem Bs.le {C : Con} {n : Nat} {led led' : Led} {rl fl : Addr} (W : Bs C n led rl fl) (e : Le led led') : Bs C n led' rl fl where
  run1 := e _ _ W.run1
  run2 := by obtain ⟨f, n, t, h, r⟩ := W.run2; exact ⟨f, n, t, e _ _ h, r⟩
  tt1 := e _ _ W.tt1
  tt2 := by obtain ⟨f, n, t, h, r⟩ := W.tt2; exact ⟨f, n, t, e _ _ h, r⟩
  mk1 := e _ _ W.mk1
  mk2 := by obtain ⟨f, n, i, t, h, r⟩ := W.mk2; exact ⟨f, n, i, t, e _ _ h, r⟩
  th1 := e _ _ W.th1
  r1 := fun l hl => e _ _ (W.r1 l hl)
  r2 := fun l hl => by obtain ⟨f, n, y, t, u, h, r⟩ := W.r2 l hl; exact ⟨f, n, y, t, u, e _ _ h, r⟩
  r3 := by obtain ⟨f, n, t, h, r⟩ := W.r3; exact ⟨f, n, t, e _ _ h, r⟩
  c1 := fun l hl => e _ _ (W.c1 l hl)
  n1 := fun l hl => e _ _ (W.n1 l hl)
  f1 := fun l hl => e _ _ (W.f1 l hl)
  f2 := fun l hl => by obtain ⟨f, n, h, r⟩ := W.f2 l hl; exact ⟨f, n, e _ _ h, r⟩
  rl1 := e _ _ W.rl1
  fl1 := e _ _ W.fl1
  cdi := W.cdi
  ndi := W.ndi
  dri := W.dri
/-- one frame more -/
theorem Bs.more {C : Con} {n : Nat} {led led' : Led} {rl fl : Addr} (W : Bs C n led rl fl) (hn : 0 < n) {x d c fr dfr nd : Addr} {f ff : Fld} {k k' : Nat} {y : Str} {t u : Tok}
    (hK : Keep [C.dreg 0, rl, fl] led led')
    (hd : ∀ f k, led (C.dreg 0) = some (4280, .attrs f k) → ∃ w, led' (C.dreg 0) = some (4280, .attrs (fup f "made" (.int ((n : Int) + 1) w)) k))
    (h1 : led' x = some (428, .inst 428 d)) (h2 : led' d = some (4280, .attrs f k)) (h3 : f "kind" = some (.str y t)) (h4 : frameKinds.contains y = true) (h5 : f "root" = some (.ref (C.reg 0))) (h6 : f "level" = some (.int (n : Int) u)) (h7 : f "counts" = some (.ref c))
    (h8 : led' c = some (1003, .sd (fun _ => none) 0)) (h9 : led' nd = some (1005, .sd (fun _ => none) 0)) (ha : led' fr = some (159, .inst 159 dfr)) (hb : led' dfr = some (1590, .attrs ff k')) (hc : ff "names" = some (.ref nd)) (he : ff "parent" = some (.ref (C.fr (n - 1))))
    (hf : led' rl = some (7001, .list ((List.range n).map (fun l => Value.ref (C.reg l)) ++ [.ref x]))) (hg : led' fl = some (7002, .list ((List.range n).map (fun l => Value.ref (C.fr l)) ++ [.ref fr])))
    (hx1 : led d = none) (hx2 : led c = none) (hx3 : led nd = none) :
    Bs { C with reg := pick C.reg n x, dreg := pick C.dreg n d, cd := pick C.cd n c, nd := pick C.nd n nd, fr := pick C.fr n fr, dfr := pick C.dfr n dfr } (n + 1) led' rl fl := by
  refine exE3 W.r3 fun f0 k0 t0 => andE3 fun d1 d2 d3 => ?_
  have K : ∀ {a : Addr} {t : Nat} {o : AO}, led a = some (t, o) → t ≠ 7001 → t ≠ 7002 → a ≠ C.dreg 0 → led' a = some (t, o) := fun {a t o} h q1 q2 q3 => hK a _ h (by
    simp only [List.mem_cons, List.not_mem_nil, or_false, not_or]
    refine ⟨q3, ?_, ?_⟩
    · rintro rfl; have := W.rl1; rw [h] at this; cases this; exact q1 rfl
    · rintro rfl; have := W.fl1; rw [h] at this; cases this; exact q2 rfl)
  have K' : ∀ {a : Addr} {t : Nat} {o : AO}, led a = some (t, o) → t ≠ 7001 → t ≠ 7002 → t ≠ 4280 → led' a = some (t, o) := fun {a t o} h q1 q2 q3 => K h q1 q2 (by rintro rfl; rw [d1] at h; cases h; exact q3 rfl)
  have p0 : ∀ {g : Nat → Addr} {z : Addr}, pick g n z 0 = g 0 := pick_ne (by omega)
  constructor
  · exact K' W.run1 (by decide) (by decide) (by decide)
  · obtain ⟨f, n, t, h, r⟩ := W.run2; exact ⟨f, n, t, K' h (by decide) (by decide) (by decide), r⟩
  · exact K' W.tt1 (by decide) (by decide) (by decide)
  · obtain ⟨f, n, t, h, r⟩ := W.tt2; exact ⟨f, n, t, K' h (by decide) (by decide) (by decide), r⟩
  · exact K' W.mk1 (by decide) (by decide) (by decide)
  · obtain ⟨f, n, i, t, h, r⟩ := W.mk2; exact ⟨f, n, i, t, K' h (by decide) (by decide) (by decide), r⟩
  · exact K' W.th1 (by decide) (by decide) (by decide)
  · intro l hl
    by_cases z : l = n
    · subst z; simp only [pick_at]; exact h1
    · simp only [pick_ne z]; exact K' (W.r1 l (by omega)) (by decide) (by decide) (by decide)
  · intro l hl
    simp only [p0]
    by_cases z : l = n
    · subst z; simp only [pick_at]; exact ⟨f, k, y, t, u, h2, h3, h4, h5, h6, h7⟩
    · simp only [pick_ne z]
      refine exE5 (W.r2 l (by omega)) fun f k y t u => andE6 fun g1 g2 g3 g4 g5 g6 => ?_
      by_cases z0 : l = 0
      · subst z0
        obtain ⟨w, e⟩ := hd f k g1
        exact ⟨_, k, y, t, u, e, (fup_ne (by decide)).trans g2, g3, (fup_ne (by decide)).trans g4, (fup_ne (by decide)).trans g5, (fup_ne (by decide)).trans g6⟩
      · exact ⟨f, k, y, t, u, K g1 (by decide) (by decide) (W.dri l (by omega) (by omega)), g2, g3, g4, g5, g6⟩
  · simp only [p0]
    obtain ⟨w, e⟩ := hd f0 k0 d1
    exact ⟨_, k0, w, e, by rw [fup_eq]; simp, (fup_ne (by decide)).trans d3⟩
  · intro l hl
    by_cases z : l = n
    · subst z; simp only [pick_at]; exact h8
    · simp only [pick_ne z]; exact K' (W.c1 l (by omega)) (by decide) (by decide) (by decide)
  · intro l hl
    by_cases z : l = n
    · subst z; simp only [pick_at]; exact h9
    · simp only [pick_ne z]; exact K' (W.n1 l (by omega)) (by decide) (by decide) (by decide)
  · intro l hl
    by_cases z : l = n
    · subst z; simp only [pick_at]; exact ha
    · simp only [pick_ne z]; exact K' (W.f1 l (by omega)) (by decide) (by decide) (by decide)
  · intro l hl
    by_cases z : l = n
    · subst z
      simp only [pick_at]
      refine ⟨ff, k', hb, hc, ?_⟩
      match l, hn with
      | j + 1, _ => simp only [pick_ne (show j ≠ j + 1 by omega)]; exact he
    · simp only [pick_ne z]
      obtain ⟨f, k, g1, g2, g3⟩ := W.f2 l (by omega)
      refine ⟨f, k, K' g1 (by decide) (by decide) (by decide), g2, ?_⟩
      match l, g3 with
      | 0, g3 => exact g3
      | j + 1, g3 => simp only [pick_ne (show j ≠ n by omega)]; exact g3
  · have e : ∀ (g : Nat → Addr) (z : Addr), (List.range (n + 1)).map (fun l => Value.ref (pick g n z l)) = (List.range n).map (fun l => Value.ref (g l)) ++ [.ref z] := fun g z => by
      rw [List.range_succ, List.map_append]
      congr 1
      · exact List.map_congr_left fun l hl => by rw [pick_ne (Nat.ne_of_lt (List.mem_range.mp hl))]
      · simp [pick_at]
    rw [hf, e]
  · have e : ∀ (g : Nat → Addr) (z : Addr), (List.range (n + 1)).map (fun l => Value.ref (pick g n z l)) = (List.range n).map (fun l => Value.ref (g l)) ++ [.ref z] := fun g z => by
      rw [List.range_succ, List.map_append]
      congr 1
      · exact List.map_congr_left fun l hl => by rw [pick_ne (Nat.ne_of_lt (List.mem_range.mp hl))]
      · simp [pick_at]
    rw [hg, e]
  · intro i j hi hj h
    by_cases zi : i = n <;> by_cases zj : j = n
    · omega
    · subst zi
      simp only [pick_at, pick_ne zj] at h
      have := W.c1 j (by omega)
      rw [← h, hx2] at this; cases this
    · subst zj
      simp only [pick_at, pick_ne zi] at h
      have := W.c1 i (by omega)
      rw [h, hx2] at this; cases this
    · simp only [pick_ne zi, pick_ne zj] at h
      exact W.cdi i j (by omega) (by omega) h
  · intro i j hi hj h
    by_cases zi : i = n <;> by_cases zj : j = n
    · omega
    · subst zi
      simp only [pick_at, pick_ne zj] at h
      have := W.n1 j (by omega)
      rw [← h, hx3] at this; cases this
    · subst zj
      simp only [pick_at, pick_ne zi] at h
      have := W.n1 i (by omega)
      rw [h, hx3] at this; cases this
    · simp only [pick_ne zi, pick_ne zj] at h
      exact W.ndi i j (by omega) (by omega) h
  · intro l h0 hl
    simp only [p0]
    by_cases z : l = n
    · subst z
      simp only [pick_at]
      rintro rfl
      rw [d1] at hx1; cases hx1
    · simp only [pick_ne z]
      exact W.dri l h0 (by omega)
/- a raised exception leaves a frame -/
theorem dict_mapFields (o : Obj) (f : Array Value → Array Value) : (o.mapFields f).dict = o.dict := by
  obtain ⟨c, d, dt, sl⟩ := o; cases dt <;> rfl
section
variable {M : Model} {A : Around} {E : Value → Shared → Prop} {s : Shared}
theorem note_ {base : Heap} {env : Env} {outer : List Env} {L e : Addr} {oe : Obj} {vs : Array Value} {tb : Value} {Q : Unit → Shared → Prop}
    (hfr : A.frames = some (env :: outer)) (hl : s.heap.FunFrames base (env :: outer)) (hf : env.frame = some L)
    (he : s.heap.get? e = some oe) (hd : oe.data = .fields vs) (h1 : vs[1]? = some tb)
    (htb : tb = .none ∨ ∃ T oT ts, tb = .ref T ∧ T ≠ e ∧ s.heap.get? T = some oT ∧ oT.data = .fields ts ∧ ts[3]? = some .none)
    (h : ∀ h' T' oe' vs' oT' ts', h'.get? e = some oe' → oe'.cls = oe.cls → oe'.dict = oe.dict → oe'.data = .fields vs' → vs'[1]? = some (.ref T') → s.heap.get? T' = none → h'.get? T' = some oT' → oT'.data = .fields ts' → ts'[3]? = some (rawInt L) →
      (∀ b o, s.heap.get? b = some o → b ≠ e → tb ≠ .ref b → b ∉ (env :: outer).filterMap (·.frame) → h'.get? b = some o) →
      (∀ b o, b ∈ (env :: outer).filterMap (·.frame) → s.heap.get? b = some o → ∃ sl, h'.get? b = some { o with slots := sl }) →
      (∀ T, tb = .ref T → ∃ o ts, h'.get? T = some o ∧ o.data = .fields ts ∧ ts[3]? = some .none) → Q () { s with heap := h' }) : wpAny M A (noteFrame (.ref e) env) Q E s := by
  have hsz : 1 < vs.size := (Array.getElem?_eq_some_iff.mp h1).1
  -- the new entry, from any heap that keeps what is asked
  have entry : ∀ (hp : Heap) (head : Value) (hadNext : Bool), hp.get? e = some oe → hp.FunFrames base (env :: outer) → hp.objs.size = s.heap.objs.size → (∀ b o, s.heap.get? b = some o → tb ≠ .ref b → hp.get? b = some o) →
      (∀ T, tb = .ref T → T ≠ e ∧ ∃ o ts, hp.get? T = some o ∧ o.data = .fields ts ∧ ts[3]? = some .none) →
      wpAny M A (do let a ← frameOf env; let pl ← entryPlaceOf L hadNext; let b ← EntryCells.newEntry head a .none (rawInt L) .none pl; setField (.ref e) 1 b) Q E { s with heap := hp } := by
    intro hp head hadNext he' hl' hsize hk hT
    have nofld : ∀ b o vs, hp.get? b = some o → o.data = .fields vs → b ∉ (env :: outer).filterMap (·.frame) := fun b o vs hb hd hm => by
      obtain ⟨_, o', ho', hnf⟩ := hl'.mem hm
      rw [hb] at ho'; cases ho'; exact hnf vs hd
    have hene := nofld e oe vs he' hd
    refine wpAny_bind (wpAny_frameOf_fun (s := { s with heap := hp }) hfr hl' hf fun h₁ hs₁ => ?_)
    refine wpAny_bind (wpAny_entryPlaceOf fun pl hpl => ?_)
    unfold EntryCells.newEntry newFields
    refine wpAny_bind (wpAny_newObj_type ?_ (hpl.sizeOk5 _ _ _ _ _))
    have he₁ : h₁.get? e = some oe := (hs₁.2.1 e hene).trans he'
    generalize hoT : ({ cls := .type "traceback", dict := none, data := .fields ([head, .ref L, .none, rawInt L, .none] ++ (if pl.isEmpty then List.replicate 6 Value.none else pl)).toArray } : Obj) = oT
    have he₂ := Heap.get?_push_of_some (h := h₁) oT he₁
    refine wpAny_setField he₂ hd hsz ?_
    have hTe : h₁.objs.size ≠ e := Nat.ne_of_gt (Heap.lt_size he₁)
    have hd₃ := Obj.data_mapFields hd (·.setIfInBounds 1 (Value.ref h₁.objs.size))
    have he₃ := Heap.get?_update_self (Obj.mapFields (·.setIfInBounds 1 (Value.ref h₁.objs.size))) he₂ (Obj.isFreed_of_fields hd₃)
    have hT₃ := (Heap.get?_update_other (h₁.push oT) (Obj.mapFields (·.setIfInBounds 1 (Value.ref h₁.objs.size))) (Ne.symm hTe)).trans (Heap.get?_push_size h₁ (by subst hoT; rfl))
    have keep : ∀ b o, b ≠ e → h₁.get? b = some o → ((h₁.push oT).update e (Obj.mapFields (·.setIfInBounds 1 (Value.ref h₁.objs.size)))).get? b = some o := fun b o hbe hb => by
      rw [Heap.get?_update_other _ _ (Ne.symm hbe)]
      exact Heap.get?_push_of_some _ hb
    refine h _ h₁.objs.size _ _ oT _ he₃ (Obj.cls_mapFields _ _) (dict_mapFields _ _) hd₃ (by simp [hsz]) ?_ hT₃ (by subst hoT; rfl) (by first | (simp; done) | (rcases hpl with rfl | ⟨_, _, _, _, _, _, _, rfl⟩ <;> simp)) ?_ ?_ ?_
    · exact none_of_ge (by rw [show h₁.objs.size = hp.objs.size from hs₁.1, hsize]; exact Nat.le_refl _)
    · intro b o hb hbe hbt hbf
      exact keep b o hbe ((hs₁.2.1 b hbf).trans (hk b o hb hbt))
    · intro b o hm hb
      have hbe : b ≠ e := fun z => by
        subst z
        exact hene hm
      have hbt : tb ≠ .ref b := fun z => by
        obtain ⟨_, o', ts, ho', hd', _⟩ := hT b z
        exact nofld b o' ts ho' hd' hm
      obtain ⟨sl, hs⟩ := hs₁.2.2 b o (hk b o hb hbt)
      exact ⟨sl, keep b _ hbe hs⟩
    · intro T hTT
      obtain ⟨hne, o, ts, ho, hdd, h3⟩ := hT T hTT
      exact ⟨o, ts, keep T o hne ((hs₁.2.1 T (nofld T o ts ho hdd)).trans ho), hdd, h3⟩
  unfold noteFrame
  simp only [hf]
  refine wpAny_bind (wpAny_field he hd h1 ?_)
  rcases htb with rfl | ⟨T, oT, ts, rfl, hTe, hT, hdT, h3⟩
  · rw [if_neg (by decide)]
    exact entry s.heap _ _ he hl rfl (fun b o hb _ => hb) fun T z => by cases z
  · rw [if_pos (show (Value.ref T != Value.none) = true from by simp)]
    refine wpAny_bind (wpAny_field hT hdT h3 ?_)
    rw [if_neg (show ¬ ((Value.none == rawInt L) = true) from by simp [rawInt])]
    have hsz3 := (Array.getElem?_eq_some_iff.mp h3).1
    refine wpAny_bind (wpAny_setField hT hdT hsz3 ?_)
    have other : ∀ b, b ≠ T → (s.heap.update T (Obj.mapFields (·.setIfInBounds 3 Value.none))).get? b = s.heap.get? b := fun b hb => Heap.get?_update_other _ _ (Ne.symm hb)
    have noRecord : ∀ b o, s.heap.get? b = some o → (∀ vs, o.data ≠ .fields vs) → b ≠ T := fun b o hb hnf q => by
      rw [q, hT] at hb; cases hb; exact hnf ts hdT
    refine entry _ _ _ ((other e (Ne.symm hTe)).trans he) (hl.of_keeps fun b o hb hnf => ⟨o, (other b (noRecord b o hb hnf)).trans hb, rfl⟩) (Heap.size_after_update ..) (fun b o hb hbt => (other b fun z => hbt (by rw [z])).trans hb) fun T' z => ?_
    cases z
    exact ⟨hTe, _, _, Heap.get?_update_self _ hT (Obj.isFreed_of_fields (Obj.data_mapFields hdT _)), Obj.data_mapFields hdT _, by simp [hsz3]⟩
theorem flight_ {e T : Addr} {oe oT : Obj} {vs ts : Array Value} {fl : Value} {Q : Unit → Shared → Prop} (he : s.heap.get? e = some oe) (hd : oe.data = .fields vs) (h1 : vs[1]? = some (.ref T)) (hT : s.heap.get? T = some oT) (hdT : oT.data = .fields ts) (h3 : ts[3]? = some fl)
    (h : ∀ h' oT' ts', h'.get? T = some oT' → oT'.data = .fields ts' → ts'[3]? = some .none → (∀ b o, s.heap.get? b = some o → b ≠ T → h'.get? b = some o) → Q () { s with heap := h' }) : wpAny M A (setFlight (.ref e) none) Q E s := by
  have hsz3 : 3 < ts.size := (Array.getElem?_eq_some_iff.mp h3).1
  unfold setFlight
  refine wpAny_bind (wpAny_field he hd h1 ?_)
  rw [if_pos (show (Value.ref T != Value.none) = true from by simp)]
  exact wpAny_setField hT hdT hsz3 (h _ _ _ (Heap.get?_update_self _ hT (Obj.isFreed_of_fields (Obj.data_mapFields hdT _))) (Obj.data_mapFields hdT _) (by simp [hsz3]) fun b o hb hbT => (Heap.get?_update_other _ _ (Ne.symm hbT)).trans hb)
end
noncomputable def FrL (l : List Env) (stk : List (Addr × Hid)) (L : Addr) : Prop := ∀ env ∈ l, env.scope.kind ≠ .module ∧ ∃ a, env.frame = some a ∧ (a = L ∨ ∃ m, (a, Hid.fr m) ∈ stk)
noncomputable def Frs (A : Around) (stk : List (Addr × Hid)) (L : Addr) : Prop := ∃ l, A.frames = some l ∧ FrL l stk L
theorem Frs.deeper {A : Around} {stk : List (Addr × Hid)} {L L' : Addr} {m : Fld} {qual : Str} {scope : Scope} {f : Addr} {cdv : Value} {cl : List (Str × Addr)} (F : Frs A stk L) (hk : scope.kind = .function) : Frs (A.deeper (envX qual scope L' f cdv cl)) ((L, .fr m) :: stk) L' := by
  obtain ⟨l, e, h⟩ := F
  refine ⟨_, Around.frames_deeper e, fun env he => ?_⟩
  rcases List.mem_cons.mp he with rfl | he
  · exact ⟨by show scope.kind ≠ _; rw [hk]; decide, L', rfl, .inl rfl⟩
  · obtain ⟨h1, a, h2, h3⟩ := h env he
    refine ⟨h1, a, h2, .inr ?_⟩
    rcases h3 with rfl | ⟨m', h3⟩
    · exact ⟨m, List.mem_cons_self⟩
    · exact ⟨m', List.mem_cons_of_mem _ h3⟩
section
variable {G : Gd} {A : Around} {stk : List (Addr × Hid)} {L : Addr} {m : Fld} {led : Led} {E : Value → Shared → Prop}
theorem FrL.fun {l : List Env} {h : Heap} (F : FrL l stk L) (I : Inv G stk L m led h) : h.FunFrames G.base l := by
  induction l with
  | nil => trivial
  | cons env rest ih =>
    obtain ⟨h1, a, h2, h3⟩ := F env (.head _)
    refine ⟨h1, ?_, ih fun e he => F e (.tail _ he)⟩
    rcases h3 with rfl | ⟨m', h3⟩
    · obtain ⟨o, es, ep, ho, hd, _⟩ := I.ns
      exact ⟨_, o, h2, none_of_ge I.above, ho, fun vs z => by rw [hd] at z; cases z⟩
    · obtain ⟨⟨⟨o, es, ep, ho, hd, _⟩, hb⟩, _⟩ := I.sk _ h3
      exact ⟨_, o, h2, none_of_ge hb, ho, fun vs z => by rw [hd] at z; cases z⟩
theorem FrL.mem {l : List Env} (F : FrL l stk L) {b : Addr} (hb : b ∈ l.filterMap (·.frame)) : b = L ∨ ∃ m, (b, Hid.fr m) ∈ stk := by
  obtain ⟨env, he, hf⟩ := List.mem_filterMap.mp hb
  obtain ⟨_, a, h2, h3⟩ := F env he
  rw [hf] at h2
  cases h2
  exact h3
theorem ns_slots {h h' : Heap} {a : Addr} {m : Fld} (x : h.Ns a m) (k : ∀ o, h.get? a = some o → ∃ sl, h'.get? a = some { o with slots := sl }) : h'.Ns a m := by
  obtain ⟨o, es, ep, ho, hd, r⟩ := x
  obtain ⟨sl, hs⟩ := k o ho
  exact ⟨_, es, ep, hs, hd, r⟩
/-- the exception, its traceback and the frames turn; all else stays -/
theorem Inv.note {l : List Env} {h h' : Heap} {e T' : Addr} {t tT : Nat} {C : Addr} {d : Option Addr} {tb fl : Value} (F : FrL l stk L) (I : Inv G stk L m led h) (he : led e = some (t, .exc C d tb)) (htb : tb = .none ∨ ∃ T t', tb = .ref T ∧ led T = some (t', .trb .none))
    (he' : Rep G h' e (.exc C d (.ref T'))) (hT' : Rep G h' T' (.trb fl)) (hn : h.get? T' = none)
    (hk : ∀ b o, h.get? b = some o → b ≠ e → tb ≠ .ref b → b ∉ l.filterMap (·.frame) → h'.get? b = some o)
    (hs : ∀ b o, b ∈ l.filterMap (·.frame) → h.get? b = some o → ∃ sl, h'.get? b = some { o with slots := sl })
    (hold : ∀ T, tb = .ref T → Rep G h' T (.trb .none)) : led T' = none ∧ Inv G stk L m (up (up led T' (tT, .trb fl)) e (t, .exc C d (.ref T'))) h' := by
  have I0 := I
  have hTn : led T' = none := by
    cases q : led T' with
    | none => rfl
    | some x =>
      obtain ⟨t, o⟩ := x
      obtain ⟨y, hy⟩ := (I.led _ _ _ q).1.some
      rw [hn] at hy; cases hy
  have fl_ : ∀ b, b ∈ l.filterMap (·.frame) → b ∈ L :: stk.map Prod.fst := fun b hb => by
    rcases F.mem hb with rfl | ⟨m', hm⟩
    · exact List.mem_cons_self
    · exact List.mem_cons_of_mem _ (List.mem_map.mpr ⟨_, hm, rfl⟩)
  have off : ∀ b, b ∈ L :: stk.map Prod.fst → b ≠ e ∧ tb ≠ .ref b := fun b hb => by
    refine ⟨fun z => ?_, fun z => ?_⟩
    · subst z; exact (I.led _ _ _ he).2.2 hb
    · subst z
      rcases htb with z | ⟨T, t', z, hT⟩
      · cases z
      · cases z; exact (I.led _ _ _ hT).2.2 hb
  have bfl : ∀ b, b ∈ l.filterMap (·.frame) → G.base.get? b = none := fun b hb => by
    rcases F.mem hb with rfl | ⟨m', hm⟩
    · exact none_of_ge I.above
    · exact (I.sk _ hm).2
  have frame : ∀ b o, b ∈ L :: stk.map Prod.fst → h.get? b = some o → ∃ sl, h'.get? b = some { o with slots := sl } := fun b o hb ho => by
    by_cases z : b ∈ l.filterMap (·.frame)
    · exact hs b o z ho
    · exact ⟨o.slots, hk b o ho (off b hb).1 (off b hb).2 z⟩
  refine ⟨hTn, ⟨fun b o q => ?_, ns_slots I.ns fun o ho => frame L o List.mem_cons_self ho, I.above, I.nd, fun p hp => ?_, fun a ta oa q => ?_⟩⟩
  · refine hk b o (I.keep b o q) (fun z => ?_) (fun z => ?_) fun z => ?_
    · subst z; rw [I.old he] at q; cases q
    · subst z
      rcases htb with z | ⟨T, t', z, hT⟩
      · cases z
      · cases z; rw [I.old hT] at q; cases q
    · rw [bfl b z] at q; cases q
  · have hm : p.1 ∈ L :: stk.map Prod.fst := List.mem_cons_of_mem _ (List.mem_map_of_mem hp)
    obtain ⟨h1, h2⟩ := I.sk p hp
    refine ⟨?_, h2⟩
    obtain ⟨a, H⟩ := p
    cases H with
    | fr m' => exact ⟨ns_slots h1.1 fun o ho => frame a o hm ho, h1.2⟩
    | ob P =>
      obtain ⟨o, ho, hP⟩ := h1
      refine ⟨o, hk a o ho (off a hm).1 (off a hm).2 fun z => ?_, hP⟩
      rcases F.mem z with rfl | ⟨m', hm'⟩
      · exact (List.nodup_cons.mp I.nd).1 (List.mem_map.mpr ⟨_, hp, rfl⟩)
      · obtain ⟨i, hi, q1⟩ := List.mem_iff_getElem.mp hp
        obtain ⟨j, hj, q2⟩ := List.mem_iff_getElem.mp hm'
        have nd := (List.nodup_cons.mp I.nd).2
        have : i = j := by
          have h1 : (stk.map Prod.fst)[i]'(by simpa using hi) = a := by simp [q1]
          have h2 : (stk.map Prod.fst)[j]'(by simpa using hj) = a := by simp [q2]
          exact (List.getElem_inj nd).mp (h1.trans h2.symm)
        subst this
        rw [q1] at q2; cases q2
  · by_cases z : a = e
    · subst z
      rw [up_eq] at q; cases q
      exact ⟨he', (I.led _ _ _ he).2⟩
    · rw [up_ne z] at q
      by_cases z2 : a = T'
      · subst z2
        rw [up_eq] at q; cases q
        refine ⟨hT', ?_, fun hm => ?_⟩
        · cases q : G.base.get? a with
          | none => rfl
          | some o => have := I.keep _ _ q; rw [hn] at this; cases this
        · rcases List.mem_cons.mp hm with z | z
          · obtain ⟨o, _, _, e, _⟩ := I.ns; rw [← z, hn] at e; cases e
          · obtain ⟨q, hq, z⟩ := List.mem_map.mp z
            obtain ⟨y, hy⟩ := (I.sk q hq).1.some
            rw [z, hn] at hy; cases hy
      · rw [up_ne z2] at q
        obtain ⟨r1, r2, r3⟩ := I.led a ta oa q
        refine ⟨?_, r2, r3⟩
        by_cases z3 : tb = .ref a
        · have r := hold a z3
          rcases htb with y | ⟨T, t', y, hT⟩
          · rw [y] at z3; cases z3
          · rw [y] at z3; cases z3
            rw [q] at hT; cases hT
            exact r
        · exact r1.at fun o ho => hk a o ho z z3 fun hm => r3 (fl_ a hm)
theorem note_I {env : Env} {outer : List Env} {h : Heap} {tk : Nat} {e : Addr} {t : Nat} {C : Addr} {d : Option Addr} {tb : Value} {Q : Unit → Shared → Prop} (tT : Nat) (hfr : A.frames = some (env :: outer)) (F : FrL (env :: outer) stk L) (hf : env.frame = some L) (I : Inv G stk L m led h)
    (he : led e = some (t, .exc C d tb)) (htb : tb = .none ∨ ∃ T t', tb = .ref T ∧ led T = some (t', .trb .none))
    (H : ∀ h' T', led T' = none → Inv G stk L m (up (up led T' (tT, .trb (rawInt L))) e (t, .exc C d (.ref T'))) h' → Q () (G.sh h' tk)) : wpAny (model G.prog G.w) A (noteFrame (.ref e) env) Q E (G.sh h tk) := by
  obtain ⟨oe, vs, e1, e2, e3, e4, e5⟩ := (I.led e t _ he).1
  refine note_ (s := G.sh h tk) (base := G.base) hfr (F.fun I) hf e1 e4 e5 ?_ fun h' T' oe' vs' oT' ts' k1 k2 k3 k4 k5 k6 k7 k8 k9 ka kb kc => ?_
  · rcases htb with z | ⟨T, t', rfl, hT⟩
    · exact .inl z
    · obtain ⟨oT, ts, t1, t2, t3⟩ := (I.led T t' _ hT).1
      exact .inr ⟨T, oT, ts, rfl, ne_kd hT he rfl, t1, t2, t3⟩
  · obtain ⟨r1, r2⟩ := I.note (tT := tT) (fl := rawInt L) F he htb ⟨oe', vs', k1, k2.trans e2, k3.trans e3, k4, k5⟩ ⟨oT', ts', k7, k8, k9⟩ k6 ka kb fun T z => by
      obtain ⟨o, ts, y⟩ := kc T z
      exact ⟨o, ts, y⟩
    exact H h' T' r1 r2
theorem flight_I {h : Heap} {tk : Nat} {e T : Addr} {t tT : Nat} {C : Addr} {d : Option Addr} {fl : Value} {Q : Unit → Shared → Prop} (I : Inv G stk L m led h) (he : led e = some (t, .exc C d (.ref T))) (hT : led T = some (tT, .trb fl))
    (H : ∀ h', Inv G stk L m (up led T (tT, .trb .none)) h' → Q () (G.sh h' tk)) : wpAny (model G.prog G.w) A (setFlight (.ref e) none) Q E (G.sh h tk) := by
  obtain ⟨oe, vs, e1, e2, e3, e4, e5⟩ := (I.led e t _ he).1
  obtain ⟨oT, ts, t1, t2, t3⟩ := (I.led T tT _ hT).1
  refine flight_ (s := G.sh h tk) e1 e4 e5 t1 t2 t3 fun h' oT' ts' k1 k2 k3 k4 => H h' ?_
  exact I.put hT (ns_at I.ns fun o ho => k4 L o ho (I.neL hT).symm) (fun b x hb hne _ => k4 b x hb hne) ⟨oT', ts', k1, k2, k3⟩
/-- the exception leaves a function's frame -/
theorem leav_I {L0 : Addr} {m0 : Fld} {qual : Str} {scope : Scope} {f : Addr} {cdv : Value} {cl : List (Str × Addr)} {h : Heap} {tk : Nat} {e : Addr} {t : Nat} {C : Addr} {d : Option Addr} {tb : Value} (tT : Nat) (F : Frs A stk L0) (hk : scope.kind = .function) (I : Inv G ((L0, .fr m0) :: stk) L m led h)
    (he : led e = some (t, .exc C d tb)) (htb : tb = .none ∨ ∃ T t', tb = .ref T ∧ led T = some (t', .trb .none))
    (H : ∀ h' T', led T' = none → Inv G stk L0 m0 (up (up led e (t, .exc C d (.ref T'))) T' (tT, .trb .none)) h' → E (.ref e) (G.sh h' tk)) : Leav G A (envX qual scope L f cdv cl) E (.ref e) (G.sh h tk) := by
  have F' := F.deeper (L' := L) (m := m0) (qual := qual) (f := f) (cdv := cdv) (cl := cl) hk
  obtain ⟨l, e1, h1⟩ := F
  obtain ⟨l', e1', h1'⟩ := F'
  have : l' = envX qual scope L f cdv cl :: l := by
    have := Around.frames_deeper (env := envX qual scope L f cdv cl) e1
    rw [e1'] at this; cases this; rfl
  subst this
  show wpAny _ _ (leaving _ _) _ _ _
  unfold leaving
  refine wpAny_bind (note_I tT e1' h1' rfl I he htb fun h' T' hT' I' => ?_)
  have hne : T' ≠ e := fun z => by rw [z, he] at hT'; cases hT'
  refine flight_I I' (up_eq _ _ _) (by rw [up_ne hne]; exact up_eq _ _ _) fun h'' I'' => ?_
  rw [up_comm led hne, up_up] at I''
  exact H h'' T' hT' I''.pop
end
section PX2
set_option maxRecDepth 100000
/- an object of an own exception class over an own one is made -/
section
variable {prog : Program} {w : World} {A : Around} {E : Value → Shared → Prop} {h : Heap} {g : Array GenState} {d : Drawn} {t : Nat} {os : OsState}
variable {nm q : Str} {C N : Addr} {bs bm bmB : List Value} {hdct : Bool} {sn : List Str} {sub : List Value} {ab : Bool} {col : Option Bool} {dd : Option Addr} {k0 k1 k2 k3 k5 : Option Value} {B newId initId : String}
theorem xc_check_new (F : ExcBaseFacts B newId initId bmB) (hcB : (Value.ref C :: bm).contains (.type B) = true) {M : Model} {rest : List Value} {Q : Unit → Shared → Prop}
    (hC : h.get? C = some (excClassObj nm q C N bs bm hdct sn sub ab col dd k0 k1 k2 k3 k5 newId)) (hq : Q () ⟨h, g, d, t, os⟩) : wpAny M A (checkBuiltinCall newId ⟨.ref C :: rest, []⟩) Q E ⟨h, g, d, t, os⟩ := by
  have hstar := F.noStar
  simp only [checkBuiltinCall, F.newKind, F.newSplit, F.newRow]
  repeat (first | refine wpAny_loadPart_at hC ?_ | (refine wpAny_isSubtype_exc hC ?_; rw [hcB]) | refine wpAny_staticBase_exc hC ?_ | refine wpAny_madeBy_exc hC ?_ | simp only [bne_self_eq_false, Bool.false_eq_true, if_false] | wp_step)
  exact hq
theorem xc_check_init (F : ExcBaseFacts B newId initId bmB) (hcB : (Value.ref C :: bm).contains (.type B) = true) {M : Model} {e : Addr} {oe : Obj} {rest : List Value} {Q : Unit → Shared → Prop}
    (hC : h.get? C = some (excClassObj nm q C N bs bm hdct sn sub ab col dd k0 k1 k2 k3 k5 newId)) (he : h.get? e = some oe) (hcls : oe.cls = .ref C) (hq : Q () ⟨h, g, d, t, os⟩) : wpAny M A (checkBuiltinCall initId ⟨.ref e :: rest, []⟩) Q E ⟨h, g, d, t, os⟩ := by
  have hshort := F.noStar
  simp only [checkBuiltinCall, F.initKind, F.initSplit, F.initRow]
  repeat (first | (with_reducible refine wpAny_loadPart_at he ?_; rw [hcls]) | with_reducible refine wpAny_loadPart_at hC ?_ | (with_reducible refine wpAny_isSubtype_exc hC ?_; rw [hcB]) | wp_step)
  refine wpAny_onRaise ?_
  rw [show ∀ (a b : String) (n : Nat), Bind.check ⟨.positional, "*", B, .self, [⟨"args", .varPos, false⟩]⟩ a b n (List.map (fun x => x.fst) ({ pos := Value.ref e :: rest } : Args).kw) = pure () from
    fun a b n => check_star_args _ _ _ _ _ _]
  exact wpAny_pure hq
theorem xc_new (F : ExcBaseFacts B newId initId bmB) (hcB : (Value.ref C :: bm).contains (.type B) = true) (hcA : (Value.ref C :: bm).contains (.type "AttributeError") = false) (hcN : (Value.ref C :: bm).contains (.type "NameError") = false) {R : Result → Shared → Prop} {rest : List Value}
    (hC : h.get? C = some (excClassObj nm q C N bs bm hdct sn sub ab col dd k0 k1 k2 k3 k5 newId))
    (hq : R (.ok (.ret (.ref (h.objs.size + 1)))) ⟨(h.push { cls := .type "tuple", data := .seq rest.toArray }).push { cls := .ref C, data := .fields #[.ref h.objs.size, .none, .none, .none, .bool false, .none] }, g, d, t, os⟩) (hrest : rest.length ≤ sizeLine) :
    codeAny (model prog w) A (.builtin newId ⟨.ref C :: rest, []⟩) R ⟨h, g, d, t, os⟩ := by
  have hends := F.ends
  refine codeAny_builtinAt F.entry ?_
  unfold Builtin.«BaseException.__new__»
  refine PySem.wpAt_bind ?_
  show PySem.wpAt _ _ _ (stack >>= _) _ _ _
  refine PySem.wpAt_bind (PySem.wpAt_stack fun p below => PySem.wpAt_of_wpAny ?_)
  wp_walk
  refine PySem.wpAt_of_wpAny ?_
  rw [F.owner]
  repeat (first | with_reducible refine wpAny_madeHere_exc F.canon hC ?_ | with_reducible refine wpAny_loadPart_at hC ?_ | (with_reducible refine wpAny_isSubtype_exc hC ?_; first | rw [hcB] | rw [hcA] | rw [hcN]) | wp_step)
  show R _ _
  rw [Heap.size_push]
  exact hq
theorem xc_type_call (F : ExcBaseFacts B newId initId bmB) (hcB : (Value.ref C :: bm).contains (.type B) = true) (hcA : (Value.ref C :: bm).contains (.type "AttributeError") = false) (hcN : (Value.ref C :: bm).contains (.type "NameError") = false) {rest : List Value} {fI : Addr} {oI : Obj} {Q : Fin → Shared → Prop}
    (hC : h.get? C = some (excClassObj nm q C N bs bm hdct sn sub ab col dd k0 k1 k2 k3 k5 newId)) (hi : Looks (model prog w) h (typeLookup (.ref C) "__init__") (some (.ref fI))) (hfI : h.get? fI = some oI) (hfc : oI.cls = .type "function")
    (hq : ∀ h' e, Heap.MadeExcOf h h' e (.ref C) rest → wpAny (model prog w) A (call (.ref fI) (.ref e :: rest)) (fun r s' => r = .none ∧ Q (.done (.ret (.ref e))) s') E ⟨h', g, d, t, os⟩) (hrest : rest.length ≤ sizeLine) :
    wpAny (model prog w) A (Builtin.«type.__call__» ⟨.ref C :: rest, []⟩) Q E ⟨h, g, d, t, os⟩ := by
  repeat (first | with_reducible refine wpAny_loadPart_at hC ?_ | with_reducible refine wpAny_madeBy_exc hC ?_ | wp_step)
  refine codeAny_call_builtin_code (Code.quiet_builtin _ F.quiet) (xc_check_new F hcB hC ?_)
  refine xc_new F hcB hcA hcN hC ?_ hrest
  show wpAny _ _ _ _ _ _
  have up : ∀ b o, h.get? b = some o → ((h.push { cls := .type "tuple", data := .seq rest.toArray }).push { cls := .ref C, data := .fields #[.ref h.objs.size, .none, .none, .none, .bool false, .none] }).get? b = some o := fun b o e => Heap.get?_push_of_some _ (Heap.get?_push_of_some _ e)
  have hC₁ := up _ _ hC
  have hfI₁ := up _ _ hfI
  have hget : ((h.push { cls := .type "tuple", data := .seq rest.toArray }).push
      { cls := .ref C, data := .fields #[.ref h.objs.size, .none, .none, .none, .bool false, .none] }).get? (h.objs.size + 1) = some
      { cls := .ref C, data := .fields #[.ref h.objs.size, .none, .none, .none, .bool false, .none] } := by heap_get
  have hcC : (Value.ref C :: bm).contains (.ref C) = true := by simp
  unfold isInstance
  repeat (first | with_reducible refine wpAny_loadPart_at hget ?_ | (with_reducible refine wpAny_isSubtype_exc hC₁ ?_; rw [hcC]) | wp_step)
  show wpAny _ _ (typeLookup (.ref C) _) _ _ _
  refine (hi.keeps up).at ?_
  refine wpAny_holding (wpAny_bind ?_)
  unfold bindSpecial
  refine wpAny_bind (wpAny_typeOf (T := "function") ⟨_, hfI₁, hfc⟩ ?_)
  rw [if_pos (by decide)]
  refine wpAny_pure (wpAny_bind (wpAny_mono (hq _ (h.objs.size + 1) ⟨fun b o hb => Heap.get?_push_of_some _ (Heap.get?_push_of_some _ hb), Heap.get?_none_of_le (Nat.le_succ _), h.objs.size, hget, Heap.get?_none_of_le (Nat.le_refl _), ?_⟩) (fun r s' hr => ?_) fun _ _ x => x))
  · exact Heap.get?_push_of_some _ (Heap.get?_push_at rfl rfl)
  · obtain ⟨rfl, hQ⟩ := hr
    wp_walk
    exact hQ
theorem xc_call (F : ExcBaseFacts B newId initId bmB) (hcB : (Value.ref C :: bm).contains (.type B) = true) (hcA : (Value.ref C :: bm).contains (.type "AttributeError") = false) (hcN : (Value.ref C :: bm).contains (.type "NameError") = false) {rest : List Value} {fI : Addr} {oI : Obj} {R : Result → Shared → Prop}
    (hC : h.get? C = some (excClassObj nm q C N bs bm hdct sn sub ab col dd k0 k1 k2 k3 k5 newId)) (hi : Looks (model prog w) h (typeLookup (.ref C) "__init__") (some (.ref fI))) (hfI : h.get? fI = some oI) (hfc : oI.cls = .type "function")
    (hq : ∀ h' e, Heap.MadeExcOf h h' e (.ref C) rest → codeAny (model prog w) (A.under (.builtin "type.__call__" ⟨.ref C :: rest, []⟩)) (.call (.ref fI) ⟨.ref e :: rest, []⟩) (InitBack e R) ⟨h', g, d, t, os⟩) (hrest : rest.length ≤ sizeLine) :
    codeAny (model prog w) A (.call (.ref C) ⟨rest, []⟩) R ⟨h, g, d, t, os⟩ := by
  have f1 := tc_lookup
  have f2 := tc_bind (.ref C)
  have hT : (⟨h, g, d, t, os⟩ : Shared).TypeIs (.ref C) "type" := ⟨_, hC, rfl⟩
  refine codeAny_of_tree ?_
  show wpAny _ _ (callAny (.ref C) _) _ _ _
  repeat (any_goals (first | assumption | with_reducible refine wpAny_loadPart_at hC ?_ | wp_step))
  refine ⟨rfl, ?_⟩
  refine codeAny_call_builtin_at (Code.quiet_builtin _ (by decide +kernel)) entry_typeCall (wpAny_check_type_call_sub hC (xc_type_call (hrest := hrest) F hcB hcA hcN hC hi hfI hfc fun h' e hm => ?_))
  refine wpAny_call (codeAny_mono (hq h' e hm) fun r s' z => ?_)
  rcases r with e | (v | _ | _ | _) <;> first | exact z | exact z.elim | skip
end
/- raise -/
section
variable {M : Model} {A : Around} {E : Value → Shared → Prop} {h : Heap} {g : Array GenState} {d : Drawn} {t : Nat} {os : OsState}
variable {nm q : Str} {C N : Addr} {bs bm bmB : List Value} {hdct : Bool} {sn : List Str} {sub : List Value} {ab : Bool} {col : Option Bool} {dd : Option Addr} {k0 k1 k2 k3 k5 : Option Value} {B newId initId : String} {env : Env}
theorem xc_raise {s : Shared} {x : Sem Value} {Q : Flow → Shared → Prop} (hcB : (Value.ref C :: bm).contains (.type "BaseException") = true) (hh : A.handled = none)
    (h : wpAny M A x (fun v s₁ => ∃ e oe vs, v = .ref e ∧ s₁.heap.get? C = some (excClassObj nm q C N bs bm hdct sn sub ab col dd k0 k1 k2 k3 k5 newId) ∧ s₁.heap.get? e = some oe ∧ oe.cls = .ref C ∧ oe.data = .fields vs ∧ vs[1]? = some .none ∧ E (.ref e) s₁) E s) :
    wpAny M A (raiseStmt env (some x) none) Q E s := by
  unfold raiseStmt
  refine wpAny_bind (wpAny_mono h (fun v s₁ h₁ => ?_) fun _ _ x => x)
  obtain ⟨e, oe, vs, rfl, hC, he, hc, hd, h1, hE⟩ := h₁
  obtain ⟨hp, g, d, tk, os⟩ := s₁
  obtain ⟨oc, od, odt, osl⟩ := oe
  dsimp only at hc hd
  subst hc hd
  repeat (first | with_reducible refine wpAny_field he rfl h1 ?_ | with_reducible refine wpAny_loadPart_at he ?_ | with_reducible refine wpAny_loadPart_at hC ?_ | (with_reducible refine wpAny_isSubtype_exc hC ?_; rw [hcB]) | wp_step)
  exact wpAny_raiseNew_none hh hE
end
end PX2
section PX3
open PySem PySem.W PyProof.Rows PySem.Calls Builtin Builtin.ObjectAttr
set_option maxRecDepth 100000
theorem cls70 (p : Params) : ∃ k0 k1 k2 k3 k5 hd, List.lookup 70 (tpx.heap_39 p) = some (excClassObj "AdaRaise" "AdaRaise" 70 69 [.ref 31] [.ref 31, .type "Exception", .type "BaseException", .type "object"] hd [] [] false none none k0 k1 k2 k3 k5 "Exception.__new__") :=
  ⟨_, _, _, _, _, _, by k_is⟩
/- attributes of an exception of an own class -/
section
variable {prog : Program} {w : World} {A : Around} {E : Value → Shared → Prop} {R : Result → Shared → Prop} {s : Shared} {K : Frag} {x C dx : Addr} {ox : Obj} {od : Option Obj} {cd : ClassData} {name : Str} {v : Value} {tk : Tok} {es : List DictEntry} {n : Nat}
theorem xs_open (X : K.In s.heap) (I : InstAt s.heap x ox C od) (hc : clsIn K C = some cd) (ho : mroIn K C (.type "object") = some true) (hp : refuseLoop (.ref x) "__setattr__" cd.mro = pure ()) (ht : takerIn K C name = some none)
    (h : ∀ b, wpAny (model prog w) A.in1 (storeInOwnDict (.ref x) (.ref C) (.str name tk) name v b)
      (fun fin s' => match fin with | .done f => R (.ok f) s' | .again c' => c'.quiet = true ∧ codeAny (model prog w) A c' R s') (fun e s' => R (.error e) s') s) :
    codeAny (model prog w) A (.call (.builtin "object.__setattr__") ⟨[.ref x, .str name tk, v], []⟩) R s := by
  have SF := PySem.F.store_object
  have sub : Looks (model prog w) s.heap (isInstance (.ref x) (.type "object")) true := I.type.andThen (looks_mroIn X ho)
  refine codeAny_call_builtin SF.slot.plain SF.entry (@check_slot (model prog w) _ _ s "object.__setattr__" "object" "__setattr__" (.ref x) [.str name tk, v] [] _ SF.kind SF.split sub (SF.args (.ref x) (.str name tk) v) ?_)
  obtain ⟨attr, ha, hr⟩ := Option.bind_eq_some_iff.mp ht
  have hm : Looks (model prog w) s.heap (mroOf (.ref C)) cd.mro := (looks_clsIn X hc).andThen .now
  have L3 : Looks (model prog w) s.heap (storeTaker? attr) none := by
    cases attr with
    | none => exact .now
    | some a =>
      obtain ⟨b, hb, q⟩ := Option.map_eq_some_iff.mp hr
      refine (looks_takesIn X hb).andThen ?_
      cases b with
      | true => cases q
      | false => exact .now
  rw [osa_eq, refuse_eq]
  refine wpAny_bind (wpAny_bind (I.type.here (wpAny_bind (hm.here ?_))))
  rw [hp]
  exact wpAny_pure (wpAny_bind (I.type.here (wpAny_bind ((looks_findIn X ha).here (wpAny_bind (L3.here (h _)))))))
theorem xs_ns {Q : Fin → Shared → Prop} (D : s.heap.get? dx = some (dictOf es n)) (hr : es.any (·.refKey) = false) (hz : (putL name (PyData.keyHash w.params name) (.str name s.toks) v es).length ≤ 1000)
    (h : ∀ h', h'.get? dx = some (dictOf (putL name (PyData.keyHash w.params name) (.str name s.toks) v es) (putN name es n)) → (∀ b o, s.heap.get? b = some o → b ≠ dx → h'.get? b = some o) → Q (.done (.ret .none)) { s with heap := h', toks := s.toks + 1 }) :
    wpAny (model prog w) A (storeInDict dx (.str name tk) name v) Q E s := by
  unfold storeInDict newKeyGuard
  refine wpAny_bind (wpAny_pure (wpAny_bind ?_))
  unfold nsSet
  refine wpAny_bind (wpAny_bind (wpAny_askSetting (wpAny_pure (wpAny_bind (wpAny_mkText (wpAny_bind (wpAny_loadPart D ?_)))))))
  dsimp only [dictOf]
  have c : (!es.toArray.any (·.key.isStr name) && es.toArray.any (·.refKey)) = false := by
    rw [← Array.any_toList, ← Array.any_toList]
    simp only [hr, Bool.and_false]
  rw [aRefKeyMayBeTheName_at, c]
  have D' : (s.heap.update dx (Obj.putName name (PyData.keyHash w.params name) (.str name s.toks) v)).get? dx = some (dictOf (putL name (PyData.keyHash w.params name) (.str name s.toks) v es) (putN name es n)) := by
    rw [Heap.get?_update_self _ D (by rw [putName_dict]; rfl), putName_dict]
  refine wpAny_updatePart D ?_
  refine wpAny_bind (wpAny_lookBehind D' (pastItsLine_dict (by rw [List.size_toArray, sizeLine_eq]; omega)) ?_)
  exact wpAny_pure (h _ D' fun b o hb hne => (Heap.get?_update_other _ _ (Ne.symm hne)).trans hb)
theorem xs_some {Q : Fin → Shared → Prop} {b : Bool} (X : K.In s.heap) (hx : s.heap.get? x = some ox) (hcl : ox.cls = .ref C) (hd : ox.dict = some dx) (hc : clsIn K C = some cd) (hh : cd.hasDict = true) (D : s.heap.get? dx = some (dictOf es n)) (hr : es.any (·.refKey) = false) (hz : (putL name (PyData.keyHash w.params name) (.str name s.toks) v es).length ≤ 1000)
    (h : ∀ h', h'.get? dx = some (dictOf (putL name (PyData.keyHash w.params name) (.str name s.toks) v es) (putN name es n)) → (∀ b o, s.heap.get? b = some o → b ≠ dx → h'.get? b = some o) → Q (.done (.ret .none)) { s with heap := h', toks := s.toks + 1 }) :
    wpAny (model prog w) A (storeInOwnDict (.ref x) (.ref C) (.str name tk) name v b) Q E s := by
  obtain ⟨oc, odi, oda, osl⟩ := ox
  dsimp only at hcl hd
  subst hcl hd
  refine wpAny_bind (wpAny_pure (wpAny_bind (wpAny_bind (wpAny_loadPart hx (wpAny_bind ((looks_clsIn X hc).here ?_))))))
  rw [hh]
  refine wpAny_pure (a := some dx) ?_
  exact xs_ns D hr hz h
theorem xs_none {Q : Fin → Shared → Prop} {b : Bool} {vs : Array Value} (X : K.In s.heap) (hx : s.heap.get? x = some ox) (hcl : ox.cls = .ref C) (hd : ox.dict = none) (hv : ox.data = .fields vs) (hc : clsIn K C = some cd) (hh : cd.hasDict = true)
    (h : ∀ h' dx, s.heap.get? dx = none → h'.get? dx = some (dictOf (putL name (PyData.keyHash w.params name) (.str name s.toks) v []) (putN name [] 0)) → h'.get? x = some { ox with dict := some dx } → (∀ b o, s.heap.get? b = some o → b ≠ x → h'.get? b = some o) → Q (.done (.ret .none)) { s with heap := h', toks := s.toks + 1 }) :
    wpAny (model prog w) A (storeInOwnDict (.ref x) (.ref C) (.str name tk) name v b) Q E s := by
  obtain ⟨oc, odi, oda, osl⟩ := ox
  dsimp only at hcl hd hv
  subst hcl hd hv
  refine wpAny_bind (wpAny_pure (wpAny_bind (wpAny_bind (wpAny_loadPart hx (wpAny_bind ((looks_clsIn X hc).here ?_))))))
  rw [hh]
  have hx₁ : (s.heap.push { cls := .type "dict", data := .dict #[] }).get? x = some ⟨.ref C, none, .fields vs, osl⟩ := Heap.get?_push_of_some _ hx
  have hxs : x ≠ s.heap.objs.size := Nat.ne_of_lt (Heap.lt_size hx)
  refine wpAny_bind (wpAny_alloc ?_)
  refine wpAny_bind (wpAny_update hx₁ ?_)
  refine wpAny_pure (a := some s.heap.objs.size) ?_
  have hgd : ((s.heap.push { cls := .type "dict", data := .dict #[] }).update x fun o => { cls := o.cls, dict := some s.heap.objs.size, data := o.data, slots := o.slots }).get? s.heap.objs.size = some (dictOf [] 0) :=
    (Heap.get?_update_ne _ _ _ _ hxs.symm).trans (Heap.get?_push_at rfl rfl)
  refine xs_ns hgd rfl (Nat.le_trans (putL_length _ _ _ _ _) (by simp)) fun h' k1 k2 => h h' _ (none_of_ge (Nat.le_refl _)) k1 ?_ ?_
  · exact k2 _ _ (Heap.get?_update_self _ hx₁ rfl) hxs
  · intro b o hb hne
    exact k2 b o ((Heap.get?_update_ne _ _ _ _ hne).trans (Heap.get?_push_of_some _ hb)) (Nat.ne_of_lt (Heap.lt_size hb))
end
noncomputable def excMro (C : Addr) : List Value := [.ref C, .ref 31, .type "Exception", .type "BaseException", .type "object"]
noncomputable def okX (K : Frag) (C : Addr) (name : Str) : Bool := (clsIn K C).any (fun cd => cd.hasDict && cd.mro == excMro C) && takerIn K C name == some none && findIn K (.ref C) "__setattr__" == some (some (.builtin "object.__setattr__"))
theorem okX_of {K : Frag} {C : Addr} {name : Str} (h : okX K C name = true) : ∃ cd, clsIn K C = some cd ∧ cd.hasDict = true ∧ cd.mro = excMro C ∧ mroIn K C (.type "object") = some true ∧ takerIn K C name = some none ∧ findIn K (.ref C) "__setattr__" = some (some (.builtin "object.__setattr__")) := by
  obtain ⟨h, h3⟩ := Bool.and_eq_true_iff.mp h
  obtain ⟨h1, h2⟩ := Bool.and_eq_true_iff.mp h
  obtain ⟨cd, e, h4⟩ := any_some h1
  obtain ⟨h5, h6⟩ := Bool.and_eq_true_iff.mp h4
  have h6 := beq_iff_eq.mp h6
  refine ⟨cd, e, h5, h6, ?_, beq_iff_eq.mp h2, beq_iff_eq.mp h3⟩
  unfold mroIn
  rw [e, Option.bind_some, h6]
  rfl
theorem excMro_passes (self : Value) (C : Addr) : refuseLoop self "__setattr__" (excMro C) = pure () := by
  unfold excMro
  rw [refuseLoop_ref, refuseLoop_ref]
  exact PySem.F.store_Exception.passes self
section
variable {G : Gd} {A : Around} {stk : List (Addr × Hid)} {L : Addr} {m : Fld} {led : Led} {E : Value → Shared → Prop} {v : Value}
theorem up_same {led : Led} {a : Addr} {e : Nat × AO} (h : led a = some e) : up led a e = led := by
  funext b
  by_cases z : b = a
  · subst z; rw [up_eq, h]
  · rw [up_ne z]
theorem Inv.newAny {h h' : Heap} {D : Addr} {t : Nat} {o : AO} (I : Inv G stk L m led h) (hD : h.get? D = none) (hk : ∀ b o, h.get? b = some o → h'.get? b = some o) (R : Rep G h' D o) : led D = none ∧ Inv G stk L m (up led D (t, o)) h' := by
  have hn : led D = none := by
    cases q : led D with
    | none => rfl
    | some e =>
      obtain ⟨y, hy⟩ := (I.led D e.1 e.2 q).1.some
      rw [hD] at hy; cases hy
  refine ⟨hn, (I.keeps hk).newAt ?_ (fun hm => ?_) R⟩
  · cases q : G.base.get? D with
    | none => rfl
    | some o => have := I.keep _ _ q; rw [hD] at this; cases this
  · rcases List.mem_cons.mp hm with z | z
    · obtain ⟨o, _, _, e, _⟩ := I.ns; rw [← z, hD] at e; cases e
    · obtain ⟨q, hq, z⟩ := List.mem_map.mp z
      obtain ⟨y, hy⟩ := (I.sk q hq).1.some
      rw [z, hD] at hy; cases hy
theorem W_setX {Q : Unit → Fld → Led → Prop} {o C d : Addr} {f : Fld} {n t t' : Nat} {name : Str} {tb : Value} (hx : led o = some (t, .exc C (some d) tb)) (hd : led d = some (t', .attrs f n)) (hk : okX (tpx.heap_39 G.w.params) C name = true) (hn : n + 1 ≤ 900)
    (q : Q () m (up led d (t', .attrs (fup f name v) (n + 1)))) : W G A stk L m led (setAttr (.ref o) name v) Q E := fun h tk I => by
  obtain ⟨es, k, e, hl, _, hr, hf⟩ := (I.led d t' _ hd).1
  obtain ⟨ox, vs, x1, x2, x3, x4, x5⟩ := (I.led o t _ hx).1
  obtain ⟨cd, k1, k2, k3, k4, k5, k6⟩ := okX_of hk
  have X := G.X.keeps I.keep
  have Ix : W.InstAt h o ox C (some (dictOf es k)) := ⟨x1, x2, by unfold notCls; rw [x4], by rw [x3]; exact e⟩
  refine set_plain X Ix k6 (xs_open (s := { G.sh h tk with toks := tk + 1 }) X Ix k1 k4 (by rw [k3]; exact excMro_passes _ _) k5 fun b => xs_some (s := { G.sh h tk with toks := tk + 1 }) X x1 x2 x3 k1 k2 e hr (Nat.le_trans (putL_length _ _ _ _ _) (by omega)) fun h' h1 h2 => ?_)
  exact ⟨h', tk + 2, m, _, rfl, I.put hd (ns_at I.ns fun o ho => h2 L o ho (I.neL hd).symm) (fun b y hb hne _ => h2 b y hb hne) (show Rep G h' d (.attrs (fup f name v) (n + 1)) from ⟨_, _, h1, Nat.le_trans (putL_length _ _ _ _ _) (Nat.succ_le_succ hl), hn, putL_refKey _ _ _ _ _ hr, fun x => by rw [putL_look]; unfold fup; rw [hf]⟩), q⟩
theorem W_setX0 {Q : Unit → Fld → Led → Prop} {o C : Addr} {t : Nat} {name : Str} {tb : Value} (t' : Nat) (hx : led o = some (t, .exc C none tb)) (hk : okX (tpx.heap_39 G.w.params) C name = true)
    (q : ∀ d, led d = none → Q () m (up (up led o (t, .exc C (some d) tb)) d (t', .attrs (fup (fun _ => none) name v) 1))) : W G A stk L m led (setAttr (.ref o) name v) Q E := fun h tk I => by
  obtain ⟨ox, vs, x1, x2, x3, x4, x5⟩ := (I.led o t _ hx).1
  obtain ⟨cd, k1, k2, k3, k4, k5, k6⟩ := okX_of hk
  have X := G.X.keeps I.keep
  have Ix : W.InstAt h o ox C none := ⟨x1, x2, by unfold notCls; rw [x4], by rw [x3]; trivial⟩
  refine set_plain X Ix k6 (xs_open (s := { G.sh h tk with toks := tk + 1 }) X Ix k1 k4 (by rw [k3]; exact excMro_passes _ _) k5 fun b => xs_none (s := { G.sh h tk with toks := tk + 1 }) X x1 x2 x3 x4 k1 k2 fun h' dx hdx0 h1 h2 h3 => ?_)
  have hdx : h.get? dx = none := hdx0
  have hdo : dx ≠ o := fun z => by rw [z, x1] at hdx; cases hdx
  -- a heap between: the new dict alone
  have I1 : Inv G stk L m (up led o (t, .exc C (some dx) tb)) h' := I.put hx (ns_at I.ns fun o ho => h3 L o ho (I.neL hx).symm) (fun b y hb hne _ => h3 b y hb hne) ⟨_, vs, h2, x2, rfl, x4, x5⟩
  have hn : led dx = none := by
    cases q : led dx with
    | none => rfl
    | some e =>
      obtain ⟨y, hy⟩ := (I.led dx e.1 e.2 q).1.some
      rw [show h.get? dx = none from hdx] at hy; cases hy
  refine ⟨h', tk + 2, m, _, rfl, I1.newAt (t := t') (o := .attrs (fup (fun _ => none) name v) 1) ?_ (fun hm => ?_) ⟨_, _, h1, putL_length _ _ _ _ _, by decide, putL_refKey _ _ _ _ _ rfl, fun x => by rw [putL_look]; unfold fup; rfl⟩, q dx hn⟩
  · cases q : G.base.get? dx with
    | none => rfl
    | some o => have := I.keep _ _ q; rw [show h.get? dx = none from hdx] at this; cases this
  · rcases List.mem_cons.mp hm with z | z
    · obtain ⟨o, _, _, e, _⟩ := I.ns; rw [← z, show h.get? dx = none from hdx] at e; cases e
    · obtain ⟨q, hq, z⟩ := List.mem_map.mp z
      obtain ⟨y, hy⟩ := (I.sk q hq).1.some
      rw [z, show h.get? dx = none from hdx] at hy; cases hy
/-- Exception.__init__ on it -/
theorem W_binit {Q : Value → Fld → Led → Prop} {o : Addr} {t : Nat} {d : Option Addr} {tb : Value} (hx : led o = some (t, .exc 70 d tb)) (q : Q .none m led) : W G A stk L m led (call (.builtin "Exception.__init__") [.ref o, v]) Q E := fun h tk I => by
  obtain ⟨ox, vs, x1, x2, x3, x4, x5⟩ := (I.led o t _ hx).1
  have X := G.X.keeps I.keep
  have F := PySem.F.excBase_Exception
  obtain ⟨k0, k1, k2, k3, k5, hd, hC0⟩ := cls70 G.w.params
  have hC := X _ _ hC0
  refine wpAny_call (codeAny_call_builtin F.init.plain F.initEntry (xc_check_init F (by decide) hC x1 x2 ?_))
  have hsz : 1 < vs.size := (Array.getElem?_eq_some_iff.mp x5).1
  obtain ⟨v0, h0⟩ : ∃ v0, vs[0]? = some v0 := ⟨vs[0], Array.getElem?_eq_getElem (by omega)⟩
  have hT := Heap.get?_push_of_some (h := h) { cls := .type "tuple", data := .seq #[v] } x1
  have fin : ∀ A' : Around, ∀ Q' : Unit → Shared → Prop, (∀ s', (∃ h' tk', s' = G.sh h' tk' ∧ Inv G stk L m led h') → Q' () s') → ∀ E', wpAny (model G.prog G.w) A' (Builtin.BaseException.bexcPut (.ref o) 0 (.ref h.objs.size)) Q' E' (G.sh (h.push { cls := .type "tuple", data := .seq #[v] }) tk) := by
    intro A' Q' hQ' E'
    unfold Builtin.BaseException.bexcPut
    refine wpAny_bind (wpAny_field (s := G.sh _ tk) hT x4 h0 (wpAny_bind (wpAny_setField (s := G.sh _ tk) hT x4 (by omega) ?_)))
    have hd₃ := Obj.data_mapFields x4 (·.setIfInBounds 0 (Value.ref h.objs.size))
    have I1 : Inv G stk L m led (h.push { cls := .type "tuple", data := .seq #[v] }) := I.keeps fun b o e => Heap.get?_push_of_some _ e
    have I2 : Inv G stk L m led ((h.push { cls := .type "tuple", data := .seq #[v] }).update o (Obj.mapFields (·.setIfInBounds 0 (Value.ref h.objs.size)))) := by
      rw [← up_same hx]
      refine I1.put hx (ns_at I1.ns fun y hy => (Heap.get?_update_other _ _ (I.neL hx)).trans hy) (fun b y hb hne _ => (Heap.get?_update_other _ _ (Ne.symm hne)).trans hb) ?_
      exact ⟨_, _, Heap.get?_update_self _ hT (Obj.isFreed_of_fields hd₃), (Obj.cls_mapFields _ _).trans x2, (dict_mapFields _ _).trans x3, hd₃, by rw [Array.getElem?_setIfInBounds_ne (by decide)]; exact x5⟩
    cases v0 with
    | ref a => exact wpAny_letGo (hQ' _ ⟨_, tk, rfl, I2⟩)
    | _ => exact wpAny_pure (hQ' _ ⟨_, tk, rfl, I2⟩)
  unfold Builtin.«BaseException.__init__»
  refine wpAny_bind ?_
  refine wpAny_newTuple ?_ (by rw [sizeLine_eq]; show 1 ≤ _; decide)
  refine wpAny_bind ?_
  refine fin _ _ (fun s' hs' => ?_) _
  obtain ⟨h', tk', rfl, I'⟩ := hs'
  wp_walk
  exact ⟨h', tk', m, led, rfl, I', q⟩
end
end PX3
set_option maxRecDepth 100000
theorem bexc_ga : Slot "Exception" "__getattribute__" "BaseException.__getattribute__" := .of (owner := "BaseException") (n := "__getattribute__") (by rw [typeLookup_type, builtinLookup_eq_fast]; kernel_rfl) (by decide +kernel) (by decide +kernel) (by decide +kernel)
    (by first | exact .inl (by decide +kernel) | exact .inr (by decide +kernel)) (by rw [isSubtype_type]; kernel_rfl)
theorem bga_kind : builtinKind "BaseException.__getattribute__" = some .slot := by decide +kernel
theorem bga_split : splitId "BaseException.__getattribute__" = some ("BaseException", "__getattribute__") := by decide +kernel
noncomputable def okG (K : Frag) (C : Addr) (name : Str) : Bool := findIn K (.ref C) "__getattribute__" == some (some (.builtin "BaseException.__getattribute__")) && findIn K (.ref C) "__getattr__" == some none && hasDictIn K C && findIn K (.ref C) name == some none && mroIn K C (.type "BaseException") == some true
section
variable {G : Gd} {A : Around} {stk : List (Addr × Hid)} {L : Addr} {m : Fld} {led : Led} {E : Value → Shared → Prop}
open PySem.Builtin PySem.Builtin.ObjectAttr in
theorem W_getX {Q : Value → Fld → Led → Prop} {o C d : Addr} {f : Fld} {n t t' : Nat} {name : Str} {expr : Bool} {tb v : Value} (hx : led o = some (t, .exc C (some d) tb)) (hd : led d = some (t', .attrs f n)) (hv : f name = some v) (hk : okG (tpx.heap_39 G.w.params) C name = true) (hh : handedIn v = true)
    (q : Q v m led) : W G A stk L m led (getAttr (.ref o) name expr) Q E := fun h tk I => by
  obtain ⟨es, k, e, _, _, hr, hf⟩ := (I.led d t' _ hd).1
  obtain ⟨ox, vs, x1, x2, x3, x4, x5⟩ := (I.led o t _ hx).1
  obtain ⟨hk, k5⟩ := Bool.and_eq_true_iff.mp hk
  obtain ⟨hk, k4⟩ := Bool.and_eq_true_iff.mp hk
  obtain ⟨hk, k3⟩ := Bool.and_eq_true_iff.mp hk
  obtain ⟨k1, k2⟩ := Bool.and_eq_true_iff.mp hk
  have X := G.X.keeps I.keep
  have Ix : W.InstAt h o ox C (some (dictOf es k)) := ⟨x1, x2, by unfold notCls; rw [x4], by rw [x3]; exact e⟩
  have L0 : Looks (model G.prog G.w) h (typeOf (.ref o)) (.ref C) := Ix.type
  have L1 : Looks (model G.prog G.w) h (typeLookup (.ref C) "__getattribute__") _ := looks_findIn X (beq_iff_eq.mp k1)
  have L2 : Looks (model G.prog G.w) h (typeLookup (.ref C) "__getattr__") _ := looks_findIn X (beq_iff_eq.mp k2)
  have L3 : Looks (model G.prog G.w) h (find (.ref o) (.ref C) name) (.value v) := looks_find X Ix (findObj_own k3 (beq_iff_eq.mp k4) rfl ((getL_of hr hf name).trans (by rw [hv])))
  have L4 : Looks (model G.prog G.w) h (isInstance (.ref o) (.type "BaseException")) true := Ix.type.andThen (looks_mroIn X (beq_iff_eq.mp k5))
  have f3 := bexc_ga.bind (.ref o)
  have hx0 : (expr && onTheHeap (Value.builtin "BaseException.__getattribute__")) = false := by cases expr <;> rfl
  have hx2 : (Value.builtin "BaseException.__getattribute__" == Value.builtin "object.__getattribute__") = false := by decide +kernel
  have hx1 : (onTheHeap (Value.ref C) && Value.builtin "BaseException.__getattribute__" == Value.builtin "object.__getattribute__") = false := by rw [hx2]; rfl
  unfold getAttr getAttrBy
  refine wpAny_bind (wpAny_mkText (wpAny_holding (wpAny_bind (L0.here (wpAny_bind (L1.here ?_))))))
  dsimp only
  rw [hx1, if_neg (by decide)]
  unfold getAttrByItsOwn hookBefore
  rw [if_pos (by rfl)]
  refine wpAny_bind (L2.here (wpAny_bind (wpAny_attempt (wpAny_holding ?_))))
  unfold callGetattribute
  rw [hx0, if_neg (by decide)]
  unfold boundAndCalled
  refine wpAny_bind ?_
  rw [f3]
  refine wpAny_pure ?_
  refine wpAny_call ?_
  have chk : ∀ (A' : Around) (Q' : Unit → Shared → Prop) (E' : Value → Shared → Prop) (s : Shared) (tk : Tok), s.heap = h → Q' () s → wpAny (model G.prog G.w) A' (checkBuiltinCall "BaseException.__getattribute__" ⟨[.ref o, .str name tk], []⟩) Q' E' s := by
    intro A' Q' E' s tk hs hq
    subst hs
    exact @check_slot (model G.prog G.w) A' E' s "BaseException.__getattribute__" "BaseException" "__getattribute__" (.ref o) [.str name tk] [] Q' bga_kind bga_split L4 (F.args_bexc_ga _ _) hq
  refine codeAny_call_builtin bexc_ga.plain F.entry_bexc_ga (chk _ _ _ _ _ rfl ?_)
  unfold Builtin.«object.__getattribute__»
  have L0' : ∀ {A' : Around} {Q' : Value → Shared → Prop} {E' : Value → Shared → Prop} {s : Shared}, s.heap = h → Q' (.ref C) s → wpAny (model G.prog G.w) A' (typeOf (.ref o)) Q' E' s := fun hs q => L0 _ _ _ _ (fun _ _ e => by rw [hs]; exact e) q
  have L3' : ∀ {A' : Around} {Q' : Found → Shared → Prop} {E' : Value → Shared → Prop} {s : Shared}, s.heap = h → Q' (.value v) s → wpAny (model G.prog G.w) A' (find (.ref o) (.ref C) name) Q' E' s := fun hs q => L3 _ _ _ _ (fun _ _ e => by rw [hs]; exact e) q
  repeat (first | ((with_reducible refine' L0' ?z ?_); (case z => rfl)) | ((with_reducible refine' L3' ?z ?_); (case z => rfl)) | wp_step)
  show wpAny _ _ (handedOut v) _ _ _
  rw [handedOut_of hh]
  exact wpAny_pure ⟨_, _, _, _, rfl, I, q⟩
/- raise -/
theorem W_raise {Q : Flow → Fld → Led → Prop} {e : Expr} {env : Env} {pos : Pos} (hh : A.handled = none)
    (H : W G A stk L m led (eval e env) (fun v m1 led1 => ∃ x t d, v = .ref x ∧ led1 x = some (t, .exc 70 d .none) ∧ ∀ h tk, Inv G stk L m1 led1 h → E (.ref x) (G.sh h tk)) E) : W G A stk L m led (exec (.Raise (some e) none pos) env) Q E := fun h tk I => by
  obtain ⟨k0, k1, k2, k3, k5, hd, hC0⟩ := cls70 G.w.params
  have fin : wpAny (model G.prog G.w) A (eval e env) (fun v s₁ => ∃ e oe vs, v = .ref e ∧ s₁.heap.get? 70 = some (excClassObj "AdaRaise" "AdaRaise" 70 69 [.ref 31] [.ref 31, .type "Exception", .type "BaseException", .type "object"] hd [] [] false none none k0 k1 k2 k3 k5 "Exception.__new__") ∧ s₁.heap.get? e = some oe ∧ oe.cls = .ref 70 ∧ oe.data = .fields vs ∧ vs[1]? = some .none ∧ E (.ref e) s₁) E (G.sh h tk) :=
    H.use I fun v h1 tk1 m1 led1 I1 q => by
      obtain ⟨x, t, d, rfl, hx, q⟩ := q
      obtain ⟨ox, vs, x1, x2, x3, x4, x5⟩ := (I1.led x t _ hx).1
      exact ⟨x, ox, vs, rfl, G.X.keeps I1.keep _ _ hC0, x1, x2, x4, x5, q h1 tk1 I1⟩
  rw [arm_exec_Raise]
  have fin2 : wpAny (model G.prog G.w) A (do let v ← eval e env; standAt pos; pure v) (fun v s₁ => ∃ e oe vs, v = .ref e ∧ s₁.heap.get? 70 = some (excClassObj "AdaRaise" "AdaRaise" 70 69 [.ref 31] [.ref 31, .type "Exception", .type "BaseException", .type "object"] hd [] [] false none none k0 k1 k2 k3 k5 "Exception.__new__") ∧ s₁.heap.get? e = some oe ∧ oe.cls = .ref 70 ∧ oe.data = .fields vs ∧ vs[1]? = some .none ∧ E (.ref e) s₁) E (G.sh h tk) :=
    wpAny_bind (wpAny_mono fin (fun v s₃ h₃ => wpAny_bind (wpAny_standAt (wpAny_pure h₃))) fun _ _ x => x)
  first
    | exact wpAny_bind (wpAny_standAt (xc_raise (C := 70) (by decide) hh fin2))
    | (simp only [evalOpt, Option.map]; exact wpAny_bind (wpAny_standAt (xc_raise (C := 70) (by decide) hh fin2)))
theorem W_methT {Q : Value × List Value → Fld → Led → Prop} {T : String} {name : Str} {v : Value} {pl : Sem Bool} (ht : typeOf (.type T) = pure (.type "type")) (hs : Manifest.isStub T = false) (e : findCls (tpx.heap_39 G.w.params) (.type T) (.type "type") name = some (.val v)) (hh : handedIn v = true) (q : Q (v, []) m led) :
    W G A stk L m led (getMethod (.type T) name pl) Q E := fun h tk I => method_type I.fr G.X ht hs e hh ⟨_, tk + 1, _, _, rfl, I, q⟩
end
section
variable {G : Gd} {A : Around} {stk : List (Addr × Hid)} {L : Addr} {m : Fld} {led : Led} {E : Value → Shared → Prop}
set_option maxRecDepth 100000
set_option maxHeartbeats 4000000
theorem c_init28 {Q : Value → Led → Prop} {e : Addr} {tx : Value} (hA : A.depth ≤ 800) (hx : led e = some (70, .exc 70 none .none)) (H : ∀ d, led d = none → Q .none (up (up led e (70, .exc 70 (some d) .none)) d (700, .attrs (fup (fun _ => none) "text" tx) 1))) :
    FnC G A stk L m led (.ref 28) [.ref e, tx] Q E := by
  refine' Fn_pos ["self", "text"] ?zho ?zhcd ?zhroom ?zhbind ?zhloc ?zhco ?zhgen ?zhk ?zhcell ?_
  walk_at "enter"
  intro L1 E1 stk1
  refine' W_mg2 "self" "text" (v0 := .ref e)  (v1 := tx) ?zm0 ?zm1 ?_
  case zm0 => exact rfl
  case zm1 => exact rfl
  intro m1 e0 e1
  repeat walk_at "st"
  refine' W_methT ?zht ?zhs ?zhe ?zhh ?_
  case zht => kernel_rfl
  case zhs => decide +kernel
  case zhe => k_is
  case zhh => rfl
  repeat walk_at "st"
  refine W_binit hx ?_
  repeat walk_at "st"
  refine' W_setX0 700 hx ?zhk ?_
  case zhk => kernel_rfl
  intro d hd
  repeat walk_at "st"
  exact W_nil (H d hd)
theorem c_init67 {Q : Value → Led → Prop} {e : Addr} {nm ln tx : Value} (hA : A.depth ≤ 790) (hx : led e = some (70, .exc 70 none .none)) (H : ∀ d f, led d = none → f "word" = some nm → Q .none (up (up led e (70, .exc 70 (some d) .none)) d (700, .attrs f 4))) :
    FnC G A stk L m led (.ref 67) [.ref e, nm, ln, tx] Q E := by
  refine' Fn_pos ["self", "name", "line", "text"] ?zho ?zhcd ?zhroom ?zhbind ?zhloc ?zhco ?zhgen ?zhk ?zhcell ?_
  walk_at "enter"
  intro L1 E1 stk1
  refine' W_mg4 "self" "name" "line" "text" (v0 := .ref e)  (v1 := nm)  (v2 := ln)  (v3 := tx) ?zm0 ?zm1 ?zm2 ?zm3 ?_
  case zm0 => exact rfl
  case zm1 => exact rfl
  case zm2 => exact rfl
  case zm3 => exact rfl
  intro m1 e0 e1 e2 e3
  repeat walk_at "st"
  refine' W_methC ?zhg ?zhm ?zhr ?zhe ?zhh ?_
  case zhg => k_is
  case zhm => k_is
  case zhr => k_is
  case zhe => k_is
  case zhh => rfl
  repeat walk_at "st"
  refine W_call (c_init28 (by show A.depth + 1 ≤ _; omega) hx fun d hd => ?_)
  have hne : d ≠ e := fun z => by rw [z, hx] at hd; cases hd
  have hx' : up (up led e (70, .exc 70 (some d) .none)) d (700, .attrs (fup (fun _ => none) "text" tx) 1) e = some (70, .exc 70 (some d) .none) := by rw [up_ne hne.symm]; exact up_eq _ _ _
  repeat walk_at "st"
  refine' W_setX hx' (up_eq _ _ _) ?zhk (by decide) ?_
  case zhk => kernel_rfl
  rw [up_up]
  repeat walk_at "st"
  refine' W_setX (t := 70) (tb := .none) (d := d) (by rw [up_ne hne.symm]; exact up_eq _ _ _) (up_eq _ _ _) ?zhk (by decide) ?_
  case zhk => kernel_rfl
  rw [up_up]
  repeat walk_at "st"
  refine' W_setX (t := 70) (tb := .none) (d := d) (by rw [up_ne hne.symm]; exact up_eq _ _ _) (up_eq _ _ _) ?zhk (by decide) ?_
  case zhk => kernel_rfl
  rw [up_up]
  repeat walk_at "st"
  exact W_nil (H d _ hd (by walk_at "fl"))
theorem new_AdaRaise {Q : Value → Led → Prop} {nm ln tx : Value} (hA : A.depth ≤ 780) (H : ∀ e d f, led e = none → led d = none → d ≠ e → f "word" = some nm → Q (.ref e) (up (up led e (70, .exc 70 (some d) .none)) d (700, .attrs f 4))) :
    FnC G A stk L m led (.ref 70) [nm, ln, tx] Q E := fun h tk I => by
  obtain ⟨k0, k1, k2, k3, k5, hd, hC0⟩ := cls70 G.w.params
  have X := G.X.keeps I.keep
  have F := PySem.F.excBase_Exception
  obtain ⟨oI, hI1, hI2⟩ : ∃ oI, List.lookup 67 (tpx.heap_39 G.w.params) = some oI ∧ oI.cls = .type "function" := ⟨_, by k_is, rfl⟩
  refine xc_call (prog := G.prog) (w := G.w) (g := G.gens) (d := G.drawn) (t := tk) (os := G.os) F (by decide) (by decide) (by decide) (X _ _ hC0) (looks_findIn X (r := some (.ref 67)) (by k_is)) (X _ _ hI1) hI2 (fun h' e hm => ?_) (by rw [sizeLine_eq]; show 3 ≤ _; decide)
  obtain ⟨t0, m1, m2, m3⟩ := hm.there
  obtain ⟨hn, I'⟩ := I.newAny (t := 70) (o := .exc 70 none .none) hm.new hm.keeps ⟨_, _, m1, rfl, rfl, rfl, rfl⟩
  refine codeAny_mono (c_init67 (G := G) (A := A.under (.builtin "type.__call__" ⟨.ref 70 :: [nm, ln, tx], []⟩)) (nm := nm) (ln := ln) (tx := tx) (Q := fun v led' => v = .none ∧ Q (.ref e) led') (E := E) (by show A.depth + 1 ≤ _; omega) (up_eq _ _ _) (fun d f hd hf => ⟨rfl, ?_⟩) h' tk I') fun r s' z => ?_
  · obtain ⟨q1, q2⟩ := up_none hd
    have := H e d f hn q2 q1 hf
    rw [up_up]
    exact this
  · rcases r with er | (v | _ | _ | _)
    · exact z
    all_goals first | exact z.elim | (obtain ⟨h', tk', led', e, I', q⟩ := z; exact ⟨q.1, h', tk', led', e, I', q.2⟩)
end
section
variable {G : Gd} {A : Around} {stk : List (Addr × Hid)} {L : Addr} {m : Fld} {led : Led} {E : Value → Shared → Prop}
set_option maxRecDepth 100000
set_option maxHeartbeats 4000000
theorem Fn_posE (names : List Str) {Q : Value → Led → Prop} {name qual : Str} {params : Arguments} {body : List Stmt} {scope : Scope} {dV kV doc pm cdv ct oc : Value} {an od : Option Addr} {osl : Array (Option Value)} {f : Addr} {args : List Value}
    (ho : List.lookup f (tpx.heap_39 G.w.params) = some ⟨oc, od, .func (fnOf name qual params body scope dV kV doc pm an cdv ct), osl⟩) (hcd : codeIn (tpx.heap_39 G.w.params) cdv qual = true) (hroom : A.depth ≤ 900)
    (hbind : bindArgs (fnOf name qual params body scope dV kV doc pm an cdv ct) ⟨args, []⟩ = pure (names.zip args)) (hloc : names.all (fun y => decide (scope.names.lookup y = some .local)) = true)
    (hco : scope.isCoroutine = false) (hgen : scope.isGenerator = false) (hk : scope.kind = .function) (hcell : ∀ x ∈ scope.names, x.2 ≠ .cell)
    (H : ∀ L', W G (A.deeper (envX qual scope L' f cdv [])) ((L, .fr m) :: stk) L' (bindM (names.zip args)) led (execs body (envX qual scope L' f cdv [])) (fun fl _ led' => Q (retOf fl) led') (Leav G A (envX qual scope L' f cdv []) E)) :
    FnC G A stk L m led (.ref f) args Q E :=
  Fn_def (binds := names.zip args) ho hcd (Nat.lt_of_le_of_lt hroom (by decide)) (fun s X => BindsTo.of_eq hbind) (fun y hy => by
    have h1 := List.all_eq_true.mp hloc y.1 (List.of_mem_zip hy).1
    exact of_decide_eq_true h1) (fun L' => by rw [bindM_eq]; exact H L') hco hgen hk hcell
theorem Fn_cellsE {Q : Value → Led → Prop} {name qual : Str} {params : Arguments} {body : List Stmt} {scope : Scope} {dV kV doc pm cdv ct oc : Value} {an od : Option Addr} {osl : Array (Option Value)} {f : Addr} {args : List Value} {binds : List (Str × Value)}
    (ho : List.lookup f (tpx.heap_39 G.w.params) = some ⟨oc, od, .func (fnOf name qual params body scope dV kV doc pm an cdv ct), osl⟩) (hcd : codeIn (tpx.heap_39 G.w.params) cdv qual = true) (hroom : A.depth ≤ 900)
    (hbind : bindArgs (fnOf name qual params body scope dV kV doc pm an cdv ct) ⟨args, []⟩ = pure binds)
    (hkind : (binds.all fun y => scope.names.lookup y.1 == some .local || scope.names.lookup y.1 == some .cell) = true)
    (hco : scope.isCoroutine = false) (hgen : scope.isGenerator = false) (hk : scope.kind = .function) (hnd : ∀ n, ((cellsFrom n scope.names []).map Prod.fst).Nodup)
    (H : ∀ L', (∀ c : Addr, L' ≤ c → led c = none) → W G (A.deeper (envX qual scope L' f cdv (cellsFrom (L' + 1) scope.names []))) ((L, .fr m) :: stk) L' (bindL (envX qual scope L' f cdv (cellsFrom (L' + 1) scope.names [])).kindOf binds fun _ => none)
      (cellsUp (bindC (envX qual scope L' f cdv (cellsFrom (L' + 1) scope.names [])).kindOf binds fun _ => none) (cellsFrom (L' + 1) scope.names []) led)
      (execs body (envX qual scope L' f cdv (cellsFrom (L' + 1) scope.names []))) (fun fl _ led' => ∃ led'', Le led'' led' ∧ Q (retOf fl) led'') (Leav G A (envX qual scope L' f cdv (cellsFrom (L' + 1) scope.names [])) E)) :
    FnC G A stk L m led (.ref f) args Q E := fun h tk I => by
  have X := G.X.keeps I.keep
  have hbT := BindsTo.of_eq (s := G.sh h tk) hbind
  refine codeAny_call_function (Nat.lt_of_le_of_lt hroom (by decide)) (X _ _ ho) rfl hco hgen rfl (codeRec_of X hcd) (hbT _ _ _ _ ?_)
  refine wpAny_newFunctionEnv_cells hk (kindsX hkind _) fun env' he s' x => ?_
  subst he
  refine ⟨(G.T.nolimit.keeps I.keep).keeps x.toInCall.keep, codeAny_func ?_⟩
  obtain ⟨h₁, tk', rfl, hk₁⟩ := x.done
  have I1 := I.pushAt (C := h.objs.size) (Nat.le_refl _) x.toInCall.ns hk₁
  have I2 := Inv.cells (bindC (envX qual scope h.objs.size f cdv (cellsFrom (h.objs.size + 1) scope.names [])).kindOf binds fun _ => none) (cellsFrom (h.objs.size + 1) scope.names []) I1 fun p hp => by
    have ha : h.objs.size < p.2 := x.above p.1 p.2 hp
    refine ⟨x.cell p.1 p.2 (lookup_mem (hnd _) p hp), none_of_ge (Nat.le_trans I.lt (Nat.le_of_lt ha)), fun hm => ?_⟩
    rcases List.mem_cons.mp hm with z | z
    · exact absurd ha (z ▸ Nat.lt_irrefl _)
    · rcases List.mem_cons.mp z with z | z
      · exact absurd (Nat.lt_trans I.ns.lt ha) (z ▸ Nat.lt_irrefl _)
      · obtain ⟨q, hq, z⟩ := List.mem_map.mp z
        exact absurd (Nat.lt_trans (Heap.lt_size (I.sk q hq).1.some.choose_spec) ha) (z ▸ Nat.lt_irrefl _)
  have hfresh : ∀ c : Addr, h.objs.size ≤ c → led c = none := fun c hc => by
    cases q : led c with
    | none => rfl
    | some e =>
      obtain ⟨y, hy⟩ := (I.led c e.1 e.2 q).1.some
      exact absurd (Heap.lt_size hy) (Nat.not_lt.mpr hc)
  exact wpAny_mono ((H h.objs.size hfresh).use I2 fun fl h' tk' m' led' I' q => (by
    obtain ⟨led'', hle, q⟩ := q
    exact ⟨h', tk', led'', rfl, (I'.less hle).pop, q⟩ : Res G stk L m Q E (.ok (.ret (retOf fl))) (G.sh h' tk'))) (fun fl s' z => z) fun _ _ z => z
theorem Fn_cellsME (m0 : Fld) (ledL : Addr → Led) {Q : Value → Led → Prop} {name qual : Str} {params : Arguments} {body : List Stmt} {scope : Scope} {dV kV doc pm cdv ct oc : Value} {an od : Option Addr} {osl : Array (Option Value)} {f : Addr} {args : List Value} {binds : List (Str × Value)}
    (ho : List.lookup f (tpx.heap_39 G.w.params) = some ⟨oc, od, .func (fnOf name qual params body scope dV kV doc pm an cdv ct), osl⟩) (hcd : codeIn (tpx.heap_39 G.w.params) cdv qual = true) (hroom : A.depth ≤ 900)
    (hbind : bindArgs (fnOf name qual params body scope dV kV doc pm an cdv ct) ⟨args, []⟩ = pure binds)
    (hkind : (binds.all fun y => scope.names.lookup y.1 == some .local || scope.names.lookup y.1 == some .cell) = true)
    (hco : scope.isCoroutine = false) (hgen : scope.isGenerator = false) (hk : scope.kind = .function) (hnd : ∀ n, ((cellsFrom n scope.names []).map Prod.fst).Nodup)
    (hm : ∀ L', bindL (envX qual scope L' f cdv (cellsFrom (L' + 1) scope.names [])).kindOf binds (fun _ => none) = m0)
    (hc : ∀ L', cellsUp (bindC (envX qual scope L' f cdv (cellsFrom (L' + 1) scope.names [])).kindOf binds fun _ => none) (cellsFrom (L' + 1) scope.names []) led = ledL L')
    (H : ∀ L', (∀ c : Addr, L' ≤ c → led c = none) → W G (A.deeper (envX qual scope L' f cdv (cellsFrom (L' + 1) scope.names []))) ((L, .fr m) :: stk) L' m0 (ledL L')
      (execs body (envX qual scope L' f cdv (cellsFrom (L' + 1) scope.names []))) (fun fl _ led' => ∃ led'', Le led'' led' ∧ Q (retOf fl) led'') (Leav G A (envX qual scope L' f cdv (cellsFrom (L' + 1) scope.names [])) E)) :
    FnC G A stk L m led (.ref f) args Q E := Fn_cellsE ho hcd hroom hbind hkind hco hgen hk hnd fun L' hf => by rw [hm, hc]; exact H L' hf
/-- what a caller makes of an exception that came back to it -/
noncomputable def Flown (G : Gd) (stk : List (Addr × Hid)) (L : Addr) (m : Fld) (led : Led) (nm : Value) (E : Value → Shared → Prop) : Prop :=
  ∀ led' e d f T h tk, Le led led' → led e = none → led' e = some (70, .exc 70 (some d) (.ref T)) → led' T = some (71, .trb .none) → led' d = some (700, .attrs f 4) → f "word" = some nm → Inv G stk L m led' h → E (.ref e) (G.sh h tk)
theorem Flown.le {led0 : Led} {nm : Value} (H : Flown G stk L m led0 nm E) (hl : Le led0 led) : Flown G stk L m led nm E := fun led' e d f T h tk h1 h2 h3 h4 h5 h6 I =>
  H led' e d f T h tk (hl.trans h1) (by cases q : led0 e with | none => rfl | some x => rw [hl _ _ q] at h2; cases h2) h3 h4 h5 h6 I
/-- it passes through a frame -/
theorem Flown.pass {L0 : Addr} {m0 m1 : Fld} {led0 : Led} {nm : Value} {qual : Str} {scope : Scope} {f : Addr} {cdv : Value} {cl : List (Str × Addr)} (F : Frs A stk L0) (hk : scope.kind = .function) (hl : Le led0 led) (H : Flown G stk L0 m0 led0 nm E) :
    Flown G ((L0, .fr m0) :: stk) L m1 led nm (Leav G A (envX qual scope L f cdv cl) E) := fun led' e d f' T h tk h1 h2 h3 h4 h5 h6 I => by
  refine leav_I 71 F hk I h3 (.inr ⟨T, 71, rfl, h4⟩) fun h' T' hT' I' => ?_
  have hne : T' ≠ e := fun z => by rw [z, h3] at hT'; cases hT'
  have h0 : led0 e = none := by cases q : led0 e with | none => rfl | some x => rw [hl _ _ q] at h2; cases h2
  refine H _ e d f' T' h' tk (fun a x hx => ?_) h0 (by rw [up_ne hne.symm]; exact up_eq _ _ _) (up_eq _ _ _) ?_ h6 I'
  · have hx' := h1 _ _ (hl _ _ hx)
    rw [up_ne (fun z => by rw [z, hT'] at hx'; cases hx'), up_ne (fun z => by rw [z, h0] at hx; cases hx)]
    exact hx'
  · rw [up_ne (fun z => by rw [z, hT'] at h5; cases h5), up_ne (ne_kd h5 h3 rfl)]
    exact h5
/-- it is raised in a frame -/
theorem Flown.raise {L0 : Addr} {m0 m1 : Fld} {led0 : Led} {nm : Value} {qual : Str} {scope : Scope} {f : Addr} {cdv : Value} {cl : List (Str × Addr)} {e d : Addr} {f' : Fld} {h : Heap} {tk : Nat} (F : Frs A stk L0) (hk : scope.kind = .function) (hl : Le led0 led) (H : Flown G stk L0 m0 led0 nm E)
    (he : led e = none) (hd : led d = none) (hde : d ≠ e) (hf : f' "word" = some nm) (I : Inv G ((L0, .fr m0) :: stk) L m1 (up (up led e (70, .exc 70 (some d) .none)) d (700, .attrs f' 4)) h) : Leav G A (envX qual scope L f cdv cl) E (.ref e) (G.sh h tk) := by
  have h3 : up (up led e (70, .exc 70 (some d) .none)) d (700, .attrs f' 4) e = some (70, .exc 70 (some d) .none) := by rw [up_ne hde.symm]; exact up_eq _ _ _
  refine leav_I 71 F hk I h3 (.inl rfl) fun h' T' hT' I' => ?_
  have hne : T' ≠ e := fun z => by rw [z, h3] at hT'; cases hT'
  have hnd : T' ≠ d := fun z => by rw [z, up_eq] at hT'; cases hT'
  have h0 : ∀ {a x}, led0 a = some x → led a = some x := fun h => hl _ _ h
  refine H _ e d f' T' h' tk (fun a x hx => ?_) (by cases q : led0 e with | none => rfl | some x => rw [hl _ _ q] at he; cases he) (by rw [up_ne hne.symm]; exact up_eq _ _ _) (up_eq _ _ _) ?_ hf I'
  · have hx' := h0 hx
    rw [up_ne (fun z => by subst z; rw [up_ne hnd, up_ne hne] at hT'; rw [hT'] at hx'; cases hx'), up_ne (fun z => by rw [z, he] at hx'; cases hx'), up_ne (fun z => by rw [z, hd] at hx'; cases hx'), up_ne (fun z => by rw [z, he] at hx'; cases hx')]
    exact hx'
  · rw [up_ne hnd.symm, up_ne hde]
    exact up_eq _ _ _
noncomputable def parV (C : Con) : Nat → Value
  | 0 => .none
  | j + 1 => .ref (C.fr j)
theorem c_find_sub0 {Q : Value → Led → Prop} (hA : A.depth ≤ 750) (hh : A.handled = none) {C : Con} {k i l : Nat} {made : Int} {gn : Nat → Fld} {cnt : Nat → Str → Int} {u u' : Tok} {key : Str} (W : Wd C k made led gn cnt) (hfr : AtF C led i) (hi : i < 3) (hl : l ≤ i)
    (hv : gn l key = none) (F : Frs A stk L) (HE : ∀ u, Flown G stk L m led (.str "program_error" u) E) : FnC G A stk L m led (.ref 247) [.ref C.run, .int ((i : Int) - (l : Int)) u, .str key u'] Q E := by
  have hf1 := W.f1 l (by omega)
  obtain ⟨f, n, hf2, hf3, _⟩ := W.f2 l (by omega)
  obtain ⟨nn, hn1, hn2⟩ := W.n1 l (by omega)
  obtain ⟨frun, nrun, trun, drun1, drun2, drun3, drun4⟩ := W.run2
  have run1 := W.run1
  refine' Fn_posE ["run", "ups", "name"] ?zho ?zhcd ?zhroom ?zhbind ?zhloc ?zhco ?zhgen ?zhk ?zhcell ?_
  walk_at "enter"
  intro L1
  refine' W_mg3 "run" "ups" "name" (v0 := .ref C.run)  (v1 := .int ((i : Int) - (l : Int)) u)  (v2 := .str key u') ?zm0 ?zm1 ?zm2 ?_
  case zm0 => exact rfl
  case zm1 => exact rfl
  case zm2 => exact rfl
  intro m1 e0 e1 e2
  repeat walk_at "st"
  refine' W_attrC ?_ ?zhe
  case zhe => rfl
  repeat walk_at "st"
  refine W_call (c_frame_at (by show A.depth + 1 ≤ _; omega) (by exact hh) W hfr hi hl ?_)
  repeat walk_at "st"
  refine' W_notinS hn1 ?_
  rw [hv]
  repeat walk_at "st"
  refine W_raise (by exact hh) ?_
  repeat walk_at "st"
  refine W_call (new_AdaRaise (by show A.depth + 1 ≤ _; omega) fun e d f he hd hde hf => ?_)
  exact ⟨e, 70, some d, rfl, by rw [up_ne hde.symm]; exact up_eq _ _ _, fun h tk I => Flown.raise F rfl Le.rfl' (HE _) he hd hde hf I⟩
theorem c_named_sub0 {Q : Value → Led → Prop} (hA : A.depth ≤ 750) (hh : A.handled = none) {C : Con} {k i : Nat} {made : Int} {gn : Nat → Fld} {cnt : Nat → Str → Int} {u' : Tok} {key : Str} (W : Wd C k made led gn cnt) (hi : i < 3)
    (hno : ∀ l, l < 3 → gn l key = none) (F : Frs A stk L) (HE : ∀ u, Flown G stk L m led (.str "program_error" u) E) : FnC G A stk L m led (.ref 240) [.ref C.run, .ref (C.fr i), .str key u'] Q E := by
  obtain ⟨frun, nrun, trun, drun1, drun2, drun3, drun4⟩ := W.run2
  have run1 := W.run1
  refine' Fn_posE ["run", "frame", "name"] ?zho ?zhcd ?zhroom ?zhbind ?zhloc ?zhco ?zhgen ?zhk ?zhcell ?_
  walk_at "enter"
  intro L1
  refine' W_mg3 "run" "frame" "name" (v0 := .ref C.run)  (v1 := .ref (C.fr i))  (v2 := .str key u') ?zm0 ?zm1 ?zm2 ?_
  case zm0 => exact rfl
  case zm1 => exact rfl
  case zm2 => exact rfl
  intro m1 e0 e1 e2
  repeat walk_at "st"
  refine W_while (fun n m' led' => led' = led ∧ n ≤ i + 1 ∧ m' "frame" = some (parV C n) ∧ m' "name" = some (.str key u') ∧ m' "run" = some (.ref C.run)) (i + 1) ⟨rfl, Nat.le_refl _, e1, e2, e0⟩ ?_
  rintro n m' led' E' ⟨rfl, hn, q1, q2, q3⟩
  rcases n with _ | n
  · have q1' : m' "frame" = some .none := q1
    repeat walk_at "st"
    refine whB_f rfl ?_
    repeat walk_at "st"
    refine W_raise (by exact hh) ?_
    repeat walk_at "st"
    refine W_call (new_AdaRaise (by show A.depth + 1 ≤ _; omega) fun e d f he hd hde hf => ?_)
    exact ⟨e, 70, some d, rfl, by rw [up_ne hde.symm]; exact up_eq _ _ _, fun h tk I => Flown.raise F rfl Le.rfl' (HE _) he hd hde hf I⟩
  · have q1' : m' "frame" = some (.ref (C.fr n)) := q1
    have hf1 := W.f1 n (by omega)
    obtain ⟨f, nf, hf2, hf3, hf4⟩ := W.f2 n (by omega)
    obtain ⟨nn, hn1, hn2⟩ := W.n1 n (by omega)
    have hp : f "parent" = some (parV C n) := by cases n <;> exact hf4
    have hph : handedIn (parV C n) = true := by cases n <;> rfl
    repeat walk_at "st"
    refine whB_t rfl ?_
    repeat walk_at "st"
    refine' W_inS hn1 ?_
    rw [hno n (by omega)]
    repeat walk_at "st"
    refine W_nil ?_
    exact ⟨n, by omega, rfl, by omega, by walk_at "fl", by walk_at "fl", by walk_at "fl"⟩
theorem c_tagged_sub0 {Q : Value → Led → Prop} (hA : A.depth ≤ 740) (hh : A.handled = none) {C : Con} {k i : Nat} {made : Int} {gn : Nat → Fld} {cnt : Nat → Str → Int} {ac tp rv rd ty dty op : Addr} {na nb nc : Nat} {fr ft go : Fld} {num : Int} {u1 u2 u4 u5 : Tok} {K wk : Str} {x1 x2 : Value}
    (W : Wd C k made led gn cnt) (hfr : AtF C led i) (hi : i < 3)
    (a1 : led ac = some (0, .list [.ref tp])) (a2 : led tp = some (0, .tup [.ref rv, x1, x2])) (a3 : led rv = some (138, .inst 138 rd)) (a4 : led rd = some (1380, .attrs fr na)) (a5 : fr "type" = some (.ref ty)) (a6 : led ty = some (510, .inst 510 dty)) (a7 : led dty = some (5100, .attrs ft nb)) (a8 : ft "operations" = some (.ref op)) (a9 : ft "number" = some (.int num u1)) (b1 : led op = some (1006, .sd go nc)) (b2 : go K = some (.str wk u2))
    (hno : ∀ l, l < 3 → gn l wk = none) (F : Frs A stk L) (HE : ∀ u, Flown G stk L m led (.str "program_error" u) E) : FnC G A stk L m led (.ref 252) [.ref C.run, .ref ac, .str K u4, .int 0 u5] Q E := by
  obtain ⟨frun, nrun, trun, drun1, drun2, drun3, drun4⟩ := W.run2
  have run1 := W.run1
  have tt1 := W.tt1
  obtain ⟨ftt, ntt, tt2, tt3⟩ := id hfr
  refine' Fn_cellsME (fup (fup (fup (fun _ => none) "run" (.ref C.run)) "operation" (.str K u4)) "index" (.int 0 u5)) (fun L0 => up (led) (L0 + 1) (99, .cell (some (.ref ac)))) (binds := [("run", .ref C.run), ("actuals", .ref ac), ("operation", .str K u4), ("index", .int 0 u5)]) ?zho ?zhcd ?zhroom ?zhbind ?zhkind ?zhco ?zhgen ?zhk ?zhnd ?zhm ?zhc ?_
  case zho => k_is
  case zhcd => k_is
  case zhroom => omega
  case zhbind => exact rfl
  case zhkind => exact rfl
  case zhco => exact rfl
  case zhgen => exact rfl
  case zhk => exact rfl
  case zhnd => intro n; exact (by decide +kernel : (["actuals"] : List Str).Nodup)
  case zhm => intro L0; rfl
  case zhc => intro L0; rfl
  intro L1 hfr
  refine' W_mg3 "run" "operation" "index" (v0 := .ref C.run)  (v1 := .str K u4)  (v2 := .int 0 u5) ?zm0 ?zm1 ?zm2 ?_
  case zm0 => exact rfl
  case zm1 => exact rfl
  case zm2 => exact rfl
  intro m1 e0 e1 e2
  have hn := hfr (L1 + 1) (Nat.le_succ _)
  repeat walk_at "st"
  refine' W_isi (by walk_at "lk") ?zhi ?_
  case zhi => k_is
  repeat walk_at "st"
  refine' W_notinS (by walk_at "lk") ?_
  rw [b2]
  repeat walk_at "st"
  refine' W_tailD (by walk_at "lk") b2 ?_ ?zhs
  case zhs => with_unfolding_all rfl
  repeat walk_at "st"
  refine W_call (c_named_sub0 (by show A.depth + 1 ≤ _; omega) (by exact hh) (W.le (Le.fresh hn)) hi hno (F.deeper rfl) fun u => Flown.pass F rfl (Le.fresh hn) (HE u))
end
section
variable {G : Gd} {A : Around} {stk : List (Addr × Hid)} {L : Addr} {m : Fld} {led : Led} {E : Value → Shared → Prop}
set_option maxRecDepth 100000
set_option maxHeartbeats 4000000
theorem Frs.top {L0 : Addr} {m0 : Fld} {qual : Str} {scope : Scope} {f : Addr} {cdv : Value} {cl : List (Str × Addr)} (F : Frs A stk L0) (hk : scope.kind = .function) :
    ∃ outer, (A.deeper (envX qual scope L f cdv cl)).frames = some (envX qual scope L f cdv cl :: outer) ∧ FrL (envX qual scope L f cdv cl :: outer) ((L0, .fr m0) :: stk) L := by
  obtain ⟨l, e1, h1⟩ := F.deeper (L' := L) (m := m0) (qual := qual) (f := f) (cdv := cdv) (cl := cl) hk
  obtain ⟨l0, e0, _⟩ := F
  have e2 := Around.frames_deeper (env := envX qual scope L f cdv cl) e0
  rw [e1] at e2; cases e2
  exact ⟨l0, e1, h1⟩
noncomputable def Back (G : Gd) (stk : List (Addr × Hid)) (L : Addr) {α : Type} (Q : α → Fld → Led → Prop) (v : α) (s' : Shared) : Prop := ∃ h' tk' m' led', s' = G.sh h' tk' ∧ Inv G stk L m' led' h' ∧ Q v m' led'
noncomputable def Caught (G : Gd) (A : Around) (stk : List (Addr × Hid)) (L : Addr) (env : Env) (hs : List ExceptHandler) (Q : Flow → Fld → Led → Prop) (E : Value → Shared → Prop) (e : Value) (s₁ : Shared) : Prop :=
  wpAny (model G.prog G.w) A (noteFrame e env) (fun _ s₂ => wpAny (model G.prog G.w) A (setFlight e none) (fun _ s₃ => wpAny (model G.prog G.w) A (handleBy e env hs) (Back G stk L Q) E s₃) E s₂) E s₁
theorem W_try {Q : Flow → Fld → Led → Prop} {env : Env} {body : List Stmt} {hd : ExceptHandler} {hs : List ExceptHandler} {pos : Pos} (H : W G A stk L m led (execs body env) Q (Caught G A stk L env (hd :: hs) Q E)) : W G A stk L m led (exec (.Try body (hd :: hs) [] [] pos) env) Q E := fun h tk I => by
  refine wpAny_Try_except ?_
  refine H.use I fun f h1 tk1 m1 led1 I1 q => ?_
  cases f with
  | next => exact wpAny_execs_nil ⟨h1, tk1, m1, led1, rfl, I1, q⟩
  | _ => exact ⟨h1, tk1, m1, led1, rfl, I1, q⟩
theorem caught_I {L0 : Addr} {m0 : Fld} {nm : Value} {Q : Flow → Fld → Led → Prop} {qual : Str} {scope : Scope} {f : Addr} {cdv : Value} {x n : Str} {np pos : Pos} {b₀ : Stmt} {suite : List Stmt} {rest : List ExceptHandler} (F : Frs A stk L0) (hk : scope.kind = .function)
    (hv : nsIn (tpx.heap_39 G.w.params) mainGlobals x = some (some (.ref 70))) (hx : (envX qual scope L f cdv []).kindOf x = some .globalImplicit) (hxd : (x == ("__debug__" : Str)) = false) (hn : (envX qual scope L f cdv []).kindOf n = some .local)
    (H : ∀ led' e d f' T E', Le led led' → led e = none → led' e = some (70, .exc 70 (some d) (.ref T)) → led' d = some (700, .attrs f' 4) → f' "word" = some nm →
      W G ((A.deeper (envX qual scope L f cdv [])).mark (some (.ref e))) ((L0, .fr m0) :: stk) L (fup m n (.ref e)) led' (execs (b₀ :: suite) (envX qual scope L f cdv [])) (fun fl _ led2 => ∀ m3, Q fl m3 led2) E') :
    Flown G ((L0, .fr m0) :: stk) L m led nm (Caught G (A.deeper (envX qual scope L f cdv [])) ((L0, .fr m0) :: stk) L (envX qual scope L f cdv []) (.ExceptHandler (some (.Name x np)) (some n) (b₀ :: suite) pos :: rest) Q E) := by
  intro led' e d f' T h tk h1 h2 h3 h4 h5 h6 I
  obtain ⟨outer, hfr, hF⟩ := F.top (m0 := m0) (L := L) (qual := qual) (f := f) (cdv := cdv) (cl := []) hk
  obtain ⟨k0, k1, k2, k3, k5, hdd, hC0⟩ := cls70 G.w.params
  refine note_I 71 hfr hF rfl I h3 (.inr ⟨T, 71, rfl, h4⟩) fun hA T' hT' IA => ?_
  have hne : T' ≠ e := fun z => by rw [z, h3] at hT'; cases hT'
  have hde : d ≠ e := ne_kd h5 h3 rfl
  have hdT : d ≠ T' := fun z => by rw [z, hT'] at h5; cases h5
  refine flight_I IA (up_eq _ _ _) (by rw [up_ne hne]; exact up_eq _ _ _) fun hB IB => ?_
  rw [up_comm led' hne, up_up] at IB
  have heB : up (up led' e (70, .exc 70 (some d) (.ref T'))) T' (71, .trb .none) e = some (70, .exc 70 (some d) (.ref T')) := by rw [up_ne hne.symm]; exact up_eq _ _ _
  have hTB : up (up led' e (70, .exc 70 (some d) (.ref T'))) T' (71, .trb .none) T' = some (71, .trb .none) := up_eq _ _ _
  have hle : Le led (up (up led' e (70, .exc 70 (some d) (.ref T'))) T' (71, .trb .none)) := fun a y hy => by
    have hy' := h1 _ _ hy
    rw [up_ne (fun z => by rw [z, hT'] at hy'; cases hy'), up_ne (fun z => by rw [z, h2] at hy; cases hy)]
    exact hy'
  have hdB : up (up led' e (70, .exc 70 (some d) (.ref T'))) T' (71, .trb .none) d = some (700, .attrs f' 4) := by rw [up_ne hdT, up_ne hde]; exact h5
  obtain ⟨ox, vs, x1, x2, x3, x4, x5⟩ := (IB.led e 70 _ heB).1
  have hC := G.X.keeps IB.keep _ _ hC0
  refine wpAny_handleBy_cons (codeAny_handlers_test (nameX_K IB.fr G.X (topRead_of G.T) hv ?_ hk hx hxd)) (by intro q; cases q)
  refine wpAny_excMatches_sub_self (h := hB) hC x1 x2 (by decide) ?_
  refine codeAny_handlers_suite_as ?_
  refine flight_I (tk := tk) IB heB hTB fun hD ID => ?_
  rw [up_same hTB] at ID
  have hst : (scope.kind == .class || (scope.kind == .module && L != mainGlobals)) = false := by rw [hk]; rfl
  refine wpAny_storeName_local hn ID.ns (fun hE hns hs => ?_) hst
  have IE : Inv G ((L0, .fr m0) :: stk) L (fup m n (.ref e)) _ hE := ID.top hns fun b o ho hb => (hs.2 b hb).trans ho
  refine (H _ e d f' T' _ hle h2 heB hdB h6).use (tk := tk + 1) IE fun fl hG tkG mG ledG IG qG => ?_
  refine wpAny_bind (wpAny_bindName (wpAny_storeName_local hn IG.ns (fun hH hns hs => ?_) hst))
  have IH : Inv G ((L0, .fr m0) :: stk) L (fup mG n .none) ledG hH := IG.top hns fun b o ho hb => (hs.2 b hb).trans ho
  refine wpAny_onRaise (wpAny_unbindName_local (v := .none) hn IH.ns (fup_eq _ _ _) hst fun hJ u hns hs => ?_)
  exact ⟨hJ, tkG + 1, _, ledG, rfl, IH.top hns fun b o ho hb => (hs.2 b hb).trans ho, qG _⟩
end
section
variable {G : Gd} {A : Around} {stk : List (Addr × Hid)} {L : Addr} {m : Fld} {led : Led} {E : Value → Shared → Prop}
set_option maxRecDepth 100000
set_option maxHeartbeats 4000000
theorem Le.inj {led led' : Led} {a : Addr} {e : Nat × AO} (h : Le led led') (x : led a = some e) : led' a = some e := h a e x
theorem RowOk.le {C : Con} {led led' : Led} {gn : Nat → Fld} {cnt : Nat → Str → Int} {made : Int} {l k : Nat} {r4 : Addr} {laid : Bool} (h : RowOk C led gn cnt made l k r4 laid) (e : Le led led') : RowOk C led' gn cnt made l k r4 laid :=
  h.gen (fun a t o q _ => e a _ q) (fun a o q _ => e a _ q) GrowP.same GrowW.same
noncomputable def FoundQ (k : Nat) (laid : Bool) (led : Led) (Q : Value → Led → Prop) : Prop := ∀ u, Q (match laid with | true => .int (k : Int) u | false => .str "program_error" u) led
theorem c_found {Q : Value → Led → Prop} (hA : A.depth ≤ 720) (hh : A.handled = none) (F : Frs A stk L) {C : Con} {k l i k' : Nat} {made : Int} {gn : Nat → Fld} {cnt : Nat → Str → Int} {r4 : Addr} {laid : Bool} (W : Wd C k made led gn cnt) (hfr : AtF C led i) (hi : i < 3) (hl : l ≤ i)
    (hrow : RowOk C led gn cnt made l k' r4 laid) (H : FoundQ k' laid led Q) : FnC G A stk L m led (.ref 612) [.ref C.run, .ref (C.reg i), .ref r4] Q E := by
  refine exE3 W.run2 fun frun nrun trun => andE4 fun drun1 drun2 drun3 drun4 => ?_
  have run1 := W.run1
  have tt1 := W.tt1
  refine exE2 hfr fun ftt ntt => andE2 fun tt2 tt3 => ?_
  have hr1 := W.r1 i hi
  refine exE5 (W.r2 i hi) fun frg nrg yrg trg urg => andE6 fun hr2 hr3 hr4 hr5 hr6 hr7 => ?_
  refine exE14 hrow fun sort us en de p dp asked fe fp ne np key uk ul => andE10 fun h1 h2 h3 h4 h5 h6 h7 h8 h9 hr => ?_
  refine Fn_less ?_
  refine' Fn_posS ["run", "place", "row"] ?zho ?zhcd ?zhroom ?zhbind ?zhloc ?zhco ?zhgen ?zhk ?zhcell ?_
  walk_at "enter"
  intro L1 E1
  refine' W_mg3 "run" "place" "row" (v0 := .ref C.run)  (v1 := .ref (C.reg i))  (v2 := .ref r4) ?zm0 ?zm1 ?zm2 ?_
  case zm0 => exact rfl
  case zm1 => exact rfl
  case zm2 => exact rfl
  intro m1 e0 e1 e2
  repeat walk_at "st"
  refine' W_untup (by exact hh) h1 rfl rfl ?_
  refine W_inord ?_
  repeat walk_at "st"
  refine W_inord ?_
  repeat walk_at "st"
  refine W_inord ?_
  repeat walk_at "st"
  refine W_inord ?_
  repeat walk_at "st"
  refine W_inord0 ?_
  repeat walk_at "st"
  refine W_try ?_
  rcases hr with ⟨rfl, hr⟩ | ⟨rfl, hr⟩ | ⟨rfl, hr⟩ | ⟨rfl, hr⟩
  · refine andE3 (fun q1 q2 q3 => ?_) hr
    subst q1
    obtain ⟨_, hv, x, rfl, q3⟩ := q3
    refine exE4 q3 fun dx gx nx ux => andE3 fun z1 z2 z3 => ?_
    repeat walk_at "st"
    refine W_call (c_ups_to (by show A.depth + 1 ≤ _; omega) hr1 hr2 hr6 h2 h3 h4 h6 h7 h8 fun w => ?_)
    repeat walk_at "st"
    refine W_call (c_held_at1 (by show A.depth + 1 ≤ _; omega) (by exact hh) W hfr hi hl hv ?_)
    repeat walk_at "st"
    refine' W_isi z1 ?zhi ?_
    case zhi => k_is
    repeat walk_at "st"
    exact ⟨led, Le.rfl', H ux⟩
  · refine exE2 hr fun wk u => andE4 fun q1 q2 q3 q4 => ?_
    subst q1
    repeat walk_at "st"
    cases laid with
    | true =>
      obtain ⟨_, hv, x, rfl, q4⟩ := q4
      refine exE4 q4 fun dx gx nx ux => andE3 fun z1 z2 z3 => ?_
      refine W_call (c_named_sub1 (by show A.depth + 1 ≤ _; omega) (by exact hh) W hi hl hv q3 ?_)
      repeat walk_at "st"
      refine' W_isi z1 ?zhi ?_
      case zhi => k_is
      repeat walk_at "st"
      exact ⟨led, Le.rfl', H ux⟩
    | false =>
      refine W_call (c_named_sub0 (by show A.depth + 1 ≤ _; omega) (by exact hh) W hi (fun l' hl' => (by by_cases z : l' = l; exact z ▸ q4; exact q3 l' z)) (F.deeper rfl) fun u => ?_)
      exact caught_I F rfl (by k_is) rfl (by decide) rfl fun led' e d f T E' hle he he' hd' hf => (by
        repeat walk_at "st"
        refine' W_getX he' hd' hf ?zhk rfl ?_
        case zhk => kernel_rfl
        refine after_ret ?_
        intro m3
        exact ⟨led, hle, H _⟩)
  · refine exE14 hr fun aq ty dty op K uK wk uw ft nt go no num un => andE11 fun q1 q2 q3 q4 q5 q6 q7 q8 q9 qa qb => ?_
    subst q1
    repeat walk_at "st"
    refine W_list 0 ?_
    repeat walk_at "st"
    refine W_tup 0 ?_
    repeat walk_at "st"
    refine W_dict0 0 ?_
    intro bd hbd
    repeat walk_at "st"
    refine W_call (new_RecordValue 138 1380 (by show A.depth + 1 ≤ _; omega) fun rv rd frv hrv hrd hrd' hft => ?_)
    revert hrv hrd
    walk_at "split"
    repeat walk_at "st"
    refine ⟨by show 3 ≤ 1000; decide, ?_⟩
    intro tp htp
    revert htp
    walk_at "split"
    repeat walk_at "st"
    refine ⟨by show 1 ≤ 1000; decide, ?_⟩
    intro ac hac
    revert hac
    walk_at "split"
    repeat walk_at "st"
    cases laid with
    | true =>
      obtain ⟨_, hv, x, rfl, qb⟩ := qb
      refine exE10 qb fun dx gx nx sb ds gs ns ux lc u' => andE8 fun z1 z2 z3 z4 z5 z6 z7 z8 => ?_
      refine W_call (c_tagged_sub1 (t1 := 0) (t2 := 0) (t3 := 0) (t4 := 0) (led0 := led) (by show A.depth + 1 ≤ _; omega) (by exact hh) (W.le (Keep.le (by walk_at "keep"))) (hfr.le (Keep.le (by walk_at "keep"))) hi hl (by walk_at "lk") (by walk_at "lk") (by walk_at "lk") (by walk_at "lk") hft (by walk_at "lk") (by walk_at "lk") q5 q6 (by walk_at "lk") q8 (by walk_at "lk") (by walk_at "lk") z3 (by walk_at "lk") (by walk_at "lk") z7 (by walk_at "lk") hv qa ?_)
      repeat walk_at "st"
      refine' W_isi (by walk_at "lk") ?zhi ?_
      case zhi => k_is
      repeat walk_at "st"
      exact ⟨led, Keep.le (by walk_at "keep"), H ux⟩
    | false =>
      refine W_call (c_tagged_sub0 (by show A.depth + 1 ≤ _; omega) (by exact hh) (W.le (Keep.le (by walk_at "keep"))) (hfr.le (Keep.le (by walk_at "keep"))) hi (by walk_at "lk") (by walk_at "lk") (by walk_at "lk") (by walk_at "lk") hft (by walk_at "lk") (by walk_at "lk") q5 q6 (by walk_at "lk") q8 (fun l' hl' => (by by_cases z : l' = l; exact z ▸ qb; exact qa l' z)) (F.deeper rfl) fun u => ?_)
      exact caught_I F rfl (by k_is) rfl (by decide) rfl fun led' e d f T E' hle he he' hd' hf => (by
        repeat walk_at "st"
        refine' W_getX he' hd' hf ?zhk rfl ?_
        case zhk => kernel_rfl
        refine after_ret ?_
        intro m3
        exact ⟨led, (Keep.le (by walk_at "keep") : Le led _).trans hle, H _⟩)
  · refine andE2 (fun q2 q3 => ?_) hr
    repeat walk_at "st"
    refine W_call (c_ups_to (by show A.depth + 1 ≤ _; omega) hr1 hr2 hr6 h2 h3 h4 h6 h7 h8 fun w => ?_)
    repeat walk_at "st"
    cases laid with
    | true =>
      obtain ⟨_, hv, x, rfl, q3⟩ := q3
      refine exE8 q3 fun dx gx nx sb ds gs ns ux => andE6 fun z1 z2 z3 z4 z5 z6 => ?_
      refine W_call (c_find_sub1 (by show A.depth + 1 ≤ _; omega) (by exact hh) W hfr hi hl hv ?_)
      repeat walk_at "st"
      refine' W_isi z1 ?zhi ?_
      case zhi => k_is
      repeat walk_at "st"
      exact ⟨led, Le.rfl', H ux⟩
    | false =>
      refine W_call (c_find_sub0 (by show A.depth + 1 ≤ _; omega) (by exact hh) W hfr hi hl q3 (F.deeper rfl) fun u => ?_)
      exact caught_I F rfl (by k_is) rfl (by decide) rfl fun led' e d f T E' hle he he' hd' hf => (by
        repeat walk_at "st"
        refine' W_getX he' hd' hf ?zhk rfl ?_
        case zhk => kernel_rfl
        refine after_ret ?_
        intro m3
        exact ⟨led, hle, H _⟩)
end
/- what is kept but for the rows' list and the task's dict -/
noncomputable def KeepT (led led' : Led) : Prop := ∀ a t o, led a = some (t, o) → t ≠ 7000 → t ≠ 3680 → led' a = some (t, o)
theorem Wd.keepT {C : Con} {k : Nat} {made : Int} {led led' : Led} {gn : Nat → Fld} {cnt : Nat → Str → Int} (W : Wd C k made led gn cnt) (e : KeepT led led') (ht : ∃ f n v, led' C.dtt = some (3680, .attrs f n) ∧ f "frame" = some v) : Wd C k made led' gn cnt where
  run1 := e _ _ _ W.run1 (by decide) (by decide)
  run2 := by obtain ⟨f, n, t, h, r⟩ := W.run2; exact ⟨f, n, t, e _ _ _ h (by decide) (by decide), r⟩
  tt1 := e _ _ _ W.tt1 (by decide) (by decide)
  tt2 := ht
  mk1 := e _ _ _ W.mk1 (by decide) (by decide)
  mk2 := by obtain ⟨f, n, i, t, h, r⟩ := W.mk2; exact ⟨f, n, i, t, e _ _ _ h (by decide) (by decide), r⟩
  s1 := e _ _ _ W.s1 (by decide) (by decide)
  s2 := by refine exE8 W.s2 fun f n i t u v g j => andE6 fun h1 h2 h3 h4 h5 r => ?_; exact exI8 f n i t u v g j ⟨e _ _ _ h1 (by decide) (by decide), h2, h3, h4, e _ _ _ h5 (by decide) (by decide), r⟩
  r1 := fun l hl => e _ _ _ (W.r1 l hl) (by decide) (by decide)
  r2 := fun l hl => by obtain ⟨f, n, y, t, u, h, r⟩ := W.r2 l hl; exact ⟨f, n, y, t, u, e _ _ _ h (by decide) (by decide), r⟩
  r3 := by obtain ⟨f, n, t, h, r⟩ := W.r3; exact ⟨f, n, t, e _ _ _ h (by decide) (by decide), r⟩
  c1 := fun l hl => by obtain ⟨g, n, h, r⟩ := W.c1 l hl; exact ⟨g, n, e _ _ _ h (by decide) (by decide), r⟩
  n1 := fun l hl => by obtain ⟨n, h, r⟩ := W.n1 l hl; exact ⟨n, e _ _ _ h (by decide) (by decide), r⟩
  f1 := fun l hl => e _ _ _ (W.f1 l hl) (by decide) (by decide)
  f2 := fun l hl => by obtain ⟨f, n, h, r⟩ := W.f2 l hl; exact ⟨f, n, e _ _ _ h (by decide) (by decide), r⟩
  u1 := W.u1
  cdi := W.cdi
  ndi := W.ndi
  dri := W.dri
  cb := W.cb
theorem RowOk.keepT {C : Con} {led led' : Led} {gn : Nat → Fld} {cnt : Nat → Str → Int} {made : Int} {l k : Nat} {r4 : Addr} {laid : Bool} (h : RowOk C led gn cnt made l k r4 laid) (e : KeepT led led') : RowOk C led' gn cnt made l k r4 laid :=
  h.gen (fun a t o q ht => e a t o q (by rintro rfl; exact absurd ht (by decide)) (by rintro rfl; exact absurd ht (by decide))) (fun a o q _ => e a _ _ q (by decide) (by decide)) GrowP.same GrowW.same
/-- the table of rows -/
noncomputable def RowsOk (C : Con) (led : Led) (gn : Nat → Fld) (cnt : Nat → Str → Int) (made : Int) (k : Nat) (vs : List Value) : Prop :=
  vs.length = k ∧ ∀ j, j < k → ∃ (t3 r4 : Addr) (lv : Nat) (u1 u2 : Tok) (laid : Bool), vs[j]? = some (.ref t3) ∧ led t3 = some (7005, .tup [.int (lv : Int) u1, .int (j : Int) u2, .ref r4]) ∧ lv < 3 ∧ RowOk C led gn cnt made lv j r4 laid
theorem RowsOk.nil {C : Con} {led : Led} {gn : Nat → Fld} {cnt : Nat → Str → Int} {made : Int} : RowsOk C led gn cnt made 0 [] := ⟨rfl, fun j hj => absurd hj (Nat.not_lt_zero j)⟩
theorem RowsOk.keepT {C : Con} {led led' : Led} {gn : Nat → Fld} {cnt : Nat → Str → Int} {made : Int} {k : Nat} {vs : List Value} (h : RowsOk C led gn cnt made k vs) (e : KeepT led led') : RowsOk C led' gn cnt made k vs :=
  ⟨h.1, fun j hj => by obtain ⟨t3, r4, lv, u1, u2, laid, h1, h2, h3, h4⟩ := h.2 j hj; exact ⟨t3, r4, lv, u1, u2, laid, h1, e _ _ _ h2 (by decide) (by decide), h3, h4.keepT e⟩⟩
theorem RowsOk.step {C : Con} {led led' : Led} {gn gn' : Nat → Fld} {cnt cnt' : Nat → Str → Int} {made made' : Int} {k : Nat} {vs : List Value} (D : ∃ f n, led (C.dreg 0) = some (4280, .attrs f n)) (h : RowsOk C led gn cnt made k vs) (S : Stay C led led') (g : Grow gn cnt made gn' cnt' made') : RowsOk C led' gn' cnt' made' k vs :=
  ⟨h.1, fun j hj => by obtain ⟨t3, r4, lv, u1, u2, laid, h1, h2, h3, h4⟩ := h.2 j hj; exact ⟨t3, r4, lv, u1, u2, laid, h1, S.at D h2 (by decide), h3, h4.step D S g⟩⟩
theorem RowsOk.more {C : Con} {led : Led} {gn : Nat → Fld} {cnt : Nat → Str → Int} {made : Int} {k : Nat} {vs : List Value} {t3 r4 : Addr} {lv : Nat} {u1 u2 : Tok} {laid : Bool} (h : RowsOk C led gn cnt made k vs) (h2 : led t3 = some (7005, .tup [.int (lv : Int) u1, .int (k : Int) u2, .ref r4])) (h3 : lv < 3) (h4 : RowOk C led gn cnt made lv k r4 laid) :
    RowsOk C led gn cnt made (k + 1) (vs ++ [.ref t3]) := by
  refine ⟨by simp [h.1], fun j hj => ?_⟩
  by_cases z : j < k
  · obtain ⟨t3', r4', lv', u1', u2', laid', q1, q2⟩ := h.2 j z
    exact ⟨t3', r4', lv', u1', u2', laid', by rw [List.getElem?_append_left (by rw [h.1]; exact z)]; exact q1, q2⟩
  · have : j = k := by omega
    subst this
    exact ⟨t3, r4, lv, u1, u2, laid, by rw [List.getElem?_append_right (by rw [h.1]; exact Nat.le_refl _), h.1]; simp, h2, h3, h4⟩
/-- a region is opened in it -/
theorem Wd.opened {C : Con} {k : Nat} {made : Int} {led led' : Led} {gn : Nat → Fld} {cnt : Nat → Str → Int} (W : Wd C k made led gn cnt) (hK : Keep [C.dreg 0, C.ds] led led')
    (hd : ∀ f n, led (C.dreg 0) = some (4280, .attrs f n) → ∃ w, led' (C.dreg 0) = some (4280, .attrs (fup f "made" (.int (made + 1) w)) n)) (hs : ∀ f n, led C.ds = some (2900, .attrs f n) → ∃ v, led' C.ds = some (2900, .attrs (fup f "place" v) n)) :
    Wd C k (made + 1) led' gn cnt ∧ Grow gn cnt made gn cnt (made + 1) ∧ Stay C led led' := by
  refine exE3 W.r3 fun f0 n0 t0 => andE3 fun d1 d2 d3 => exE8 W.s2 fun fs ns is ts us vs gs js => andE6 fun s1 s2 s3 s4 s5 s6 => ?_
  have S : Stay C led led' := fun a t o h ht hne => hK a _ h (by
    simp only [List.mem_cons, List.not_mem_nil, or_false, not_or]
    refine ⟨hne, ?_⟩
    rintro rfl; rw [s1] at h; cases h; exact ht (by decide))
  have D : ∃ f n, led (C.dreg 0) = some (4280, .attrs f n) := ⟨f0, n0, d1⟩
  have K : ∀ {a : Addr} {t : Nat} {o : AO}, led a = some (t, o) → Nat.beq t 2900 = false → a ≠ C.dreg 0 → led' a = some (t, o) := fun {a t o} h q1 q2 => hK a _ h (by
    simp only [List.mem_cons, List.not_mem_nil, or_false, not_or]
    refine ⟨q2, ?_⟩
    rintro rfl; rw [s1] at h; cases h; cases q1)
  have K' : ∀ {a : Addr} {t : Nat} {o : AO}, led a = some (t, o) → Nat.beq t 2900 = false → Nat.beq t 4280 = false → led' a = some (t, o) := fun {a t o} h q1 q2 => K h q1 (by rintro rfl; rw [d1] at h; cases h; cases q2)
  refine ⟨?_, ⟨by omega, fun _ _ => Int.le_refl _, fun _ _ _ => rfl, fun _ _ _ => rfl⟩, S⟩
  constructor
  · exact K' W.run1 rfl rfl
  · obtain ⟨f, n, t, h, r⟩ := W.run2; exact ⟨f, n, t, K' h rfl rfl, r⟩
  · exact K' W.tt1 rfl rfl
  · obtain ⟨f, n, t, h, r⟩ := W.tt2; exact ⟨f, n, t, K' h rfl rfl, r⟩
  · exact K' W.mk1 rfl rfl
  · obtain ⟨f, n, i, t, h, r⟩ := W.mk2; exact ⟨f, n, i, t, K' h rfl rfl, r⟩
  · exact K' W.s1 rfl rfl
  · obtain ⟨v, e⟩ := hs fs ns s1
    exact exI8 _ ns is ts us v gs js ⟨e, (fup_ne (by decide)).trans s2, fup_eq _ _ _, (fup_ne (by decide)).trans s4, K' s5 rfl rfl, s6⟩
  · exact fun l hl => K' (W.r1 l hl) rfl rfl
  · intro l hl
    refine exE5 (W.r2 l hl) fun f n y t u => andE6 fun h q1 q2 q3 q4 q5 => ?_
    by_cases z : l = 0
    · subst z
      obtain ⟨w, e⟩ := hd f n h
      exact ⟨_, n, y, t, u, e, (fup_ne (by decide)).trans q1, q2, (fup_ne (by decide)).trans q3, (fup_ne (by decide)).trans q4, (fup_ne (by decide)).trans q5⟩
    · exact ⟨f, n, y, t, u, K h rfl (W.dri l (by omega) hl), q1, q2, q3, q4, q5⟩
  · obtain ⟨w, e⟩ := hd f0 n0 d1
    exact ⟨_, n0, w, e, fup_eq _ _ _, (fup_ne (by decide)).trans d3⟩
  · exact fun l hl => by obtain ⟨g, n, h, r⟩ := W.c1 l hl; exact ⟨g, n, K' h rfl rfl, r⟩
  · exact fun l hl => by obtain ⟨n, h, r⟩ := W.n1 l hl; exact ⟨n, K' h rfl rfl, r⟩
  · exact fun l hl => K' (W.f1 l hl) rfl rfl
  · exact fun l hl => by obtain ⟨f, n, h, r⟩ := W.f2 l hl; exact ⟨f, n, K' h rfl rfl, r⟩
  · intro l key h
    rcases W.u1 l key h with q | ⟨nm, N, q1, q2, q3, q4⟩
    · exact .inl q
    · exact .inr ⟨nm, N, q1, q2, by omega, q4⟩
  · exact W.cdi
  · exact W.ndi
  · exact W.dri
  · exact W.cb
/-- the first world of the loop -/
theorem Bs.wd {C : Con} {led : Led} {rl fl s ds : Addr} {f : Fld} {n : Nat} {t u : Tok} {v : Value} (B : Bs C 3 led rl fl) (h1 : led s = some (290, .inst 290 ds)) (h2 : led ds = some (2900, .attrs f n)) (h3 : f "place" = some v) (h4 : f "line" = some (.int 1 u)) (h5 : f "count" = some (.int 100 t)) :
    Wd { C with s := s, ds := ds } 0 3 led (fun _ _ => none) (fun _ _ => 0) where
  run1 := B.run1
  run2 := by obtain ⟨f, n, t, h, a, b, c, _⟩ := B.run2; exact ⟨f, n, t, h, a, b, c⟩
  tt1 := B.tt1
  tt2 := B.tt2
  mk1 := B.mk1
  mk2 := B.mk2
  s1 := h1
  s2 := ⟨f, n, 100, t, u, v, fun _ => none, 0, h2, h5, h3, h4, B.th1, Nat.le_refl _, by decide, by decide, fun _ _ _ => rfl, fun _ _ => rfl⟩
  r1 := B.r1
  r2 := B.r2
  r3 := by obtain ⟨f, n, t, h, a, b⟩ := B.r3; exact ⟨f, n, t, h, a, b⟩
  c1 := fun l hl => ⟨_, _, B.c1 l hl, Nat.le_refl _, fun nm => ⟨Int.le_refl _, Int.le_refl _, .inl ⟨rfl, rfl⟩⟩⟩
  n1 := fun l hl => ⟨_, B.n1 l hl, Nat.le_refl _⟩
  f1 := B.f1
  f2 := B.f2
  u1 := fun l key h => absurd rfl h
  cdi := B.cdi
  ndi := B.ndi
  dri := B.dri
  cb := fun _ _ => Int.le_refl _
/-- the world between two turns of the first loop -/
noncomputable def Lp (C : Con) (rw rl fl cd : Addr) (codes : List Value) (k : Nat) (m : Fld) (led : Led) : Prop :=
  m "run" = some (.ref C.run) ∧ m "scope" = some (.ref C.s) ∧ m "regions" = some (.ref rl) ∧ m "frames" = some (.ref fl) ∧ m "rows" = some (.ref rw) ∧ m "codes" = some (.ref cd) ∧
  led rl = some (7001, .list [.ref (C.reg 0), .ref (C.reg 1), .ref (C.reg 2)]) ∧ led fl = some (7002, .list [.ref (C.fr 0), .ref (C.fr 1), .ref (C.fr 2)]) ∧ led cd = some (7004, .list codes) ∧
  ∃ gn cnt vsR, Wd C k (3 + 2 * (k : Int)) led gn cnt ∧ led rw = some (7000, .list vsR) ∧ RowsOk C led gn cnt (3 + 2 * (k : Int)) k vsR
noncomputable def IntL (vs : List Value) : Prop := ∀ v ∈ vs, ∃ c t, v = .int c t ∧ 0 ≤ c
theorem IntL.of {l vs : List Value} (h : Paired (fun _ y => ∃ c t, y = .int c t ∧ 0 ≤ c) l vs) : IntL vs := by
  induction h with
  | nil => intro v hv; cases hv
  | cons h _ ih =>
    intro v hv
    rcases List.mem_cons.mp hv with rfl | hv
    · exact h
    · exact ih v hv
theorem IntL.append {vs ws : List Value} (h : IntL vs) (k : IntL ws) : IntL (vs ++ ws) := fun v hv => (List.mem_append.mp hv).elim (h v) (k v)
theorem IntL.at {vs : List Value} (h : IntL vs) {i : Nat} (hi : i < vs.length) : ∃ c t, vs[i]? = some (.int c t) ∧ 0 ≤ c := by
  obtain ⟨c, t, e, h0⟩ := h vs[i] (List.getElem_mem hi)
  exact ⟨c, t, by rw [List.getElem?_eq_getElem hi, e], h0⟩
theorem opened_all {C : Con} {k : Nat} {led led' : Led} {gn : Nat → Fld} {cnt : Nat → Str → Int} {vsR : List Value} (W : Wd C k (3 + 2 * (k : Int)) led gn cnt) (hR : RowsOk C led gn cnt (3 + 2 * (k : Int)) k vsR) (hK : Keep [C.dreg 0, C.ds] led led')
    (hd : ∀ f n, led (C.dreg 0) = some (4280, .attrs f n) → ∃ w, led' (C.dreg 0) = some (4280, .attrs (fup f "made" (.int (3 + 2 * (k : Int) + 1) w)) n)) (hs : ∀ f n, led C.ds = some (2900, .attrs f n) → ∃ v, led' C.ds = some (2900, .attrs (fup f "place" v) n)) :
    Wd C k (4 + 2 * (k : Int)) led' gn cnt ∧ RowsOk C led' gn cnt (4 + 2 * (k : Int)) k vsR := by
  obtain ⟨W', g, S⟩ := W.opened hK hd hs
  obtain ⟨f, n, t, h, _⟩ := W.r3
  have R' := hR.step ⟨f, n, h⟩ S g
  rw [show 3 + 2 * (k : Int) + 1 = 4 + 2 * (k : Int) by omega] at W' R'
  exact ⟨W', R'⟩
theorem Lp.fin {C : Con} {rw rl fl cd : Addr} {codes : List Value} {k : Nat} {m : Fld} {led : Led} {gn : Nat → Fld} {cnt : Nat → Str → Int} {vsR : List Value} {t3 r4 : Addr} {lv : Nat} {u1 u2 : Tok} {laid : Bool}
    (m1 : m "run" = some (.ref C.run)) (m2 : m "scope" = some (.ref C.s)) (m3 : m "regions" = some (.ref rl)) (m4 : m "frames" = some (.ref fl)) (m5 : m "rows" = some (.ref rw)) (m6 : m "codes" = some (.ref cd))
    (h1 : led rl = some (7001, .list [.ref (C.reg 0), .ref (C.reg 1), .ref (C.reg 2)])) (h2 : led fl = some (7002, .list [.ref (C.fr 0), .ref (C.fr 1), .ref (C.fr 2)])) (h3 : led cd = some (7004, .list codes)) (h4 : led rw = some (7000, .list vsR))
    (W : Wd C (k + 1) (5 + 2 * (k : Int)) led gn cnt) (hR : RowsOk C led gn cnt (5 + 2 * (k : Int)) k vsR) (hrow : RowOk C led gn cnt (5 + 2 * (k : Int)) lv k r4 laid) (hlv : lv < 3) (ht : led t3 = none) :
    Lp C rw rl fl cd codes (k + 1) m (up (up led t3 (7005, .tup [.int (lv : Int) u1, .int (k : Int) u2, .ref r4])) rw (7000, .list (vsR ++ [.ref t3]))) := by
  have hne : t3 ≠ rw := fun z => by rw [z, h4] at ht; cases ht
  have e0 : ∀ a t o, led a = some (t, o) → t ≠ 7000 → up (up led t3 (7005, .tup [.int (lv : Int) u1, .int (k : Int) u2, .ref r4])) rw (7000, .list (vsR ++ [.ref t3])) a = some (t, o) := fun a t o h q1 => by
    rw [up_ne (fun z => by rw [z, h4] at h; cases h; exact q1 rfl), up_ne (fun z => by rw [z, ht] at h; cases h)]
    exact h
  have e : KeepT led (up (up led t3 (7005, .tup [.int (lv : Int) u1, .int (k : Int) u2, .ref r4])) rw (7000, .list (vsR ++ [.ref t3]))) := fun a t o h q1 _ => e0 a t o h q1
  have W' := W.keepT e (by obtain ⟨f, n, v, h, r⟩ := W.tt2; exact ⟨f, n, v, e0 _ _ _ h (by decide), r⟩)
  have R' := (hR.keepT e).more (t3 := t3) (r4 := r4) (lv := lv) (u1 := u1) (u2 := u2) (laid := laid) (by rw [up_ne hne]; exact up_eq _ _ _) hlv (hrow.keepT e)
  have q : 5 + 2 * (k : Int) = 3 + 2 * ((k + 1 : Nat) : Int) := by omega
  rw [q] at W' R'
  exact ⟨m1, m2, m3, m4, m5, m6, e0 _ _ _ h1 (by decide), e0 _ _ _ h2 (by decide), e0 _ _ _ h3 (by decide), gn, cnt, _, W', up_eq _ _ _, R'⟩
section
variable {G : Gd} {A : Around} {stk : List (Addr × Hid)} {L : Addr} {m : Fld} {led : Led} {E : Value → Shared → Prop}
set_option maxRecDepth 100000
set_option maxHeartbeats 4000000
theorem W_sliceTo {Q : Value → Fld → Led → Prop} {value upper : Expr} {p pos : Pos} {env : Env} (t' : Nat)
    (H : W G A stk L m led (eval value env) (fun o m1 led1 => W G A stk L m1 led1 (eval upper env) (fun vl m2 led2 => ∃ (l : Addr) (vs : List Value) (a : Nat) (u : Tok), o = .ref l ∧ G.base.IsList l vs.toArray ∧ vs.length ≤ 1000 ∧ vl = .int (a : Int) u ∧
      NewAt led2 (t', .list (vs.take a)) fun b led' => Q (.ref b) m2 led') E) E)
    (ht : ∀ o r, letTemporaryGo value o r = pure ()) : W G A stk L m led (eval (.Subscript value (.Slice none (some upper) none p) pos) env) Q E := fun h tk I => by
  refine wpAny_Subscript_list_slice (H.use I fun o h1 tk1 m1 led1 I1 q1 => ?_) ht
  rw [evalPart_none]
  refine wpAny_pure ?_
  show wpAny _ _ (eval upper env) _ _ _
  refine q1.use I1 fun vl h2 tk2 m2 led2 I2 q2 => ?_
  obtain ⟨l, vs, a, u, rfl, hl, hz, rfl, q⟩ := q2
  have hL : h2.IsList l vs.toArray := by obtain ⟨o, e, r⟩ := hl; exact ⟨o, I2.keep _ _ e, r⟩
  obtain ⟨hn, I'⟩ := I2.new (h' := (h2.push { cls := .type "slice", data := .fields #[.none, .int a u, .none] }).push { cls := .type "list", data := .seq (slicePick vs.toArray none (some (a : Int)) none) }) (t := t') (o := .list (vs.take a)) (a := h2.objs.size + 1) (by omega) (fun b x e => Heap.get?_push_of_some _ (Heap.get?_push_of_some _ e)) ⟨_, _, by rw [← Heap.size_push]; exact Heap.get?_push_size _ rfl, rfl, rfl, by rw [slicePick_upto']⟩
  exact ⟨l, _, _, _, rfl, hL, by simpa using small_line hz (by decide), .none, .int _ _, _, tk2, m2, _, rfl, I', q _ hn⟩
theorem WQ_pow106 {Q : Value → Prop} {t u : Tok} (q : ∀ t, Q (.int 1000000 t)) : WQ G A stk L m led (binaryOp .Pow (.int 10 t) (.int 6 u)) Q E := fun s I =>
  AutoIntOps.pow_4 (by decide) (by decide) (by decide) (by decide) (by decide +kernel) ⟨⟨s.toks + 1, rfl⟩, q _⟩
end
theorem envOf_eq (name : Str) (scope : Scope) (L a : Addr) (cd : Value) : envOf name scope L a cd = envX name scope L a cd [] := rfl
theorem callerD (env : Env) : (callerA.deeper env).depth ≤ 600 := Nat.le_of_ble_eq_true rfl
theorem callerF {name : Str} {scope : Scope} {L a : Addr} {cd : Value} {A : Around} (hk : scope.kind = .function) (h : callerA.deeper (envX name scope L a cd []) = A) (stk : List (Addr × Hid)) : Frs A stk L := by
  subst h
  refine ⟨[envX name scope L a cd []], rfl, fun env he => ?_⟩
  rw [List.mem_singleton] at he
  subst he
  exact ⟨(by show scope.kind ≠ _; rw [hk]; decide), L, rfl, .inl rfl⟩
theorem callerU (env : Env) : (callerA.deeper env).units ≤ 7000 := Nat.le_of_ble_eq_true rfl
theorem start {G : Gd} {A : Around} {t : Sem Flow} {h : Heap} {L : Addr} {m : Fld} {tk : Nat} {Q : Flow → Shared → Prop} {E : Value → Shared → Prop} {s : Shared} (hs : G.sh h tk = s) (F : Fr G.base L h m)
    (k : ∀ h' tk' m' led', Inv G [] L m' led' h' → Q (.ret (.bool true)) (G.sh h' tk'))
    (H : W G A [] L m (fun _ => none) t (fun f _ _ => f = .ret (.bool true)) E) : wpAny (model G.prog G.w) A t Q E s := by
  subst hs
  have I : Inv G [] L m (fun _ => none) h := ⟨F.keep, F.ns, F.above, by simp, fun p hp => (nomatch hp), fun a t o e => (nomatch e)⟩
  exact H.use I fun f h' tk' m' led' I' e => by subst e; exact k h' tk' m' led' I'
theorem law_gen {α : Type} {scr : Addr} {vs : List Value} {G0 : Gd} {A0 : Around} {L : Addr} {m0 : Fld} {led : Led} {t : Sem α} {Q : α → Fld → Led → Prop} {E0 : Value → Shared → Prop}
    (hL : G0.base.IsList scr vs.toArray) (hA : A0.depth ≤ 600) (hU : A0.units ≤ 7000) (hh : A0.handled = none) (hF : ∀ stk : List (Addr × Hid), Frs A0 stk L) (e0 : m0 "script" = some (.ref scr))
    (H : ∀ (G : Gd) (A : Around) (m1 : Fld) (E : Value → Shared → Prop), G.base.IsList scr vs.toArray → A.depth ≤ 600 → A.units ≤ 7000 → A.handled = none → (∀ stk : List (Addr × Hid), Frs A stk L) → m1 "script" = some (.ref scr) → W G A [] L m1 led t Q E) :
    W G0 A0 [] L m0 led t Q E0 := H G0 A0 m0 E0 hL hA hU hh hF e0
theorem law_gen2 {α : Type} {scr rw0 rl fl : Addr} {C0 : Con} {G : Gd} {A : Around} {stk : List (Addr × Hid)} {L : Addr} {m0 : Fld} {led0 : Led} {t : Sem α} {Q : α → Fld → Led → Prop} {E : Value → Shared → Prop}
    (h1 : m0 "scope" = some (.ref C0.s)) (h2 : m0 "run" = some (.ref C0.run)) (h3 : m0 "rows" = some (.ref rw0)) (h4 : m0 "regions" = some (.ref rl)) (h5 : m0 "frames" = some (.ref fl)) (h6 : m0 "script" = some (.ref scr))
    (k1 : led0 rw0 = some (7000, .list [])) (k2 : led0 rl = some (7001, .list [.ref (C0.reg 0), .ref (C0.reg 1), .ref (C0.reg 2)])) (k3 : led0 fl = some (7002, .list [.ref (C0.fr 0), .ref (C0.fr 1), .ref (C0.fr 2)])) (hW : Wd C0 0 3 led0 (fun _ _ => none) (fun _ _ => 0))
    (H : ∀ (C : Con) (m : Fld) (led : Led), m "scope" = some (.ref C.s) → m "run" = some (.ref C.run) → m "rows" = some (.ref rw0) → m "regions" = some (.ref rl) → m "frames" = some (.ref fl) → m "script" = some (.ref scr) →
      led rw0 = some (7000, .list []) → led rl = some (7001, .list [.ref (C.reg 0), .ref (C.reg 1), .ref (C.reg 2)]) → led fl = some (7002, .list [.ref (C.fr 0), .ref (C.fr 1), .ref (C.fr 2)]) → Wd C 0 3 led (fun _ _ => none) (fun _ _ => 0) → W G A stk L m led t Q E) :
    W G A stk L m0 led0 t Q E := H C0 m0 led0 h1 h2 h3 h4 h5 h6 k1 k2 k3 hW
set_option maxRecDepth 100000 in
set_option maxHeartbeats 8000000 in
theorem foo : PySem.Challenge.rw_pp0017_01.Holds := tpx (by
  k_go0
  rename_i w s₀ s₁ mg mb Gr Y fa o pm doc kV ho hgens KX X V GL T B TE TW wA wB M c1 c2 hcd ns hhas hl0 hl1 hrec hl2 as1 as2 scr vs as3 hL hrd hwell hrds hI hrdw hcond htrue K0 hx h₁ F N0
  refine' start (G := ⟨_, w, s₁.heap, s₁.gens, s₁.drawn, s₁.os, _, _, _, mg, mb, KX, T⟩) (tk := s₁.toks + 1) ?zhs F ?kEnd ?_
  case zhs => rfl
  case kEnd =>
    intro h' tk' m' led' I
    have F' := I.fr
    show GoodW _ _ _ _ _ (.ok (.ret (.bool true))) _
    refine goodW_bool F' hgens (raisesW_false ?zhn) ?zhp
    case zhn => wrow_none_raised
    case zhp =>
      refine' postW_of ?s9 ?v9 ?e9
      case s9 => o_shape
      case v9 => wtm_val
      case e9 => w_fin
  have hlen : vs.length ≤ 63 := by
    have := IntsAre.length hI
    omega
  have hall : ∀ v ∈ vs, ∃ a t, v = Value.int a t := fun v hv => IntsAre.allInts hI v (by simpa using hv)
  dsimp only
  rw [envOf_eq]
  refine law_gen (scr := scr) (vs := vs) hL (callerD _) (callerU _) rfl (callerF rfl rfl) rfl fun G A m1 E hLG hA hU hh hFr e0 => ?_
  repeat walk_at "st"
  refine W_call (new_Limits (by show A.depth ≤ _; omega) fun xl => ?_)
  repeat walk_at "st"
  refine W_call (new_Run (by show A.depth ≤ _; omega) ?_)
  intro run drun cm dcm u1 frun fcm hrun hdrun hcm hdcm n1 n2 n3 n4 n5 n6 r1 r2 r3 r4 r5 r6
  repeat walk_at "st"
  refine W_call (new_TaskThing 368 3680 (by show A.depth ≤ _; omega) ?_)
  intro tt dtt ftt htt hdtt httd tt3
  revert htt hdtt
  walk_at "split"
  repeat walk_at "st"
  refine W_list 7001 ?_
  repeat walk_at "st"
  refine W_call (c_open_region (by show A.depth ≤ _; omega) fun A1 stk1 L2 m2 E2 hA1 => new_Region_root (by omega) ?_)
  intro rg drg b1 b2 b3 b4 v3 v4 v5 frg x1 x2 x3 x4 x5 x6 x7 x8 x9 y1 y2 y3 y4 y5 y6 y7 y8 y9 z1 z2 g1 g2 g3 g4 g5 g6 g7 g8 g9 ga gb
  revert x1 x2 x4 x7 y2 y7
  walk_at "split"
  repeat walk_at "st"
  refine ⟨by show 1 ≤ 1000; decide, ?_⟩
  intro rl hrl
  revert hrl
  walk_at "split"
  repeat walk_at "st"
  refine W_list 7002 ?_
  repeat walk_at "st"
  refine W_call (new_Frame 159 1590 (by show A.depth ≤ _; omega) ?_)
  intro fr0 dfr0 nd0 ffr q1 q2 q3 q4 q5 q6 q7
  revert q1 q2 q5
  walk_at "split"
  repeat walk_at "st"
  refine ⟨by show 1 ≤ 1000; decide, ?_⟩
  intro fl hfl
  revert hfl
  walk_at "split"
  repeat walk_at "st"
  have one : ∀ l : Nat, l < 1 → l = 0 := fun l h => by omega
  refine W_gen (fun l => Bs ⟨run, drun, tt, dtt, 0, 0, cm, dcm, b4, fun _ => rg, fun _ => drg, fun _ => b3, fun _ => nd0, fun _ => fr0, fun _ => dfr0⟩ 1 l rl fl)
    ⟨by walk_at "lk", ⟨_, _, _, by walk_at "lk", by walk_at "fl", by walk_at "fl", by walk_at "fl", _, by walk_at "fl"⟩, by walk_at "lk", ⟨_, _, _, by walk_at "lk", tt3⟩, by walk_at "lk", ⟨_, _, _, _, by walk_at "lk", r5.choose_spec, r4⟩, by walk_at "lk",
     fun l _ => by walk_at "lk", fun l hl => by (obtain rfl := one l hl; exact ⟨_, _, _, _, _, by walk_at "lk", g2, by decide +kernel, g4, g6, ga⟩), ⟨_, _, _, by walk_at "lk", g5, gb⟩, fun l _ => by walk_at "lk", fun l _ => by walk_at "lk", fun l _ => by walk_at "lk",
     fun l hl => by (obtain rfl := one l hl; exact ⟨_, _, by walk_at "lk", q7, q6⟩), by (show _ = some ((7001, AO.list [Value.ref rg]) : Nat × AO); walk_at "lk"), by (show _ = some ((7002, AO.list [Value.ref fr0]) : Nat × AO); walk_at "lk"), fun i j hi hj _ => by omega, fun i j hi hj _ => by omega, fun l h0 hl => by omega⟩ ?_
  intro led1 hW
  refine' For_tup (by exact hh) ?_ ?zhs
  case zhs => intro _; rfl
  refine W_tup 7003 ?_
  repeat walk_at "st"
  refine ⟨by show 2 ≤ 1000; decide, ?_⟩
  intro tp htp
  refine exI4 tp 7003 _ (fun i m' led' => led' tp = some (7003, .tup [.str "sub" _, .str "task" _]) ∧ m' "regions" = some (.ref rl) ∧ m' "frames" = some (.ref fl) ∧ ∃ C, Bs C (i + 1) led' rl fl ∧ m' "run" = some (.ref C.run) ∧ m' "script" = some (.ref scr)) ⟨rfl, up_eq _ _ _, ⟨up_eq _ _ _, by walk_at "fl", by walk_at "fl", _, hW.le (Le.fresh htp), by walk_at "fl", by walk_at "fl"⟩, fun _ _ _ h => h.1, ?_, ?_⟩
  · intro stk2 E2 i v m' led' hi
    refine andE4 fun j1 j2 j3 hx => exE1 hx fun C => andE3 fun hB j4 j5 => ?_
    obtain ⟨kd, ku, rfl, kd1, kd2, hi2⟩ : ∃ kd ku, v = .str kd ku ∧ frameKinds.contains kd = true ∧ (kd == Str.ofString "package") = false ∧ i < 2 := by
      match i, hi with
      | 0, hi => cases hi; exact ⟨_, _, rfl, by decide +kernel, by decide +kernel, by decide⟩
      | 1, hi => cases hi; exact ⟨_, _, rfl, by decide +kernel, by decide +kernel, by decide⟩
      | n + 2, hi => cases hi
    have b_rl := hB.rl1
    have b_fl := hB.fl1
    have b_ri := hB.r1 i (by omega)
    have b_r0 := hB.r1 0 (by omega)
    refine exE3 hB.r3 fun bf bk bt => andE3 fun b_d0 b_made b_th => exE5 (hB.r2 i (by omega)) fun cf ck cy ct cu => andE6 fun c_d c_k c_kd c_root c_lev c_cnt => ?_
    have lst : ∀ g : Nat → Addr, ((List.range (i + 1)).map fun l => Value.ref (g l))[((List.range (i + 1)).map fun l => Value.ref (g l)).length - 1]? = some (.ref (g i)) := fun g => by simp
    repeat walk_at "st"
    refine W_unary2 ?_
    repeat walk_at "st"
    refine' W_tailLneg b_rl ?_ ?_ (lst C.reg) ?_ ?zhe
    case zhe => with_unfolding_all rfl
    · simp; omega
    · simp
    repeat walk_at "st"
    refine W_call (c_open_region (by show A.depth ≤ _; omega) fun A1 stk1 L2 m2 E2 hA1 => new_Region_sub (by omega) kd1 kd2 b_ri c_d c_root c_lev b_r0 b_d0 b_made ?_)
    intro x d b1 b2 b3 b4 v3 v4 v5 frg x1 x2 x3 x4 x5 x6 x7 x8 x9 y1 y2 y3 y4 y5 y6 y7 y8 y9 z1 z2 g1 g2 g3 g4 g5 g6 g7 g8 g9 ga gb
    repeat walk_at "st"
    refine' W_append (t := 7001) ?zhx ?zhz ?_
    case zhx => walk_at "lk"
    case zhz => (simp; omega)
    repeat walk_at "st"
    refine W_unary2 ?_
    repeat walk_at "st"
    refine' W_tailLneg (t := 7002) (by walk_at "lk") ?_ ?_ (lst C.fr) ?_ ?zhe
    case zhe => with_unfolding_all rfl
    · simp; omega
    · simp
    repeat walk_at "st"
    refine W_call (new_Frame 159 1590 (by show A.depth ≤ _; omega) ?_)
    intro fr dfr nd ffr q1 q2 q3 q4 q5 q6 q7
    revert q1 q2 q5
    walk_at "split"
    repeat walk_at "st"
    refine' W_append (t := 7002) ?zhx ?zhz ?_
    case zhx => walk_at "lk"
    case zhz => (simp; omega)
    repeat walk_at "st"
    refine W_nil ?_
    refine ⟨by walk_at "lk", by walk_at "fl", by walk_at "fl", _, Bs.more hB (by omega) (x := x) (d := d) (c := b3) (fr := fr) (dfr := dfr) (nd := nd) (t := ku) (by walk_at "keep") ?_ (by walk_at "lk") (by walk_at "lk") g2 kd1 g4 (by rw [g6]; rfl) ga (by walk_at "lk") (by walk_at "lk") (by walk_at "lk") (by walk_at "lk") q7 q6 (by walk_at "lk") (by walk_at "lk") (by assumption) (by assumption) (by assumption), by walk_at "fl", by walk_at "fl"⟩
    intro f k hf
    rw [b_d0] at hf
    cases hf
    exact ⟨v3, by walk_at "lk"⟩
  intro m2 led2
  refine andE4 fun _ j2 j3 hx => exE1 hx fun C => andE3 fun hB j4 j5 => ?_
  refine after_next ?_
  have b_rl : led2 rl = some (7001, .list [.ref (C.reg 0), .ref (C.reg 1), .ref (C.reg 2)]) := hB.rl1
  have b_fl : led2 fl = some (7002, .list [.ref (C.fr 0), .ref (C.fr 1), .ref (C.fr 2)]) := hB.fl1
  have b_run := hB.run1
  refine exE3 hB.run2 fun fru nru tru => andE5 fun b_dr ru1 ru2 ru3 hx => exE1 hx fun lim ru4 => ?_
  repeat walk_at "st"
  refine W_dict0 0 ?_
  intro bd hbd
  repeat walk_at "st"
  refine W_call (new_Scope 290 2900 (by show A.depth ≤ _; omega) fun sc dsc ul uc fsc hsc hdsc hscd sc1 sc2 sc3 => ?_)
  revert hsc hdsc
  walk_at "split"
  repeat walk_at "st"
  refine W_list 7000 ?_
  repeat walk_at "st"
  refine ⟨by show 0 ≤ 1000; decide, ?_⟩
  intro rw0 hrw
  revert hrw
  walk_at "split"
  repeat walk_at "st"
  refine law_gen2 (C0 := { C with s := sc, ds := dsc }) (rw0 := rw0) (rl := rl) (fl := fl) (scr := scr) (by walk_at "fl") (by show _ = some (Value.ref C.run); walk_at "fl") (by walk_at "fl") (by walk_at "fl") (by walk_at "fl") (by walk_at "fl")
    (by walk_at "lk") (by (show _ = some (7001, AO.list [.ref (C.reg 0), .ref (C.reg 1), .ref (C.reg 2)]); walk_at "lk")) (by (show _ = some (7002, AO.list [.ref (C.fr 0), .ref (C.fr 1), .ref (C.fr 2)]); walk_at "lk"))
    (Bs.wd (hB.le (Keep.le (by walk_at "keep"))) (by walk_at "lk") (by walk_at "lk") sc1 sc2 sc3) fun C' m3 led3 j6 j7 j8 j9 ja jb k1 k2 k3 hW3 => ?_
  repeat walk_at "st"
  clear j2 j3 j4 j5 hB b_rl b_fl b_run ru1 ru2 ru3 ru4 b_dr
  refine' W_compL 0 (fun _ => true) (fun _ y => ∃ c t, y = .int c t ∧ 0 ≤ c) (by exact hh) ?zhclos ?zhcell ?zhkind ?zhnames ?zhx ?_ ?zhs
  case zhs => intro _; rfl
  walk_at "compE"
  refine' W_sliceTo 0 ?_ ?zht
  case zht => intro _ _; rfl
  repeat walk_at "st"
  refine ⟨scr, vs, 8, _, rfl, hLG, by omega, rfl, fun sl hsl => ?_⟩
  refine ⟨sl, 0, vs.take 8, rfl, up_eq _ _ _, by simp; omega, ?_, ?_⟩
  · intro v hv
    obtain ⟨a, t, rfl⟩ := hall v (List.mem_of_mem_take hv)
    intro stk9 C9 m9 E9 hm9
    refine ⟨?_, fun _ => ?_⟩
    · repeat walk_at "stq"
      rfl
    · repeat walk_at "stq"
      refine WQ_abs fun t1 => ?_
      repeat walk_at "stq"
      refine WQ_pow106 fun t2 => ?_
      refine WQ_modI (by decide) fun t3 => ?_
      exact ⟨_, _, rfl, by rw [Int.fmod_eq_emod_of_nonneg _ (by decide)]; exact Int.emod_nonneg _ (by decide)⟩
  intro ys hys b2 hb2
  have hyL : ys.length ≤ 8 := by
    have := hys.length
    have h1 : ((vs.take 8).filter fun _ => true).length ≤ (vs.take 8).length := List.length_filter_le _ _
    have h2 : (vs.take 8).length ≤ 8 := by simp; omega
    omega
  have hyI := IntL.of hys
  clear hys
  revert hb2
  walk_at "split"
  refine W_list 0 ?_
  repeat walk_at "st"
  refine ⟨by show 5 ≤ 1000; decide, ?_⟩
  intro b3 hb3
  revert hb3
  walk_at "split"
  refine' W_addL 7004 (by walk_at "lk") (by walk_at "lk") (by simp; omega) ?_
  intro cd hcd
  revert hcd
  walk_at "split"
  repeat walk_at "st"
  refine W_gen (fun l => ∃ cl : List Value, l cd = some (7004, .list cl) ∧ IntL cl ∧ 5 ≤ cl.length ∧ cl.length ≤ 13 ∧ l rw0 = some (7000, .list []) ∧ l rl = some (7001, .list [.ref (C'.reg 0), .ref (C'.reg 1), .ref (C'.reg 2)]) ∧ l fl = some (7002, .list [.ref (C'.fr 0), .ref (C'.fr 1), .ref (C'.fr 2)]) ∧ Wd C' 0 3 l (fun _ _ => none) (fun _ _ => 0))
    ⟨_, by walk_at "lk", IntL.append hyI (by intro v hv; simp only [List.mem_cons, List.not_mem_nil, or_false] at hv; rcases hv with rfl | rfl | rfl | rfl | rfl <;> exact ⟨_, _, rfl, by decide⟩), by simp, by simp; omega, by walk_at "lk", by walk_at "lk", by walk_at "lk", hW3.le (Keep.le (by walk_at "keep"))⟩ ?_
  clear hW3 k1 k2 k3
  intro led4 hx
  refine exE1 hx fun cl => andE8 fun l1 l2 l3 l4 l5 l6 l7 hW4 => ?_
  refine' For_range (by exact hh) ?_ ?zhs
  case zhs => intro _; rfl
  repeat walk_at "st"
  refine W_len l1 (by omega) fun t0 => ?_
  repeat walk_at "st"
  refine W_range1 0 ?_
  intro rg hrg
  refine exI5 rg 0 0 cl.length (fun k => Lp C' rw0 rl fl cd cl k) ⟨rfl, by rw [Int.zero_add]; exact up_eq _ _ _, by decide, by decide, by omega, ⟨by walk_at "fl", by walk_at "fl", by walk_at "fl", by walk_at "fl", by walk_at "fl", by walk_at "fl", up_keep l6 hrg, up_keep l7 hrg, up_keep l1 hrg, _, _, [], hW4.le (Le.fresh hrg), up_keep l5 hrg, RowsOk.nil⟩, ?_, ?_⟩
  · intro stk2 E2 i t m' led' hi
    refine andE10 fun i1 i2 i3 i4 i5 i6 i7 i8 i9 hx => exE3 hx fun gn cnt vsR => andE3 fun hW ia hR => ?_
    obtain ⟨cv, ct, hcv, hc0⟩ := l2.at hi
    obtain ⟨lv, hlv, hlv3⟩ : ∃ lv : Nat, cv.fmod 3 = (lv : Int) ∧ lv < 3 := by
      rw [Int.fmod_eq_emod_of_nonneg _ (by decide)]
      exact ⟨(cv % 3).toNat, by omega, by omega⟩
    have lst : ∀ g : Nat → Addr, ([.ref (g 0), .ref (g 1), .ref (g 2)] : List Value)[((lv : Int)).toNat]? = some (.ref (g lv)) := fun g => by
      match lv, hlv3 with
      | 0, _ => rfl
      | 1, _ => rfl
      | 2, _ => rfl
    have hcv' : cl[((i : Int)).toNat]? = some (.int cv ct) := by simpa using hcv
    have w_rl := hW.r1 lv hlv3
    have w_r0 := hW.r1 0 (by decide)
    refine exE5 (hW.r2 lv hlv3) fun cf ck cy ctk cu => andE6 fun c_d c_k c_kd c_root c_lev c_cnt => exE3 hW.r3 fun bf bk bt => andE3 fun b_d0 b_made b_th => ?_
    have w_s := hW.s1
    refine exE8 hW.s2 fun fs ns' is ts us vsp gs js => andE4 fun s_1 s_2 s_3 _ => ?_
    rw [Int.zero_add]
    repeat walk_at "st"
    refine' W_tailL i9 (by omega) (by omega) hcv' ?_ ?zhs
    case zhs => with_unfolding_all rfl
    repeat walk_at "st"
    rw [hlv]
    refine' W_tailL i7 (by omega) (by omega) (lst C'.reg) ?_ ?zhs
    case zhs => with_unfolding_all rfl
    repeat walk_at "st"
    refine W_call (c_open_region (by show A.depth ≤ _; omega) fun A1 stk1 L2 m2 E2 hA1 => new_Region_pkg (by omega) w_rl c_d c_root c_lev w_r0 b_d0 b_made ?_)
    intro x d b1 b2 b3 b4 v3 v4 v5 frg x1 x2 x3 x4 x5 x6 x7 x8 x9 y1 y2 y3 y4 y5 y6 y7 y8 y9 z1 z2 g1 g2 g3 g4 g5 g6 g7 g8 g9 ga gb
    repeat walk_at "st"
    refine W_gen (fun l => (Wd C' i (4 + 2 * (i : Int)) l gn cnt ∧ RowsOk C' l gn cnt (4 + 2 * (i : Int)) i vsR) ∧ l rw0 = some (7000, .list vsR) ∧ l rl = some (7001, .list [.ref (C'.reg 0), .ref (C'.reg 1), .ref (C'.reg 2)]) ∧ l fl = some (7002, .list [.ref (C'.fr 0), .ref (C'.fr 1), .ref (C'.fr 2)]) ∧ l cd = some (7004, .list cl) ∧
        l x = some (428, .inst 428 d) ∧ l d = some (4280, .attrs frg 15) ∧ l b1 = some (1001, .sd (fun _ => none) 0) ∧ l b2 = some (1002, .list []) ∧ l C'.ds = some (2900, .attrs (fup fs "place" (.ref x)) ns') ∧ d ≠ C'.dreg 0)
      ⟨opened_all hW hR (by walk_at "keep") (fun f n h => by rw [b_d0] at h; cases h; exact ⟨v3, by walk_at "lk"⟩) (fun f n h => by rw [s_1] at h; cases h; exact ⟨_, by walk_at "lk"⟩),
        by walk_at "lk", by walk_at "lk", by walk_at "lk", by walk_at "lk", by walk_at "lk", by walk_at "lk", by walk_at "lk", by walk_at "lk", by walk_at "lk", by walk_at "ne"⟩ ?_
    clear hW hR ia i7 i8 i9 w_rl w_r0 c_d b_d0 w_s s_1 x1 x2 x4 x7 y2 y7
    intro led5
    refine andE11 fun hWR q0 q1 q2 q3 q4 q5 q6 q7 q8 q9 => andE2 (fun hW hR => ?_) hWR
    refine W_tup 7005 ?_
    repeat walk_at "st"
    refine' W_tailL q2 (by omega) (by omega) (lst C'.fr) ?_ ?zhs
    case zhs => with_unfolding_all rfl
    repeat walk_at "st"
    refine' W_tailL q3 (by omega) (by omega) hcv' ?_ ?zhs
    case zhs => with_unfolding_all rfl
    repeat walk_at "st"
    refine W_call (c_told (by show A.depth ≤ _; omega) (by show A.units ≤ _; omega) (by exact hh) hW (by omega) hlv3 q4 q5 g2 g3 g4 g7 g8 g9 g5 g6 q6 q7 q9 (fun f n h => by rw [q8] at h; cases h; exact fup_eq _ _ _) hc0 ?_)
    intro r4 led6 gn' cnt' laid hW6 hG6 hS6 hrow6
    refine exE3 hW.r3 fun bf6 bk6 bt6 => andE2 fun b_d6 _ => ?_
    have D6 : ∃ f n, led5 (C'.dreg 0) = some (4280, .attrs f n) := ⟨_, _, b_d6⟩
    have r0 := hS6.at D6 q0 (by decide)
    have r1' := hS6.at D6 q1 (by decide)
    have r2' := hS6.at D6 q2 (by decide)
    have r3' := hS6.at D6 q3 (by decide)
    have hR6 := hR.step D6 hS6 hG6
    repeat walk_at "st"
    refine ⟨by show 3 ≤ 1000; decide, ?_⟩
    intro t3 ht3
    repeat walk_at "st"
    refine' W_append (t := 7000) (up_keep r0 ht3) (by rw [hR.1]; omega) ?_
    repeat walk_at "st"
    refine W_nil ?_
    exact Lp.fin (by walk_at "fl") (by walk_at "fl") (by walk_at "fl") (by walk_at "fl") (by walk_at "fl") (by walk_at "fl") r1' r2' r3' r0 hW6 hR6 hrow6 hlv3 ht3
  intro m' led'
  refine andE10 fun i1 i2 i3 i4 i5 i6 i7 i8 i9 hx => exE3 hx fun gn cnt vsR => andE3 fun hW ia hR => ?_
  refine after_next ?_
  repeat walk_at "st"
  refine' For_list (by exact hh) ?_ ?zhs
  case zhs => intro _; rfl
  repeat walk_at "st"
  refine exI4 rw0 7000 vsR (fun _ m1 led1 => m1 "run" = some (.ref C'.run) ∧ m1 "regions" = some (.ref rl) ∧ m1 "frames" = some (.ref fl) ∧ led1 rw0 = some (7000, .list vsR) ∧ led1 rl = some (7001, .list [.ref (C'.reg 0), .ref (C'.reg 1), .ref (C'.reg 2)]) ∧ led1 fl = some (7002, .list [.ref (C'.fr 0), .ref (C'.fr 1), .ref (C'.fr 2)]) ∧
      Wd C' cl.length (3 + 2 * (cl.length : Int)) led1 gn cnt ∧ RowsOk C' led1 gn cnt (3 + 2 * (cl.length : Int)) cl.length vsR) ⟨rfl, ia, ⟨i1, i3, i4, ia, i7, i8, hW, hR⟩, fun _ _ _ h => h.2.2.2.1, ?_, ?_, ?_⟩
  · intro v hv
    obtain ⟨j, hj, e⟩ := List.mem_iff_getElem.mp hv
    obtain ⟨t3, r4, lv, u1, u2, laid, q1, -⟩ := hR.2 j (by rw [← hR.1]; exact hj)
    rw [List.getElem?_eq_getElem hj, e] at q1
    cases q1
    exact letGoes_tup
  · clear i1 i2 i3 i4 i5 i6 i7 i8 i9 hW ia
    intro stk2 E2 n v m1 led1 hn
    refine andE8 fun i1 i3 i4 ia i7 i8 hW hR1 => ?_
    have hnl : n < cl.length := by
      rw [← hR.1]
      exact (List.getElem?_eq_some_iff.mp hn).1
    refine exE6 (hR1.2 n hnl) fun t3 r4 lv u1 u2 laid => andE4 fun q1 q2 q3 q4 => ?_
    rw [hn] at q1
    cases q1
    refine' W_untup (by exact hh) q2 rfl rfl ?_
    refine W_inord ?_
    repeat walk_at "st"
    refine W_inord ?_
    repeat walk_at "st"
    refine W_inord ?_
    repeat walk_at "st"
    refine W_inord0 ?_
    repeat walk_at "st"
    refine' For_range (by exact hh) ?_ ?zhs
    case zhs => intro _; rfl
    repeat walk_at "st"
    refine W_range2 0 ?_
    intro rg hrg
    refine exI5 rg 0 ((lv : Int)) (3 - lv) (fun _ m2 led2 => m2 "run" = some (.ref C'.run) ∧ m2 "regions" = some (.ref rl) ∧ m2 "frames" = some (.ref fl) ∧ m2 "at" = some (.int (n : Int) u2) ∧ m2 "row" = some (.ref r4) ∧ led2 rw0 = some (7000, .list vsR) ∧ led2 rl = some (7001, .list [.ref (C'.reg 0), .ref (C'.reg 1), .ref (C'.reg 2)]) ∧ led2 fl = some (7002, .list [.ref (C'.fr 0), .ref (C'.fr 1), .ref (C'.fr 2)]) ∧
        Wd C' cl.length (3 + 2 * (cl.length : Int)) led2 gn cnt ∧ RowsOk C' led2 gn cnt (3 + 2 * (cl.length : Int)) cl.length vsR ∧ RowOk C' led2 gn cnt (3 + 2 * (cl.length : Int)) lv n r4 laid) ⟨rfl, by rw [show (lv : Int) + ((3 - lv : Nat) : Int) = 3 by omega]; exact up_eq _ _ _, by omega, by omega, by omega, ⟨by walk_at "fl", by walk_at "fl", by walk_at "fl", by walk_at "fl", by walk_at "fl", up_keep ia hrg, up_keep i7 hrg, up_keep i8 hrg, hW.le (Le.fresh hrg), hR1.keepT fun a t o h _ _ => up_keep h hrg, q4.le (Le.fresh hrg)⟩, ?_, ?_⟩
    · clear i1 i3 i4 ia i7 i8 hW hR1 q2 q4 hrg
      intro stk3 E3 i2 t2 m2 led2 hi2
      refine andE11 fun i1 i3 i4 i5 i6 ia i7 i8 hW hR1 q4 => ?_
      have hin : lv + i2 < 3 := by omega
      have lst : ∀ g : Nat → Addr, ([.ref (g 0), .ref (g 1), .ref (g 2)] : List Value)[(((lv + i2 : Nat) : Int)).toNat]? = some (.ref (g (lv + i2))) := fun g => by
        have : (((lv + i2 : Nat) : Int)).toNat = lv + i2 := by omega
        rw [this]
        match lv + i2, hin with
        | 0, _ => rfl
        | 1, _ => rfl
        | 2, _ => rfl
      rw [show (lv : Int) + (i2 : Int) = ((lv + i2 : Nat) : Int) by omega]
      have w_run := hW.run1
      have w_tt := hW.tt1
      refine exE3 hW.run2 fun fru nru tru => andE4 fun b_dr ru1 ru2 ru3 => exE3 hW.tt2 fun ftt ntt vtt => andE2 fun w_dtt w_fr => ?_
      repeat walk_at "st"
      refine' W_tailL i8 (by omega) (by omega) (lst C'.fr) ?_ ?zhs
      case zhs => with_unfolding_all rfl
      repeat walk_at "st"
      have eK : KeepT led2 (up led2 C'.dtt (3680, .attrs (fup ftt "frame" (.ref (C'.fr (lv + i2)))) ntt)) := fun a t o h _ h2 => by
        rw [up_ne (fun z => by rw [z, w_dtt] at h; cases h; exact h2 rfl)]
        exact h
      refine W_gen (fun l => l rw0 = some (7000, .list vsR) ∧ l rl = some (7001, .list [.ref (C'.reg 0), .ref (C'.reg 1), .ref (C'.reg 2)]) ∧ l fl = some (7002, .list [.ref (C'.fr 0), .ref (C'.fr 1), .ref (C'.fr 2)]) ∧ Wd C' cl.length (3 + 2 * (cl.length : Int)) l gn cnt ∧ RowsOk C' l gn cnt (3 + 2 * (cl.length : Int)) cl.length vsR ∧ RowOk C' l gn cnt (3 + 2 * (cl.length : Int)) lv n r4 laid ∧ AtF C' l (lv + i2))
        ⟨by walk_at "lk", by walk_at "lk", by walk_at "lk", hW.keepT eK ⟨_, _, _, up_eq _ _ _, fup_eq _ _ _⟩, hR1.keepT eK, q4.keepT eK, _, _, up_eq _ _ _, fup_eq _ _ _⟩ ?_
      clear eK w_run b_dr w_tt w_dtt ia i7 i8 hW hR1 q4
      intro led3
      refine andE7 fun ja j7 j8 jW jR jq jF => ?_
      refine' W_tailL j7 (by omega) (by omega) (lst C'.reg) ?_ ?zhs
      case zhs => with_unfolding_all rfl
      repeat walk_at "st"
      refine W_call (c_found (by show A.depth ≤ _; omega) (by exact hh) (hFr _) jW jF hin (Nat.le_add_right _ _) jq fun uf => ?_)
      refine exE14 jq fun sort us en de p dp asked fe fp ne np key uk ul => andE2 fun h1 _ => ?_
      repeat walk_at "st"
      cases laid with
      | true =>
        dsimp only
        repeat walk_at "st"
        refine ifS_f (by simp) ?_
        repeat walk_at "st"
        refine W_nil ?_
        exact ⟨by walk_at "fl", by walk_at "fl", by walk_at "fl", by walk_at "fl", by walk_at "fl", ja, j7, j8, jW, jR, jq⟩
      | false =>
        dsimp only
        repeat walk_at "st"
        refine W_neSS ?_
        repeat walk_at "st"
        refine W_nil ?_
        exact ⟨by walk_at "fl", by walk_at "fl", by walk_at "fl", by walk_at "fl", by walk_at "fl", ja, j7, j8, jW, jR, jq⟩
    · intro m2 led2
      refine andE11 fun j1 j3 j4 _ _ ja j7 j8 jW jR _ => ?_
      repeat walk_at "st"
      refine W_nil ?_
      exact ⟨j1, j3, j4, ja, j7, j8, jW, jR⟩
  · rintro m2 led2 -
    refine after_next ?_
    repeat walk_at "st"
    rfl)
end M
end Mine
theorem PySem.Challenge.cw_pp0017_01_holds : PySem.Challenge.rw_pp0017_01.Holds :=
  Mine.foo
