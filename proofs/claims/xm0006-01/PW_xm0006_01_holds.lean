import PyProof.Rows.All
import Wide.All
import OpenK.AllK
import Wide.FinOn
import PyProof.AttrMissHeap
import PySem.Challenge.RW_xm0006_01
section
open PySem PySem.W PyProof.Rows
set_option Elab.async false
namespace Mine
theorem hdA.tw5641486026917417492 : True := trivial
theorem hdA.tw4338210416270481323 : True := trivial
theorem hdA.tw3792669816987701253 : True := trivial
theorem hdA.tw7363955105372547158 : True := trivial
theorem hdA.tw2447126540731329292 : True := trivial
theorem hdA.tw14066119873727554497 : True := trivial
theorem hdA.tw11599439892570394017 : True := trivial
theorem hdA.tw115272694253628351 : True := trivial
theorem hdA.tw10064288870956175893 : True := trivial
theorem hdA.tw17204850565479264264 : True := trivial
theorem hdA.tw17909470943359147474 : True := trivial
theorem hdA.tw4809912691033439624 : True := trivial
theorem hdA.tw8329756394121625414 : True := trivial
theorem hdA.tw9035468554729692080 : True := trivial
theorem hdA.tw2941868683697672778 : True := trivial
theorem hdA.tw17277888608607398987 : True := trivial
theorem hdA.tw2768376060560538750 : True := trivial
theorem hdA.tw6386873903222259927 : True := trivial
theorem hdA.tw4781552457421086373 : True := trivial
theorem hdA.tw15367124052418594291 : True := trivial
theorem hdA.tw6764261963003557191 : True := trivial
theorem hdA.tw4540606607965239007 : True := trivial
theorem hdA.tw13854539413622123743 : True := trivial
theorem hdA.tw8166693187078539849 : True := trivial
theorem hdA.tw1100677444062981755 : True := trivial
theorem hdA.tw7636162668160822353 : True := trivial
theorem hdA.tw17360620357231098103 : True := trivial
theorem hdA.tw456620822818561877 : True := trivial
theorem hdA.tw13043737660569411023 : True := trivial
theorem hdA.tw4695709681660765194 : True := trivial
theorem hdA.tw10588426545476733360 : True := trivial
theorem hdA.tw6252649498364348157 : True := trivial
theorem hdA.tw9953568720040376304 : True := trivial
theorem hdA.tw9790065220907770223 : True := trivial
theorem hdA.tw18220578782842207191 : True := trivial
theorem hdA.tw16961571710752654299 : True := trivial
theorem hdA.tw6115345830761709222 : True := trivial
theorem hdA.tw2471115230594915593 : True := trivial
theorem hdA.tw9974200653574711120 : True := trivial
theorem hdA.tw2302321175801681003 : True := trivial
theorem hdA.tw5475138641866192302 : True := trivial
theorem hdA.tw14623539173839733815 : True := trivial
theorem hdA.tw13609734724321937828 : True := trivial
theorem hdA.tw8270029796439794777 : True := trivial
theorem hdA.tw10274042863204193012 : True := trivial
theorem hdA.tw4352034397322335855 : True := trivial
theorem hdA.tw1314201800544732821 : True := trivial
theorem hdA.tw5042901297284042281 : True := trivial
theorem hdA.tw9314470166132427319 : True := trivial
theorem hdA.tw6443631924743810026 : True := trivial
theorem hdA.tw17972891204060375173 : True := trivial
theorem hdA.tw12840729986265169734 : True := trivial
theorem hdA.tw6220328853853059051 : True := trivial
theorem hdA.tw11117418284316321075 : True := trivial
theorem hdA.tw384385735966777622 : True := trivial
theorem hdA.tw12642625437029909114 : True := trivial
theorem hdA.tw682304203613519608 : True := trivial
theorem hdA.tw17931077968856608353 : True := trivial
theorem hdA.tw18146683514142432707 : True := trivial
theorem hdA.tw4824323868401478312 : True := trivial
theorem hdA.tw7606879582745410377 : True := trivial
theorem hdA.tw11274074214424627147 : True := trivial
theorem hdA.tw17009004012700833879 : True := trivial
theorem hdA.tw626334068897162223 : True := trivial
theorem hdA.tw11081657115764660051 : True := trivial
theorem hdA.tw16028285159847626809 : True := trivial
theorem hdA.tw17450636591896191170 : True := trivial
theorem hdA.tw7328373857455395809 : True := trivial
theorem hdA.tw11811385532365067412 : True := trivial
theorem hdA.tw10717279099070848482 : True := trivial
theorem hdA.tw9345675992478885742 : True := trivial
theorem hdA.tw16080905797610732150 : True := trivial
theorem hdA.tw17325195751335843240 : True := trivial
theorem hdA.tw12474161561055154497 : True := trivial
theorem hdA.tw4126181205319851543 : True := trivial
theorem hdA.tw5669068365159319605 : True := trivial
theorem hdA.tw1362404467553893462 : True := trivial
theorem hdA.tw1997040182325361709 : True := trivial
theorem hdA.tw7332910008857129343 : True := trivial
theorem hdA.tw11876411980258420832 : True := trivial
theorem hdA.tw16752330745040326767 : True := trivial
theorem hdA.tw340164604693529714 : True := trivial
theorem hdA.tw1434063180124761124 : True := trivial
theorem hdA.tw124725822322814971 : True := trivial
theorem hdA.tw16161571175845858361 : True := trivial
theorem hdA.tw711435283876250332 : True := trivial
theorem hdA.tw14950555865550915372 : True := trivial
theorem hdA.tw16963350957643401190 : True := trivial
theorem hdA.tw6907852708267813210 : True := trivial
theorem hdA.tw14177383867699064629 : True := trivial
theorem hdA.tw3472282233484589885 : True := trivial
theorem hdA.tw10404661368567802099 : True := trivial
theorem hdA.tw1159589089575650326 : True := trivial
theorem hdA.tw6396998680901649858 : True := trivial
theorem hdA.tw18091750681832121500 : True := trivial
theorem hdA.tw17008842375301182583 : True := trivial
theorem hdA.tw16372819237368694797 : True := trivial
theorem hdA.tw14865728344763900822 : True := trivial
theorem hdA.tw13651709482919192417 : True := trivial
theorem hdA.tw6229892801694880252 : True := trivial
theorem hdA.tw17257554661255008729 : True := trivial
theorem hdA.tw8677594777199568370 : True := trivial
theorem hdA.tw304051184740809843 : True := trivial
theorem hdA.tw4854016987521279420 : True := trivial
theorem hdA.tw17370605525353366033 : True := trivial
theorem hdA.tw3118943482573022025 : True := trivial
theorem hdA.tw2269549019182531798 : True := trivial
theorem hdA.tw1286852131084786856 : True := trivial
theorem hdA.tw14051356119388235824 : True := trivial
theorem hdA.tw2541382233222249307 : True := trivial
theorem hdA.tw16598556191500355989 : True := trivial
theorem hdA.tw15380652440312249515 : True := trivial
theorem hdA.tw4591092683930817823 : True := trivial
theorem hdA.tw6333673250938083571 : True := trivial
theorem hdA.tw5658096439210969677 : True := trivial
theorem hdA.tw13337282783113164665 : True := trivial
theorem hdA.tw11332000177626992872 : True := trivial
theorem hdA.tw16225938375792384813 : True := trivial
theorem hdA.tw15679362018910304644 : True := trivial
theorem hdA.tw7755831479923372628 : True := trivial
theorem hdA.tw14024202071790546992 : True := trivial
theorem hdA.tw15558238238192261021 : True := trivial
theorem hdA.tw14573943046379918270 : True := trivial
theorem hdA.tw4655693825807642809 : True := trivial
theorem hdA.tw12886620634074984153 : True := trivial
theorem hdA.tw11384561173329094379 : True := trivial
theorem hdA.tw17351457038092994229 : True := trivial
theorem hdA.tw515191057677646804 : True := trivial
theorem hdA.tw2615654473732256094 : True := trivial
theorem hdA.tw16423849870339313164 : True := trivial
theorem hdA.tw11629092441344016984 : True := trivial
theorem hdA.tw3978829426580884928 : True := trivial
theorem hdA.tw3949670090387617166 : True := trivial
theorem hdA.tw9545452528655697033 : True := trivial
theorem hdA.tw9231213438512074863 : True := trivial
theorem hdA.tw721454345911676385 : True := trivial
theorem hdA.tw5163320355153380138 : True := trivial
theorem hdA.tw14994015055101390527 : True := trivial
theorem hdA.tw6458262263982948370 : True := trivial
theorem hdA.tw6907461543738561591 : True := trivial
theorem hdA.tw12420601507580679782 : True := trivial
theorem hdA.tw16315265639418271480 : True := trivial
theorem hdA.tw10363079971248351154 : True := trivial
theorem hdA.tw7287891517256625276 : True := trivial
theorem hdA.tw7375257928568019 : True := trivial
theorem hdA.tw3902882697794278365 : True := trivial
theorem hdA.tw9773790722004637536 : True := trivial
theorem hdA.tw13548114085452135899 : True := trivial
theorem hdA.tw13179974894323644370 : True := trivial
theorem hdA.tw4505843487769824414 : True := trivial
theorem hdA.tw15208539506378252601 : True := trivial
theorem hdA.tw14990420065784276961 : True := trivial
theorem hdA.tw6709939317722615649 : True := trivial
theorem hdA.tw4267830566603993351 : True := trivial
theorem hdA.tw1105213127977766528 : True := trivial
theorem hdA.tw12015078460300427861 : True := trivial
theorem hdA.tw16581945653851413749 : True := trivial
theorem hdA.tw13069813318191318523 : True := trivial
theorem hdA.tw16086903911741406556 : True := trivial
theorem hdA.tw15733737693095520811 : True := trivial
theorem hdA.tw9450498274096921492 : True := trivial
theorem hdA.tw10000634482857086707 : True := trivial
theorem hdA.tw17207226014120603358 : True := trivial
theorem hdA.tw15523739864491202404 : True := trivial
theorem hdA.tw14038010978777466188 : True := trivial
theorem hdA.tw9275606292169151127 : True := trivial
theorem hdA.tw14539034428909257550 : True := trivial
theorem hdA.tw17993138905729508847 : True := trivial
theorem hdA.tw8325061377692813565 : True := trivial
theorem hdA.tw15933133851956173587 : True := trivial
theorem hdA.tw5641527937874738921 : True := trivial
theorem hdA.tw3876270792558473669 : True := trivial
theorem hdA.tw1023137632621433617 : True := trivial
theorem hdA.tw7510641116651223524 : True := trivial
theorem hdA.tw12430683834602972319 : True := trivial
theorem hdA.tw13784806594835473340 : True := trivial
theorem hdA.tw15502949098489296055 : True := trivial
theorem hdA.tw8237980232779566211 : True := trivial
theorem hdA.tw7138502646831748802 : True := trivial
theorem hdA.tw4631267269983937047 : True := trivial
theorem hdA.tw10143451779987702931 : True := trivial
theorem hdA.tw17509682395326230313 : True := trivial
theorem hdA.tw10593363619505390154 : True := trivial
theorem hdA.tw11426840271450493087 : True := trivial
theorem hdA.tw6320221276313886869 : True := trivial
theorem hdA.tw12279315775391932925 : True := trivial
theorem hdA.tw19738566984334597 : True := trivial
theorem hdA.tw2417506204384291764 : True := trivial
theorem hdA.tw9500902806542677696 : True := trivial
theorem hdA.tw13643286042892555280 : True := trivial
theorem hdA.tw2920389436023310778 : True := trivial
theorem hdA.tw2082532916163322967 : True := trivial
theorem hdA.tw1970611346693977720 : True := trivial
theorem hdA.tw16183914052403268132 : True := trivial
theorem hdA.tw7751828930424779903 : True := trivial
theorem hdA.tw2785809567307066682 : True := trivial
theorem hdA.tw9339198728129631529 : True := trivial
theorem hdA.tw18418507112041334962 : True := trivial
theorem hdA.tw8727278897400375782 : True := trivial
theorem hdA.tw17365825784921166177 : True := trivial
theorem hdA.tw16187970335410578868 : True := trivial
theorem hdA.tw2833132530325406404 : True := trivial
theorem hdA.tw2643306866239932588 : True := trivial
theorem hdA.tw414734034517025391 : True := trivial
theorem hdA.tw9869774260216421901 : True := trivial
theorem hdA.tw6105430600146173591 : True := trivial
theorem hdA.tw8202134596760900571 : True := trivial
theorem hdA.tw9940632477791484673 : True := trivial
theorem hdA.tw14482297631521385392 : True := trivial
theorem hdA.tw11530662192374959502 : True := trivial
theorem hdA.tw2702578737985555071 : True := trivial
theorem hdA.tw11121938912647240120 : True := trivial
theorem hdA.tw17433755657343275626 : True := trivial
theorem hdA.tw12305511792282175272 : True := trivial
theorem hdA.tw6721089802027404271 : True := trivial
theorem hdA.tw16182246642013876449 : True := trivial
theorem hdA.tw2270103868962803110 : True := trivial
theorem hdA.tw6081828390233740776 : True := trivial
theorem hdA.tw15866071958022804701 : True := trivial
theorem hdA.tw16405414840234176064 : True := trivial
theorem hdA.tw4317582749507307425 : True := trivial
theorem hdA.tw1587921466800393362 : True := trivial
theorem hdA.tw7762268447274795020 : True := trivial
theorem hdA.tw12970675309656631259 : True := trivial
theorem hdA.tw14252695210072338360 : True := trivial
theorem hdA.tw14965434467229467173 : True := trivial
theorem hdA.tw14242285826122011519 : True := trivial
theorem hdA.tw14570062393942519653 : True := trivial
theorem hdA.tw6329751759839303905 : True := trivial
theorem hdA.tw9415991886651386308 : True := trivial
theorem hdA.tw2779620995250937340 : True := trivial
theorem hdA.tw5281654364228680684 : True := trivial
theorem hdA.tw1208546086732365404 : True := trivial
theorem hdA.tw16668110086530145407 : True := trivial
theorem hdA.tw14446578026365105007 : True := trivial
theorem hdA.tw9075189248019781161 : True := trivial
theorem hdA.tw15370153291158861321 : True := trivial
theorem hdA.tw4526902349156317083 : True := trivial
theorem hdA.tw655011139727513637 : True := trivial
theorem hdA.tw9017557951346181788 : True := trivial
theorem hdA.tw4869140225693171738 : True := trivial
theorem hdA.tw16426540069791603899 : True := trivial
theorem hdA.tw6926305692696221945 : True := trivial
theorem hdA.tw10979860139751817429 : True := trivial
theorem hdA.tw5724519889149280930 : True := trivial
theorem hdA.tw3907533228478439465 : True := trivial
theorem hdA.tw11885713025704796343 : True := trivial
theorem hdA.tw7070730601141323602 : True := trivial
theorem hdA.tw16686616165226677068 : True := trivial
theorem hdA.tw12099167217232158560 : True := trivial
theorem hdA.tw17643893452855288009 : True := trivial
theorem hdA.tw10786772118375455132 : True := trivial
theorem hdA.tw11504797695063760913 : True := trivial
theorem hdA.tw4061643831296497849 : True := trivial
theorem hdA.tw9897204805493322171 : True := trivial
theorem hdA.tw9617049156554660898 : True := trivial
theorem hdA.tw12294409430814082429 : True := trivial
theorem hdA.tw2548571254488399211 : True := trivial
theorem hdA.tw4921720020777764220 : True := trivial
theorem hdA.tw1144515815320140985 : True := trivial
theorem hdA.tw10215209769115717004 : True := trivial
theorem hdA.tw16461238518624070937 : True := trivial
theorem hdA.tw11053673073594442618 : True := trivial
theorem hdA.tw12922390401629255053 : True := trivial
theorem hdA.tw8495290233195977538 : True := trivial
theorem hdA.tw9334855358320088652 : True := trivial
theorem hdA.tw12765940533438775566 : True := trivial
theorem hdA.tw2687275999244853728 : True := trivial
theorem hdA.tw10478885066096816711 : True := trivial
theorem hdA.tw10130108986215906234 : True := trivial
theorem hdA.tw14952563999916129680 : True := trivial
theorem hdA.tw10168931899677068557 : True := trivial
theorem hdA.tw14221640439090280991 : True := trivial
theorem hdA.tw9851798230814150212 : True := trivial
theorem hdA.tw17861127501841782831 : True := trivial
theorem hdA.tw16531340436593556918 : True := trivial
theorem hdA.tw4915272838553734346 : True := trivial
theorem hdA.tw4730170980500885653 : True := trivial
theorem hdA.tw4035117257508989922 : True := trivial
theorem hdA.tw15631654474220226171 : True := trivial
theorem hdA.tw8326960137583263219 : True := trivial
theorem hdA.tw17136666807795209721 : True := trivial
theorem hdA.tw5422472996946108684 : True := trivial
theorem hdA.tw6591827596855066805 : True := trivial
theorem hdA.tw17786397844729142184 : True := trivial
theorem hdA.tw11856647920421929221 : True := trivial
theorem hdA.tw5320568996640653090 : True := trivial
theorem hdA.tw13710875263310608675 : True := trivial
theorem hdA.tw4312867968637128767 : True := trivial
theorem hdA.tw14395553032665675785 : True := trivial
theorem hdA.tw8855635410336591682 : True := trivial
theorem hdA.tw1134990307980106143 : True := trivial
theorem hdA.tw18433862500000766622 : True := trivial
theorem hdA.tw6012595397934277334 : True := trivial
theorem hdA.tw15938113056058305475 : True := trivial
theorem hdA.tw16813691408135325915 : True := trivial
theorem hdA.tw5578810226223791979 : True := trivial
theorem hdA.tw13299381129865049154 : True := trivial
theorem hdA.tw13651292711052445702 : True := trivial
theorem hdA.tw8285672392503070814 : True := trivial
theorem hdA.tw1555985805085179854 : True := trivial
theorem hdA.tw1030808930350772107 : True := trivial
theorem hdA.tw9997350280799118325 : True := trivial
theorem hdA.tw18273160644786630370 : True := trivial
theorem hdA.tw9447319458122947306 : True := trivial
theorem hdA.tw10185442719857685198 : True := trivial
theorem hdA.tw1680107132044819359 : True := trivial
theorem hdA.tw5410191727819735373 : True := trivial
theorem hdA.tw9749870596480365447 : True := trivial
theorem hdA.tw9688673055497847327 : True := trivial
theorem hdA.tw7562295751102966487 : True := trivial
theorem hdA.tw13630969933044345143 : True := trivial
theorem hdA.tw15770613213148165374 : True := trivial
theorem hdA.tw505781958506320622 : True := trivial
theorem hdA.tw7057067473158205678 : True := trivial
theorem hdA.tw16005572895437989529 : True := trivial
theorem hdA.tw12675167373711655559 : True := trivial
theorem hdA.tw14462618619642903804 : True := trivial
theorem hdA.tw16469333885045731833 : True := trivial
theorem hdA.tw9646460993065469123 : True := trivial
theorem hdA.tw7572440970577242822 : True := trivial
theorem hdA.tw15414468744376792270 : True := trivial
theorem hdA.tw5972254722230522609 : True := trivial
theorem hdA.tw1399781159166694032 : True := trivial
theorem hdA.tw17085042266718232758 : True := trivial
theorem hdA.tw10593543116244437704 : True := trivial
theorem hdA.tw11034575289641661762 : True := trivial
theorem hdA.tw8856552886994991130 : True := trivial
theorem hdA.tw345896455833949225 : True := trivial
theorem hdA.tw9398317252444487214 : True := trivial
theorem hdA.tw2126022114274762219 : True := trivial
theorem hdA.tw8542095982430084743 : True := trivial
theorem hdA.tw5708912833376207516 : True := trivial
theorem hdA.tw710328904693305 : True := trivial
theorem hdA.tw16033601511114725245 : True := trivial
theorem hdA.tw7600198683738537840 : True := trivial
theorem hdA.tw13851155299418316917 : True := trivial
theorem hdA.tw7364454551888157397 : True := trivial
theorem hdA.tw15073523085991176738 : True := trivial
theorem hdA.tw5355776408786498247 : True := trivial
theorem hdA.tw14072539365976564756 : True := trivial
theorem hdA.tw12427034721179749008 : True := trivial
theorem hdA.tw9458439009796244250 : True := trivial
theorem hdA.tw18191800720248193777 : True := trivial
theorem hdA.tw10733804428825881629 : True := trivial
theorem hdA.tw16922028474382895735 : True := trivial
theorem hdA.tw18371735653044257874 : True := trivial
theorem hdA.tw17441691502690399240 : True := trivial
theorem hdA.tw1054683036433902768 : True := trivial
theorem hdA.tw17373997155613541612 : True := trivial
theorem hdA.tw2067882083452915504 : True := trivial
theorem hdA.tw8766174108258082223 : True := trivial
theorem hdA.tw14484733880162450272 : True := trivial
theorem hdA.tw5849258616541032200 : True := trivial
theorem hdA.tw7420171563756540981 : True := trivial
theorem hdA.tw3275981536235163833 : True := trivial
theorem hdA.tw11408964359729549320 : True := trivial
theorem hdA.tw6092776121935091912 : True := trivial
theorem hdA.tw16959674608400205438 : True := trivial
theorem hdA.tw8932296473770937107 : True := trivial
theorem hdA.tw6607366250059066620 : True := trivial
theorem hdA.tw13444246642796604047 : True := trivial
theorem hdA.tw16075268252731995010 : True := trivial
theorem hdA.tw8895765528852318003 : True := trivial
theorem hdA.tw14342661910827502585 : True := trivial
theorem hdA.tw14417289515224731490 : True := trivial
theorem hdA.tw2207079301672523508 : True := trivial
theorem hdA.tw11340573956791089413 : True := trivial
theorem hdA.tw1984607523237913 : True := trivial
theorem hdA.tw3767973826885021928 : True := trivial
theorem hdA.tw8293722875063820621 : True := trivial
theorem hdA.tw2985587412585907045 : True := trivial
theorem hdA.tw1262756081371208100 : True := trivial
theorem hdA.tw1728818038485095713 : True := trivial
theorem hdA.tw3693855434162980808 : True := trivial
theorem hdA.tw8874602652617313798 : True := trivial
theorem hdA.tw11693777358876021098 : True := trivial
theorem hdA.tw11646984095588809540 : True := trivial
theorem hdA.tw13024292414211474628 : True := trivial
theorem hdA.tw14200900361018187427 : True := trivial
theorem hdA.tw8120561706510913842 : True := trivial
theorem hdA.tw10720654633322727165 : True := trivial
theorem hdA.tw12274708133352535662 : True := trivial
theorem hdA.tw9404321070093533037 : True := trivial
theorem hdA.tw6950756390973052282 : True := trivial
theorem hdA.tw8270870470412368998 : True := trivial
theorem hdA.tw16533112863036246878 : True := trivial
theorem hdA.tw10081116728111081876 : True := trivial
theorem hdA.tw2322862252029326116 : True := trivial
theorem hdA.tw753566931524189645 : True := trivial
theorem hdA.tw1650393567135558219 : True := trivial
theorem hdA.tw4185302944256576745 : True := trivial
theorem hdA.tw539839107132911031 : True := trivial
theorem hdA.tw11028634391509217076 : True := trivial
theorem hdA.tw5132543777413260441 : True := trivial
theorem hdA.tw1335696215638932127 : True := trivial
theorem hdA.tw10409698553655091607 : True := trivial
theorem hdA.tw10428404145928492064 : True := trivial
theorem hdA.tw8144191502469957459 : True := trivial
theorem hdA.tw8353152567888229092 : True := trivial
theorem hdA.tw10590482377046189273 : True := trivial
theorem hdA.tw16836461204921593789 : True := trivial
theorem hdA.tw10125207824078000925 : True := trivial
theorem hdA.tw5091958890850561200 : True := trivial
theorem hdA.tw7996047073284197911 : True := trivial
theorem hdA.tw188602079992529948 : True := trivial
theorem hdA.tw6964520541099912141 : True := trivial
theorem hdA.tw4501772698424725489 : True := trivial
theorem hdA.tw154634569234053773 : True := trivial
theorem hdA.tw16341760871321475236 : True := trivial
theorem hdA.tw7188262089512934247 : True := trivial
theorem hdA.tw12021015274346910799 : True := trivial
theorem hdA.tw2238625535317000961 : True := trivial
theorem hdA.tw14768586106486826912 : True := trivial
theorem hdA.tw6511159732832903752 : True := trivial
theorem hdA.tw3755660579878594759 : True := trivial
theorem hdA.tw6963161795107275220 : True := trivial
theorem hdA.tw6730181846070342383 : True := trivial
theorem hdA.tw18039058287262916685 : True := trivial
theorem hdA.tw9533455914378756151 : True := trivial
theorem hdA.tw16562369124064339772 : True := trivial
theorem hdA.tw15582123580654950139 : True := trivial
theorem hdA.tw16404864438308319150 : True := trivial
theorem hdA.tw17637912378614018366 : True := trivial
theorem hdA.tw13493969214690971556 : True := trivial
theorem hdA.tw13304448766784151461 : True := trivial
theorem hdA.tw14179113957728385428 : True := trivial
theorem hdA.tw16808446596448536701 : True := trivial
theorem hdA.tw12802339603595086245 : True := trivial
theorem hdA.tw378879732396554828 : True := trivial
theorem hdA.tw7082664768840715580 : True := trivial
theorem hdA.tw2072341373989795302 : True := trivial
theorem hdA.tw6410416448372317825 : True := trivial
theorem hdA.tw971106262040386498 : True := trivial
theorem hdA.tw1275788568331285447 : True := trivial
theorem hdA.tw2768570571279544134 : True := trivial
theorem hdA.tw9993257117294383260 : True := trivial
theorem hdA.tw17552234163131890835 : True := trivial
theorem hdA.tw16654638650862987656 : True := trivial
theorem hdA.tw8997206649120706629 : True := trivial
theorem hdA.tw9565016222573643882 : True := trivial
theorem hdA.tw6225982943041265620 : True := trivial
theorem hdA.tw851902309885117755 : True := trivial
theorem hdA.tw17306505289079205821 : True := trivial
theorem hdA.tw10474169311404721443 : True := trivial
theorem hdA.tw12355263112011000419 : True := trivial
theorem hdA.tw18142105195401253867 : True := trivial
theorem hdA.tw4439265144623856199 : True := trivial
theorem hdA.tw5649072075959960809 : True := trivial
theorem hdA.tw6854096273832744972 : True := trivial
theorem hdA.tw17827783841362536014 : True := trivial
theorem hdA.tw17740621874622807656 : True := trivial
theorem hdA.tw5508494272682257944 : True := trivial
theorem hdA.tw2813887554266119235 : True := trivial
theorem hdA.tw7487045993024733774 : True := trivial
theorem hdA.tw6247261409314663308 : True := trivial
theorem hdA.tw7602340991864500580 : True := trivial
theorem hdA.tw5544474705641809340 : True := trivial
theorem hdA.tw17839597478599218411 : True := trivial
theorem hdA.tw17739841696955135563 : True := trivial
theorem hdA.tw10665368511449066645 : True := trivial
theorem hdA.tw387949645731064303 : True := trivial
theorem hdA.tw16591010986771145102 : True := trivial
theorem hdA.tw9752062236793532883 : True := trivial
theorem hdA.tw14569167478995029610 : True := trivial
theorem hdA.tw3236254694080683706 : True := trivial
theorem hdA.tw15592362158880254393 : True := trivial
theorem hdA.tw15160957375506575711 : True := trivial
theorem hdA.tw9594935194522347365 : True := trivial
theorem hdA.tw6409634245047292805 : True := trivial
theorem hdA.tw9257336414931986817 : True := trivial
theorem hdA.tw8181577055790097565 : True := trivial
theorem hdA.tw8575435060190968056 : True := trivial
theorem hdA.tw2785279249445375509 : True := trivial
theorem hdA.tw18360252462786710353 : True := trivial
theorem hdA.tw11050901593168652837 : True := trivial
theorem hdA.tw4847129516889866385 : True := trivial
theorem hdA.tw10629499628106023116 : True := trivial
theorem hdA.tw4976842598831448849 : True := trivial
theorem hdA.tw11156718309495464025 : True := trivial
theorem hdA.tw2369648483772439492 : True := trivial
theorem hdA.tw8706759201405580555 : True := trivial
theorem hdA.tw1888443504616523137 : True := trivial
theorem hdA.tw12952674640512404813 : True := trivial
theorem hdA.tw5592733167407589680 : True := trivial
theorem hdA.tw7407974064825389307 : True := trivial
theorem hdA.tw5978558937140416081 : True := trivial
theorem hdA.tw11771301997911418390 : True := trivial
theorem hdA.tw2555592803548465049 : True := trivial
theorem hdA.tw4860055988469333136 : True := trivial
theorem hdA.tw7369757909810549027 : True := trivial
theorem PySem.W.holds_open {r : OpenRow} {q : Program} {loose : List Str} {Xt : Shared → Bool} {XP : (Str → Option Value) → Heap → Prop} {α : Type} {Yf : Shared → α} {Ya : World → α} {YP : World → Heap → Prop} {d : DefRec} {kwd : List (Str × PySem.Expr)} {N : Nat}
    (left : LeftO r.prog q loose Xt Yf Ya N) (hY : ∀ w s, Yf s = Ya w → YP w s.heap) (hYk : ∀ w h h', YP w h → (∀ b o, h.get? b = some o → h'.get? b = some o) → YP w h')
    (hX : ∀ s, Xt s = true → XP (s.heap.nsMap mainGlobals) s.heap) (hXk : ∀ mg h h', XP mg h → (∀ b o, h.get? b = some o → h'.get? b = some o) → XP mg h')
    (hdef : defOf q r.name = some (d, kwd)) (hp : r.prog.theDef r.name = some (d.params, d.body, d.scope)) (hk : kwWritten? d.params.kwonlyargs d.params.kw_defaults = some kwd) (hRf : ∀ s, Xt s = true → RecFacts r.records s.heap) (hwr : (!r.writes || r.records.isEmpty) = true)
    (k1 : r.wellSaid = true) (ok : (chainsOk q && opensWell r.prog && (frees r.toRowW && r.within.isEmpty)) = true) (hb : r.prog.bare) (hw : r.toRowW.promised)
    (_ : True) (call : WalkO q loose XP YP r.toRowW d kwd (fun f vs => PySem.call f vs) := by assumption) : r.Holds :=
  _root_.PySem.W.holds_open left hY hYk hX hXk hdef hp hk hRf hwr k1 ok hb hw call
set_option maxRecDepth 100000 in
set_option maxHeartbeats 8000000 in
set_option Elab.async true in
theorem hdA : ∃ T : Prop, T → PySem.Challenge.rw_xm0006_01.Holds := by
  refine' ⟨_, ?g⟩
  case g =>
   as_aux_lemma =>
    intro walk
    w_on
    o_law
    k_head
    (case hw => w_witness2)
    exact True.intro
end Mine
end
section
open PySem
set_option Elab.async false
set_option genInjectivity false
set_option maxRecDepth 1000000
set_option maxHeartbeats 0
namespace Mine
namespace N
/-- the texts that occur -/
noncomputable def tb : List String := ["", "a", "b", "c", "d", "e", "f", "g", "cup", "many", "spot", "deep", "way", "kind", "turn", "array", "record", "access", "shape", "t", "cells", "members", "part", "fields", "place", "fg", "bounds", "items", "type", "value", "item", "name", "left", "right", "at", "low", "high", "number", "is_tagged", "other", "one", "two", "parts", "new", "maker", "which", "here", "cell", "field", "make_cell", "self", "last", "subtype", "offset", "indexes", "names", "line", "height", "made", "row", "worth", "held", "more", "ancestor", "whole", "back", "parent", "found", "variant", "waiting", "choices", "components", "inner", "discriminants", "discs", "default", "given", "is_constrained", "literals", "modulus", "small", "index", "component", "designated", "wide", "is_limited", "is_private", "is_abstract", "is_constant", "is_late", "operations", "script", "twin", "leaf", "changed", "longer", "slid", "beside", "r", "word", "record_type", "first", "second", "rows", "columns", "count", "order", "column", "due", "constraint_error", "storage_error", "append", "pop", "dict", "fresh", "old", "extend", "len", "range", "list", "int", "max", "sorted", "isinstance", "tuple", "__init__", "ArrayValue", "RecordValue", "Cell", "CellMaker", "Type", "Unset", "need_set", "copy_value", "lengths_of", "equal_items", "equal_fields", "equal_values", "fields_with", "read_place", "write_place", "dim_length", "item_offset", "get_item", "item_place", "type_line", "present_parts", "variant_names", "part_names", "discs_in", "check_field", "field_place", "aggregate_record", "extended_record", "ancestor_view", "is_in_line", "_law_roll", "_law_shape", "_law_value", "_law_same", "_law_way", "_law_changed", "_law_place", "_law_sized", "_law_offset", "_law_table_right", "_law_line_right", "law", "MOST_LINE", "index check failed", "step", "AdaRaise", "CheckFault", "AdaError", "raise_constraint", "slice", "kept_value", "slice_items", "variant_parts", "ahead_of_variant", "private", "program_error", "a component that is no more", "no such place", "a value that was never given", "discriminant check failed", "a discriminant is missing", "a component is missing", "a component that the record does not have", "too many types derived from one another", "text", "fault", "Limits", "limits", "size", "most", "array_size", "width", "steps", "depth", "tasks", "heap", "an array too great"]
noncomputable def nm (c : Nat) : Str := Str.ofString (tb.getD c "")
noncomputable def cod (s : Str) : Nat := (tb.map Str.ofString).idxOf s
/-- the built-ins that are called -/
inductive BI | len | range | list | dict | int | max | sorted | isinstance | tuple
  deriving DecidableEq
noncomputable def BI.val : BI → Value
  | .len => .builtin "len" | .range => .type "range" | .list => .type "list" | .dict => .type "dict" | .int => .type "int" | .max => .builtin "max" | .sorted => .builtin "sorted" | .isinstance => .builtin "isinstance" | .tuple => .type "tuple"
/-- values; an int is val k + c -/
inductive V | none | bool (b : Bool) | int (k : Nat) (c : Int) | str (c : Nat) | ref (a : Nat) | fn (a : Nat) | bi (b : BI)
noncomputable abbrev V.i (c : Int) : V := .int 0 c
inductive O | list (xs : List V) | tup (xs : List V) | dict (st : Option Nat) (es : List (Nat × V)) | stamp | inst (cls : Nat) (es : List (Nat × V)) | range (k : Nat) (a b : Int) | cell (v : Option V) | rolls (rs : List (Int × V))
/-- expressions -/
inductive X
  | none | bool (b : Bool) | int (i : Int) | str (c : Nat) | nm (c : Nat)
  | boo (and : Bool) (xs : List X) | bin (op : Operator) (a b : X) | not (a : X) | neg (a : X) | ite (t a b : X)
  | dict0 | list (xs : List X) | tup (xs : List X)
  | comp (e : X) (xs : List Nat) (it : X) (cs : List X) (fr gl : List Nat)
  | comp2 (e : X) (xs : List Nat) (i1 : X) (ys : List Nat) (i2 : X) (fr gl : List Nat)
  | cmp (a : X) (op : CmpOp) (b : X) | chain (a : X) (p : CmpOp) (b : X) (q : CmpOp) (c : X)
  | call (f : X) (xs : List X) | lim (x : X) | attr (o : X) (n : Nat) | sub (o i : X) | slice (lo hi : X) | bad
noncomputable def inT (s : Str) : Bool := decide (cod s < tb.length)
noncomputable def cif (b : Bool) (x : X) : X := match b with
  | true => x
  | false => .bad
noncomputable def nmc? : PySem.Expr → Option Nat
  | .Name s _ => if inT s then some (cod s) else Option.none
  | _ => Option.none
noncomputable def names? : List PySem.Expr → Option (List Nat)
  | [] => some []
  | e :: r => (nmc? e).bind fun c => (names? r).map (c :: ·)
/-- a target of names: one, or a tuple of two and more -/
noncomputable def tgs : PySem.Expr → List Nat
  | .Name s _ => if inT s then [cod s] else []
  | .Tuple xs _ _ => ((names? xs).filter fun cs => decide (2 ≤ cs.length)).getD []
  | _ => []
/-- a comprehension's own scope: plain -/
noncomputable def scOK (sc : Scope) (xs : List Nat) : Bool :=
  sc.kind == .function && sc.names.all (fun y => y.2 != .cell && (y.2 != .local || sc.names.lookup y.1 == some .local) && (y.2 != .free || (inT y.1 && sc.names.lookup y.1 == some .free))) && xs.all (fun x => sc.names.lookup (nm x) == some .local && decide (x < tb.length))
noncomputable def frs? (sc : Scope) : List Nat := sc.names.filterMap fun y => if y.2 == .free && inT y.1 && sc.names.lookup y.1 == some .free then some (cod y.1) else Option.none
noncomputable def gls? (sc : Scope) : List Nat := sc.names.filterMap fun y => if y.2 == .globalImplicit && inT y.1 && sc.names.lookup y.1 == some .globalImplicit then some (cod y.1) else Option.none
noncomputable def cK : Const → X
  | .none => .none | .bool b => .bool b | .int i => .int i | .str s => cif (inT s) (.str (cod s)) | _ => .bad
/-- one clause of a comprehension -/
structure CG where
  xs : List Nat
  it : X
  cs : List X
  a : Bool
noncomputable def lcB (e : X) (sc : Scope) (gs : List CG) : X := match gs with
  | [g] => cif (g.a && Nat.ble g.cs.length 1 && scOK sc g.xs) (.comp e g.xs g.it g.cs (frs? sc) (gls? sc))
  | [g, h] => cif (g.a && h.a && g.cs.isEmpty && h.cs.isEmpty && scOK sc (g.xs ++ h.xs)) (.comp2 e g.xs g.it h.xs h.it (frs? sc) (gls? sc))
  | _ => .bad
noncomputable def noStar (es : List PySem.Expr) : Bool := es.all fun e => match e with | .Starred _ _ => false | _ => true
noncomputable def uop (op : UnaryOp) (x : X) : X := match op with
  | .Not => .not x
  | .USub => .neg x
  | _ => .bad
noncomputable def cmpX (l : X) (ops : List CmpOp) (cs : List X) : X := match ops, cs with
  | [p], [r] => .cmp l p r
  | [p, q], [r, u] => .chain l p r q u
  | _, _ => .bad
/-- a call's form that we read: plain arguments; an attribute on its call's row -/
noncomputable def calOK (f : PySem.Expr) (args : List PySem.Expr) (pos : Pos) : Bool := noStar args && decide (args.length < 20) && (match f with | .Attribute _ _ p => p.endLine == pos.line | _ => true)
noncomputable def isNone {α : Type} : Option α → Bool
  | none => true
  | some _ => false
/-- Limits(members=x) -/
noncomputable def limK (f : PySem.Expr) (args : List PySem.Expr) : Bool := args.isEmpty && (match f with | .Name s _ => s == ("Limits" : Str) | _ => false)
mutual
noncomputable def cE : PySem.Expr → X
  | .Constant c _ _ => cK c
  | .Name s _ => cif (inT s) (.nm (cod s))
  | .BoolOp op xs _ => .boo (op == .And) (cEs xs)
  | .BinOp l op r _ => .bin op (cE l) (cE r)
  | .UnaryOp op x _ => uop op (cE x)
  | .IfExp t b o _ => .ite (cE t) (cE b) (cE o)
  | .Dict ks vs _ => cif (ks.isEmpty && vs.isEmpty) .dict0
  | .List xs _ => .list (cEs xs)
  | .Tuple xs _ _ => .tup (cEs xs)
  | .ListComp e gs sc _ => lcB (cE e) sc (cG gs)
  | .Compare l ops cs _ => cif (!lastMarks ops cs) (cmpX (cE l) ops (cEs cs))
  | .Call f args kws pos => match cKw kws with
    | Option.none => cif (calOK f args pos) (.call (cE f) (cEs args))
    | some x => cif (limK f args) (.lim x)
  | .Attribute o n _ => cif (inT n) (.attr (cE o) (cod n))
  | .Subscript o i _ => .sub (cE o) (cE i)
  | .Slice lo hi st _ => cif (isNone st) (.slice (cO lo) (cO hi))
  | _ => .bad
noncomputable def cEs : List PySem.Expr → List X
  | [] => []
  | e :: r => cE e :: cEs r
noncomputable def cO : Option PySem.Expr → X
  | none => .none
  | some e => cE e
noncomputable def cG : List Comprehension → List CG
  | [] => []
  | ⟨t, it, ifs, a⟩ :: r => ⟨tgs t, cE it, cEs ifs, a == 0⟩ :: cG r
noncomputable def cKw : List Keyword → Option X
  | [] => Option.none
  | k :: r => some (cif r.isEmpty (cW k))
noncomputable def cW : Keyword → X
  | ⟨a, e, _⟩ => cif (a == some ("members" : Str)) (cE e)
end
/-- targets -/
inductive T | nms (xs : List Nat) | attr (o : X) (n : Nat) | sub (o i : X)
inductive S
  | expr (x : X) | ret (x : X) | asg (t : T) (x : X) | aug (o : X) (n : Nat) (x : X) | ifs (t : X) (a b : List S)
  | for (xs : List Nat) (it : X) (b : List S) | whl (t : X) (b : List S) | cont | xcal (f : Nat) (xs : List X) | rais (xs : List X) | tryc (f : Nat) (xs : List X) | bad
noncomputable def sif (b : Bool) (x : S) : S := match b with
  | true => x
  | false => .bad
noncomputable def cT (t : PySem.Expr) : T := match t with
  | .Attribute o n _ => .attr (cE o) (cod n)
  | .Subscript o i _ => .sub (cE o) (cE i)
  | t => .nms (tgs t)
/-- a target that we read -/
noncomputable def okT (t : PySem.Expr) : Bool := match t with
  | .Attribute _ n _ => inT n
  | .Subscript _ _ _ => true
  | t => !(tgs t).isEmpty
/-- a comprehension that is stored stands on its statement's row -/
noncomputable def rowOK (value : PySem.Expr) (pos : Pos) (t : PySem.Expr) : Bool := match value with
  | .ListComp _ _ _ p => (match t with
    | .Name _ q => q.line == p.line && p.line == pos.line
    | _ => false)
  | _ => true
noncomputable def isLC : PySem.Expr → Bool
  | .ListComp _ _ _ _ => true
  | _ => false
noncomputable def asgS (ts : List PySem.Expr) (v : PySem.Expr) (pos : Pos) : S := match ts with
  | [t] => sif (rowOK v pos t && okT t) (.asg (cT t) (cE v))
  | _ => .bad
noncomputable def augS (t : PySem.Expr) (op : Operator) (v : PySem.Expr) : S := match t with
  | .Attribute o n _ => sif (inT n && op == .Add) (.aug (cE o) (cod n) (cE v))
  | _ => .bad
/-- a call by name, plain -/
noncomputable def calN? (v : PySem.Expr) : Option (PySem.Str × List PySem.Expr) := match v with
  | .Call f args kws pos => (match f with
    | .Name s _ => if kws.isEmpty && calOK f args pos && inT s then some (s, args) else Option.none
    | _ => Option.none)
  | _ => Option.none
noncomputable def nm? (t : PySem.Expr) : Option PySem.Str := match t with
  | .Name x _ => some x
  | _ => Option.none
noncomputable def isAda (e : PySem.Expr) : Bool := nm? e == some ("AdaRaise" : PySem.Str)
noncomputable def exprS (v : PySem.Expr) : S := match calN? v with
  | some p => .xcal (cod p.1) (cEs p.2)
  | Option.none => sif (!isLC v) (.expr (cE v))
noncomputable def raisS (e c : Option PySem.Expr) : S := match e with
  | some v => (match calN? v with
    | some p => sif (isNone c && p.1 == ("AdaRaise" : PySem.Str)) (.rais (cEs p.2))
    | Option.none => .bad)
  | Option.none => .bad
noncomputable def ret1? (b : List Stmt) : Option PySem.Expr := match b with
  | [s] => (match s with
    | .Return v _ => v
    | _ => Option.none)
  | _ => Option.none
/-- fault.word -/
noncomputable def isWord (e : PySem.Expr) : Bool := match e with
  | .Attribute o n _ => n == ("word" : PySem.Str) && nm? o == some ("fault" : PySem.Str)
  | _ => false
/-- except AdaRaise as fault: return fault.word -/
noncomputable def isHand (h : ExceptHandler) : Bool := match h with
  | .ExceptHandler t n b _ => (match t with | some t => isAda t | Option.none => false) && n == some ("fault" : PySem.Str) && (match ret1? b with | some e => isWord e | Option.none => false)
noncomputable def hands (hs : List ExceptHandler) : Bool := match hs with
  | [h] => isHand h
  | _ => false
noncomputable def tryS (b : List Stmt) (hs : List ExceptHandler) (o fin : List Stmt) : S := match ret1? b with
  | some v => (match calN? v with
    | some p => sif (hands hs && o.isEmpty && fin.isEmpty) (.tryc (cod p.1) (cEs p.2))
    | Option.none => .bad)
  | Option.none => .bad
mutual
noncomputable def cS : Stmt → S
  | .Expr v _ => exprS v
  | .Raise e c _ => raisS e c
  | .Try b hs o fin _ => tryS b hs o fin
  | .Return v _ => sif (!isNone v) (.ret (cO v))
  | .Assign ts v pos => asgS ts v pos
  | .AugAssign t op v _ => augS t op v
  | .If t b o _ => .ifs (cE t) (cSs b) (cSs o)
  | .While t b o _ => sif o.isEmpty (.whl (cE t) (cSs b))
  | .For t it b o _ => sif o.isEmpty (.for (tgs t) (cE it) (cSs b))
  | .Continue _ => .cont
  | _ => .bad
noncomputable def cSs : List Stmt → List S
  | [] => []
  | s :: r => cS s :: cSs r
end
noncomputable def bodyIn (n : String) : List Stmt → List Stmt
  | [] => []
  | .FunctionDef m _ b _ _ _ _ _ _ _ :: r => if m == Str.ofString n then b else bodyIn n r
  | _ :: r => bodyIn n r
noncomputable def bodyC (c n : String) : List Stmt → List Stmt
  | [] => []
  | .ClassDef m _ _ b _ _ _ _ _ _ _ :: r => if m == Str.ofString c then bodyIn n b else bodyC c n r
  | _ :: r => bodyC c n r
noncomputable abbrev top : List Stmt := PySem.Challenge.pw_xm0006_01.main.body
end N
end Mine
end
section
open PySem
set_option Elab.async false
set_option maxRecDepth 100000
set_option maxHeartbeats 0
namespace Mine
namespace N
/-- a def: its parameters, its captured names, the global names of its scope, its body -/
structure FI where
  ps : List Nat
  cs : List Nat
  gl : List Nat
  ls : List Nat
  body : List S

noncomputable def f191 : FI := ⟨[29], [], [123, 131, 171], [29], [.ifs (.call (.nm 123) [.nm 29, .nm 131]) [.rais [.str 181, .int 0, .str 184]] [], .ret (.nm 29)]⟩
theorem f191_eq : cSs (bodyIn "need_set" top) = f191.body := by kernel_rfl
noncomputable def f196 : FI := ⟨[29], [], [123, 126, 119, 127, 133], [29, 23, 31], [.ifs (.call (.nm 123) [.nm 29, .nm 126]) [.ret (.call (.nm 126) [.call (.nm 119) [.attr (.nm 29) 26], .comp (.call (.nm 133) [.nm 30]) [30] (.attr (.nm 29) 27) [] [] [133]])] [], .ifs (.call (.nm 123) [.nm 29, .nm 127]) [.asg (.nms [23]) (.dict0), .for [31] (.attr (.nm 29) 23) [.asg (.sub (.nm 23) (.nm 31)) (.call (.nm 133) [.sub (.attr (.nm 29) 23) (.nm 31)])], .ret (.call (.nm 127) [.attr (.nm 29) 28, .nm 23])] [], .ret (.nm 29)]⟩
theorem f196_eq : cSs (bodyIn "copy_value" top) = f196.body := by kernel_rfl
noncomputable def f208 : FI := ⟨[29], [], [], [29], [.ret (.comp (.call (.nm 121) [.bin (.Add) (.bin (.Sub) (.nm 36) (.nm 35)) (.int 1), .int 0]) [35, 36] (.attr (.nm 29) 26) [] [] [121])]⟩
theorem f208_eq : cSs (bodyIn "lengths_of" top) = f208.body := by kernel_rfl
noncomputable def f215 : FI := ⟨[32, 33], [], [134, 118, 117, 137], [32, 33, 34], [.ifs (.boo true [.cmp (.attr (.nm 32) 27) (.Eq) (.list []), .cmp (.attr (.nm 33) 27) (.Eq) (.list [])]) [.ret (.bool true)] [], .ifs (.cmp (.call (.nm 134) [.nm 32]) (.NotEq) (.call (.nm 134) [.nm 33])) [.ret (.bool false)] [], .for [34] (.call (.nm 118) [.call (.nm 117) [.attr (.nm 32) 27]]) [.ifs (.not (.call (.nm 137) [.sub (.attr (.nm 32) 27) (.nm 34), .sub (.attr (.nm 33) 27) (.nm 34)])) [.ret (.bool false)] []], .ret (.bool true)]⟩
theorem f215_eq : cSs (bodyIn "equal_items" top) = f215.body := by kernel_rfl
noncomputable def f222 : FI := ⟨[32, 33], [], [117, 137], [32, 33, 31], [.ifs (.boo false [.boo true [.attr (.attr (.nm 32) 28) 38, .cmp (.attr (.attr (.nm 32) 28) 37) (.NotEq) (.attr (.attr (.nm 33) 28) 37)], .cmp (.call (.nm 117) [.attr (.nm 32) 23]) (.NotEq) (.call (.nm 117) [.attr (.nm 33) 23])]) [.ret (.bool false)] [], .for [31] (.attr (.nm 32) 23) [.ifs (.boo false [.cmp (.nm 31) (.NotIn) (.attr (.nm 33) 23), .not (.call (.nm 137) [.sub (.attr (.nm 32) 23) (.nm 31), .sub (.attr (.nm 33) 23) (.nm 31)])]) [.ret (.bool false)] []], .ret (.bool true)]⟩
theorem f222_eq : cSs (bodyIn "equal_fields" top) = f222.body := by kernel_rfl
noncomputable def f229 : FI := ⟨[32, 33], [], [123, 126, 135, 127, 136, 128, 132], [32, 33], [.ifs (.call (.nm 123) [.nm 32, .nm 126]) [.ret (.call (.nm 135) [.nm 32, .nm 33])] [], .ifs (.call (.nm 123) [.nm 32, .nm 127]) [.ret (.call (.nm 136) [.nm 32, .nm 33])] [], .ifs (.boo false [.cmp (.nm 32) (.Is) (.none), .cmp (.nm 33) (.Is) (.none)]) [.ret (.boo true [.cmp (.nm 32) (.Is) (.none), .cmp (.nm 33) (.Is) (.none)])] [], .ifs (.call (.nm 123) [.nm 32, .nm 128]) [.ret (.cmp (.attr (.nm 32) 37) (.Eq) (.attr (.nm 33) 37))] [], .ret (.cmp (.call (.nm 132) [.nm 32]) (.Eq) (.call (.nm 132) [.nm 33]))]⟩
theorem f229_eq : cSs (bodyIn "equal_values" top) = f229.body := by kernel_rfl
noncomputable def f243 : FI := ⟨[16, 31], [], [171], [16, 31], [.ifs (.cmp (.nm 31) (.NotIn) (.attr (.nm 16) 23)) [.rais [.str 181, .int 0, .str 182]] [], .ret (.attr (.nm 16) 23)]⟩
theorem f243_eq : cSs (bodyIn "fields_with" top) = f243.body := by kernel_rfl
noncomputable def f248 : FI := ⟨[24], [], [138, 126, 177, 173], [24, 99], [.asg (.nms [99]) (.sub (.nm 24) (.int 0)), .ifs (.cmp (.nm 99) (.Eq) (.str 47)) [.ret (.attr (.sub (.nm 24) (.int 1)) 29)] [], .ifs (.cmp (.nm 99) (.Eq) (.str 30)) [.ret (.sub (.attr (.sub (.nm 24) (.int 1)) 27) (.sub (.nm 24) (.int 2)))] [], .ifs (.cmp (.nm 99) (.Eq) (.str 48)) [.ret (.sub (.call (.nm 138) [.sub (.nm 24) (.int 1), .sub (.nm 24) (.int 2)]) (.sub (.nm 24) (.int 2)))] [], .ifs (.cmp (.nm 99) (.Eq) (.str 175)) [.ret (.call (.nm 126) [.list [.sub (.nm 24) (.int 3)], .comp (.call (.nm 133) [.nm 30]) [30] (.call (.nm 177) [.nm 24]) [] [] [133]])] [], .bad]⟩
theorem f248_eq : cSs (bodyIn "read_place" top) = f248.body := by kernel_rfl
noncomputable def f253 : FI := ⟨[24, 29], [], [138, 118, 117, 176, 173], [24, 29, 99, 43, 170, 34], [.asg (.nms [99]) (.sub (.nm 24) (.int 0)), .ifs (.cmp (.nm 99) (.Eq) (.str 47)) [.asg (.attr (.sub (.nm 24) (.int 1)) 29) (.nm 29)] [.ifs (.cmp (.nm 99) (.Eq) (.str 30)) [.asg (.sub (.attr (.sub (.nm 24) (.int 1)) 27) (.sub (.nm 24) (.int 2))) (.nm 29)] [.ifs (.cmp (.nm 99) (.Eq) (.str 48)) [.asg (.sub (.call (.nm 138) [.sub (.nm 24) (.int 1), .sub (.nm 24) (.int 2)]) (.sub (.nm 24) (.int 2))) (.nm 29)] [.ifs (.cmp (.nm 99) (.Eq) (.str 175)) [.asg (.nms [43]) (.comp (.call (.nm 133) [.nm 30]) [30] (.attr (.nm 29) 27) [] [] [133]), .for [170] (.call (.nm 118) [.call (.nm 117) [.nm 43]]) [.asg (.nms [34]) (.bin (.Add) (.sub (.nm 24) (.int 2)) (.nm 170)), .asg (.sub (.attr (.sub (.nm 24) (.int 1)) 27) (.nm 34)) (.call (.nm 176) [.sub (.attr (.sub (.nm 24) (.int 1)) 27) (.nm 34), .sub (.nm 43) (.nm 170)])]] [.bad]]]]]⟩
theorem f253_eq : cSs (bodyIn "write_place" top) = f253.body := by kernel_rfl
noncomputable def f267 : FI := ⟨[35, 36], [], [121], [35, 36], [.ret (.call (.nm 121) [.bin (.Add) (.bin (.Sub) (.nm 36) (.nm 35)) (.int 1), .int 0])]⟩
theorem f267_eq : cSs (bodyIn "dim_length" top) = f267.body := by kernel_rfl
noncomputable def f281 : FI := ⟨[29, 54], [], [118, 117, 174, 141], [29, 54, 53, 24, 35, 36], [.asg (.nms [53]) (.int 0), .for [24] (.call (.nm 118) [.call (.nm 117) [.nm 54]]) [.asg (.nms [35, 36]) (.sub (.attr (.nm 29) 26) (.nm 24)), .ifs (.not (.chain (.nm 35) (.LtE) (.sub (.nm 54) (.nm 24)) (.LtE) (.nm 36))) [.xcal 174 [.str 169]] [], .asg (.nms [53]) (.bin (.Sub) (.bin (.Add) (.bin (.Mult) (.nm 53) (.call (.nm 141) [.nm 35, .nm 36])) (.sub (.nm 54) (.nm 24))) (.nm 35))], .ret (.nm 53)]⟩
theorem f281_eq : cSs (bodyIn "item_offset" top) = f281.body := by kernel_rfl
noncomputable def f288 : FI := ⟨[29, 54], [], [142], [29, 54], [.ret (.sub (.attr (.nm 29) 27) (.call (.nm 142) [.nm 29, .nm 54]))]⟩
theorem f288_eq : cSs (bodyIn "get_item" top) = f288.body := by kernel_rfl
noncomputable def f295 : FI := ⟨[29, 54], [], [142], [29, 54], [.ret (.tup [.str 30, .nm 29, .call (.nm 142) [.nm 29, .nm 54]])]⟩
theorem f295_eq : cSs (bodyIn "item_place" top) = f295.body := by kernel_rfl
noncomputable def f324 : FI := ⟨[19], [], [117, 168, 172], [19, 67, 46], [.asg (.nms [67]) (.list []), .asg (.nms [46]) (.nm 19), .whl (.cmp (.nm 46) (.IsNot) (.none)) [.expr (.call (.attr (.nm 67) 111) [.attr (.nm 46) 37]), .ifs (.cmp (.call (.nm 117) [.nm 67]) (.Gt) (.nm 168)) [.bad] [], .asg (.nms [46]) (.attr (.nm 46) 66)], .ret (.nm 67)]⟩
theorem f324_eq : cSs (bodyIn "type_line" top) = f324.body := by kernel_rfl
noncomputable def f359 : FI := ⟨[19, 74], [], [119, 179, 178], [19, 74, 101], [.ifs (.cmp (.attr (.nm 19) 68) (.Is) (.none)) [.ret (.call (.nm 119) [.attr (.nm 19) 71])] [], .asg (.nms [101]) (.call (.nm 179) [.nm 19]), .ret (.bin (.Add) (.bin (.Add) (.sub (.attr (.nm 19) 71) (.slice (.none) (.nm 101))) (.call (.nm 178) [.attr (.nm 19) 68, .nm 74])) (.sub (.attr (.nm 19) 71) (.slice (.nm 101) (.none))))]⟩
theorem f359_eq : cSs (bodyIn "present_parts" top) = f359.body := by kernel_rfl
noncomputable def f364 : FI := ⟨[68], [], [], [68, 67, 69, 46, 70, 71, 72], [.asg (.nms [67]) (.list []), .asg (.nms [69]) (.list [.nm 68]), .whl (.cmp (.nm 69) (.NotEq) (.list [])) [.asg (.nms [46]) (.call (.attr (.nm 69) 112) []), .ifs (.cmp (.nm 46) (.Is) (.none)) [.cont] [], .for [70, 71, 72] (.sub (.nm 46) (.int 1)) [.expr (.call (.attr (.nm 67) 116) [.comp (.sub (.nm 22) (.int 0)) [22] (.nm 71) [] [] []]), .expr (.call (.attr (.nm 69) 111) [.nm 72])]], .ret (.nm 67)]⟩
theorem f364_eq : cSs (bodyIn "variant_names" top) = f364.body := by kernel_rfl
noncomputable def f369 : FI := ⟨[19], [], [147], [19, 67], [.asg (.nms [67]) (.comp (.sub (.nm 22) (.int 0)) [22] (.bin (.Add) (.attr (.nm 19) 73) (.attr (.nm 19) 71)) [] [] []), .ret (.bin (.Add) (.nm 67) (.call (.nm 147) [.attr (.nm 19) 68]))]⟩
theorem f369_eq : cSs (bodyIn "part_names" top) = f369.body := by kernel_rfl
noncomputable def f376 : FI := ⟨[29], [], [], [29, 67, 31, 52, 75], [.asg (.nms [67]) (.dict0), .for [31, 52, 75] (.attr (.attr (.nm 29) 28) 73) [.asg (.sub (.nm 67) (.nm 31)) (.sub (.attr (.nm 29) 23) (.nm 31))], .ret (.nm 67)]⟩
theorem f376_eq : cSs (bodyIn "discs_in" top) = f376.body := by kernel_rfl
noncomputable def f383 : FI := ⟨[29, 31], [], [174], [29, 31], [.ifs (.cmp (.nm 31) (.NotIn) (.attr (.nm 29) 23)) [.xcal 174 [.str 185]] []]⟩
theorem f383_eq : cSs (bodyIn "check_field" top) = f383.body := by kernel_rfl
noncomputable def f390 : FI := ⟨[29, 31], [], [150], [29, 31], [.xcal 150 [.nm 29, .nm 31], .ret (.tup [.str 48, .nm 29, .nm 31])]⟩
theorem f390_eq : cSs (bodyIn "field_place" top) = f390.body := by kernel_rfl
noncomputable def f397 : FI := ⟨[19, 76], [], [174, 113, 146, 117, 127], [19, 76, 74, 31, 52, 75, 23], [.asg (.nms [74]) (.dict0), .for [31, 52, 75] (.attr (.nm 19) 73) [.ifs (.cmp (.nm 31) (.NotIn) (.nm 76)) [.xcal 174 [.str 186]] [], .asg (.sub (.nm 74) (.nm 31)) (.sub (.nm 76) (.nm 31))], .asg (.nms [23]) (.call (.nm 113) [.nm 74]), .for [31, 52, 75] (.call (.nm 146) [.nm 19, .nm 74]) [.ifs (.cmp (.nm 31) (.NotIn) (.nm 76)) [.xcal 174 [.str 187]] [], .asg (.sub (.nm 23) (.nm 31)) (.sub (.nm 76) (.nm 31))], .ifs (.cmp (.call (.nm 117) [.nm 23]) (.NotEq) (.call (.nm 117) [.nm 76])) [.xcal 174 [.str 188]] [], .ret (.call (.nm 127) [.nm 19, .nm 23])]⟩
theorem f397_eq : cSs (bodyIn "aggregate_record" top) = f397.body := by kernel_rfl
noncomputable def f404 : FI := ⟨[19, 63, 76], [], [148, 133, 152], [19, 63, 76, 55, 64, 31], [.asg (.nms [55]) (.call (.nm 148) [.nm 19]), .asg (.nms [64]) (.dict0), .for [31] (.attr (.nm 63) 23) [.ifs (.cmp (.nm 31) (.In) (.nm 55)) [.asg (.sub (.nm 64) (.nm 31)) (.call (.nm 133) [.sub (.attr (.nm 63) 23) (.nm 31)])] []], .for [31] (.nm 76) [.asg (.sub (.nm 64) (.nm 31)) (.sub (.nm 76) (.nm 31))], .ret (.call (.nm 152) [.nm 19, .nm 64])]⟩
theorem f404_eq : cSs (bodyIn "extended_record" top) = f404.body := by kernel_rfl
noncomputable def f411 : FI := ⟨[29, 19], [], [149, 146, 133, 127], [29, 19, 74, 23, 31, 52, 75], [.asg (.nms [74]) (.call (.nm 149) [.nm 29]), .asg (.nms [23]) (.dict0), .for [31, 52, 75] (.attr (.nm 19) 73) [.asg (.sub (.nm 23) (.nm 31)) (.sub (.nm 74) (.nm 31))], .for [31, 52, 75] (.call (.nm 146) [.nm 19, .nm 74]) [.asg (.sub (.nm 23) (.nm 31)) (.call (.nm 133) [.sub (.attr (.nm 29) 23) (.nm 31)])], .ret (.call (.nm 127) [.nm 19, .nm 23])]⟩
theorem f411_eq : cSs (bodyIn "ancestor_view" top) = f411.body := by kernel_rfl
noncomputable def f418 : FI := ⟨[19, 63], [], [145], [19, 63], [.ret (.cmp (.attr (.nm 63) 37) (.In) (.call (.nm 145) [.nm 19]))]⟩
theorem f418_eq : cSs (bodyIn "is_in_line" top) = f418.body := by kernel_rfl
noncomputable def f446 : FI := ⟨[31, 73, 71, 68], [], [130, 119], [31, 73, 71, 68, 58], [.asg (.nms [58]) (.call (.nm 130) [.str 16, .nm 31]), .asg (.attr (.nm 58) 73) (.call (.nm 119) [.nm 73]), .asg (.attr (.nm 58) 71) (.call (.nm 119) [.nm 71]), .asg (.attr (.nm 58) 68) (.nm 68), .asg (.attr (.nm 58) 77) (.cmp (.nm 73) (.Eq) (.list [])), .ret (.nm 58)]⟩
theorem f446_eq : cSs (bodyIn "record_type" top) = f446.body := by kernel_rfl
noncomputable def f453 : FI := ⟨[8, 9], [], [117], [8, 9, 10], [.asg (.nms [10]) (.sub (.nm 8) (.int 1)), .asg (.sub (.nm 8) (.int 1)) (.bin (.Add) (.nm 10) (.int 1)), .ifs (.cmp (.nm 10) (.Lt) (.call (.nm 117) [.sub (.nm 8) (.int 0)])) [.ret (.bin (.Mod) (.sub (.sub (.nm 8) (.int 0)) (.nm 10)) (.nm 9))] [], .ret (.bin (.Mod) (.bin (.Add) (.bin (.Add) (.bin (.Mult) (.int 7) (.nm 10)) (.bin (.FloorDiv) (.nm 10) (.int 3))) (.int 2)) (.nm 9))]⟩
theorem f453_eq : cSs (bodyIn "_law_roll" top) = f453.body := by kernel_rfl
noncomputable def f458 : FI := ⟨[8, 11], [13, 11, 8], [156, 157, 118], [12], [.asg (.nms [12]) (.ite (.cmp (.nm 11) (.Gt) (.int 0)) (.call (.nm 156) [.nm 8, .int 4]) (.bin (.Mult) (.int 3) (.call (.nm 156) [.nm 8, .int 2]))), .ifs (.cmp (.nm 12) (.Eq) (.int 0)) [.ret (.call (.nm 156) [.nm 8, .int 9])] [], .ifs (.cmp (.nm 12) (.Eq) (.int 1)) [.asg (.nms [13]) (.call (.nm 157) [.nm 8, .bin (.Sub) (.nm 11) (.int 1)]), .ret (.tup [.str 15, .bin (.Sub) (.call (.nm 156) [.nm 8, .int 5]) (.int 2), .comp (.nm 13) [14] (.call (.nm 118) [.bin (.Add) (.int 1) (.call (.nm 156) [.nm 8, .int 3])]) [] [13] []])] [], .ifs (.cmp (.nm 12) (.Eq) (.int 2)) [.ret (.tup [.str 16, .comp (.call (.nm 157) [.nm 8, .bin (.Sub) (.nm 11) (.int 1)]) [14] (.call (.nm 118) [.bin (.Add) (.int 1) (.call (.nm 156) [.nm 8, .int 2])]) [] [8, 11] [157]])] [], .ret (.tup [.str 17, .call (.nm 156) [.nm 8, .int 4]])]⟩
theorem f458_eq : cSs (bodyIn "_law_shape" top) = f458.body := by kernel_rfl
noncomputable def f463 : FI := ⟨[18, 19, 20], [20, 19], [123, 120, 126, 117, 118, 158, 127], [18, 21, 23, 24], [.ifs (.call (.nm 123) [.nm 18, .nm 120]) [.ret (.nm 18)] [], .ifs (.cmp (.sub (.nm 18) (.int 0)) (.Eq) (.str 17)) [.ret (.sub (.nm 20) (.sub (.nm 18) (.int 1)))] [], .ifs (.cmp (.sub (.nm 18) (.int 0)) (.Eq) (.str 15)) [.asg (.nms [21]) (.comp (.call (.nm 158) [.nm 22, .nm 19, .nm 20]) [22] (.sub (.nm 18) (.int 2)) [] [20, 19] [158]), .ret (.call (.nm 126) [.list [.tup [.sub (.nm 18) (.int 1), .bin (.Sub) (.bin (.Add) (.sub (.nm 18) (.int 1)) (.call (.nm 117) [.nm 21])) (.int 1)]], .nm 21])] [], .asg (.nms [23]) (.dict0), .for [24] (.call (.nm 118) [.call (.nm 117) [.sub (.nm 18) (.int 1)]]) [.asg (.sub (.nm 23) (.sub (.str 25) (.nm 24))) (.call (.nm 158) [.sub (.sub (.nm 18) (.int 1)) (.nm 24), .nm 19, .nm 20])], .ret (.call (.nm 127) [.nm 19, .nm 23])]⟩
theorem f463_eq : cSs (bodyIn "_law_value" top) = f463.body := by kernel_rfl
noncomputable def f468 : FI := ⟨[18, 39], [41, 40], [123, 120, 117, 118], [18, 39], [.ifs (.boo false [.call (.nm 123) [.nm 18, .nm 120], .call (.nm 123) [.nm 39, .nm 120], .cmp (.sub (.nm 18) (.int 0)) (.NotEq) (.sub (.nm 39) (.int 0))]) [.ret (.cmp (.nm 18) (.Eq) (.nm 39))] [], .ifs (.cmp (.sub (.nm 18) (.int 0)) (.Eq) (.str 17)) [.ret (.cmp (.sub (.nm 18) (.int 1)) (.Eq) (.sub (.nm 39) (.int 1)))] [], .asg (.nms [40, 41]) (.tup [.sub (.nm 18) (.neg (.int 1)), .sub (.nm 39) (.neg (.int 1))]), .ret (.boo true [.cmp (.call (.nm 117) [.nm 40]) (.Eq) (.call (.nm 117) [.nm 41]), .cmp (.comp (.int 1) [24] (.call (.nm 118) [.call (.nm 117) [.nm 40]]) [.not (.call (.nm 159) [.sub (.nm 40) (.nm 24), .sub (.nm 41) (.nm 24)])] [40, 41] [159]) (.Eq) (.list [])])]⟩
theorem f468_eq : cSs (bodyIn "_law_same" top) = f468.body := by kernel_rfl
noncomputable def f475 : FI := ⟨[8, 18], [], [123, 120, 156, 117], [8, 18, 12], [.asg (.nms [12]) (.list []), .whl (.boo true [.not (.call (.nm 123) [.nm 18, .nm 120]), .cmp (.sub (.nm 18) (.int 0)) (.NotEq) (.str 17)]) [.expr (.call (.attr (.nm 12) 111) [.call (.nm 156) [.nm 8, .call (.nm 117) [.sub (.nm 18) (.neg (.int 1))]]]), .asg (.nms [18]) (.sub (.sub (.nm 18) (.neg (.int 1))) (.sub (.nm 12) (.neg (.int 1))))], .ret (.tup [.nm 12, .nm 18])]⟩
theorem f475_eq : cSs (bodyIn "_law_way" top) = f475.body := by kernel_rfl
noncomputable def f482 : FI := ⟨[18, 12, 43], [], [119, 161], [18, 12, 43, 42], [.ifs (.cmp (.nm 12) (.Eq) (.list [])) [.ret (.nm 43)] [], .asg (.nms [42]) (.call (.nm 119) [.sub (.nm 18) (.neg (.int 1))]), .asg (.sub (.nm 42) (.sub (.nm 12) (.int 0))) (.call (.nm 161) [.sub (.nm 42) (.sub (.nm 12) (.int 0)), .sub (.nm 12) (.slice (.int 1) (.none)), .nm 43]), .ret (.bin (.Add) (.sub (.nm 18) (.slice (.none) (.neg (.int 1)))) (.tup [.nm 42]))]⟩
theorem f482_eq : cSs (bodyIn "_law_changed" top) = f482.body := by kernel_rfl
noncomputable def f489 : FI := ⟨[29, 12, 44], [], [139, 123, 126, 144, 151], [29, 12, 44, 24, 45, 46], [.asg (.nms [24]) (.tup [.str 47, .call (.attr (.nm 44) 49) [.nm 29]]), .for [45] (.nm 12) [.asg (.nms [46]) (.call (.nm 139) [.nm 24]), .ifs (.call (.nm 123) [.nm 46, .nm 126]) [.asg (.nms [24]) (.call (.nm 144) [.nm 46, .list [.bin (.Add) (.sub (.sub (.attr (.nm 46) 26) (.int 0)) (.int 0)) (.nm 45)]])] [.asg (.nms [24]) (.call (.nm 151) [.nm 46, .sub (.str 25) (.nm 45)])]], .ret (.nm 24)]⟩
theorem f489_eq : cSs (bodyIn "_law_place" top) = f489.body := by kernel_rfl
noncomputable def f508 : FI := ⟨[8], [104], [156, 118, 117, 126, 163, 134, 164, 143], [8, 101, 102, 103, 105, 29, 59, 107, 106, 108], [.asg (.nms [101]) (.tup [.bin (.Sub) (.call (.nm 156) [.nm 8, .int 5]) (.int 2), .int 0]), .asg (.nms [101]) (.tup [.sub (.nm 101) (.int 0), .bin (.Sub) (.bin (.Add) (.sub (.nm 101) (.int 0)) (.call (.nm 156) [.nm 8, .int 4])) (.int 1)]), .asg (.nms [102]) (.tup [.call (.nm 156) [.nm 8, .int 3], .int 0]), .asg (.nms [102]) (.tup [.sub (.nm 102) (.int 0), .bin (.Sub) (.bin (.Add) (.sub (.nm 102) (.int 0)) (.call (.nm 156) [.nm 8, .int 4])) (.int 1)]), .asg (.nms [103]) (.call (.nm 118) [.sub (.nm 101) (.int 0), .bin (.Add) (.sub (.nm 101) (.int 1)) (.int 1)]), .asg (.nms [104]) (.call (.nm 118) [.sub (.nm 102) (.int 0), .bin (.Add) (.sub (.nm 102) (.int 1)) (.int 1)]), .asg (.nms [105]) (.bin (.Mult) (.call (.nm 117) [.nm 103]) (.call (.nm 117) [.nm 104])), .asg (.nms [29]) (.call (.nm 126) [.list [.nm 101, .nm 102], .comp (.bin (.Add) (.int 100) (.nm 24)) [24] (.call (.nm 118) [.nm 105]) [] [] []]), .ifs (.boo false [.cmp (.call (.nm 163) [.list [.nm 101, .nm 102], .int 9]) (.NotEq) (.nm 105), .cmp (.call (.nm 134) [.nm 29]) (.NotEq) (.list [.call (.nm 117) [.nm 103], .call (.nm 117) [.nm 104]])]) [.ret (.bool false)] [], .ifs (.boo true [.cmp (.nm 105) (.Gt) (.int 0), .cmp (.call (.nm 163) [.list [.nm 101, .nm 102], .bin (.Sub) (.nm 105) (.int 1)]) (.NotEq) (.str 110)]) [.ret (.bool false)] [], .asg (.nms [106]) (.comp2 (.tup [.nm 59, .nm 107]) [59] (.nm 103) [107] (.nm 104) [104] []), .for [59] (.call (.nm 118) [.bin (.Sub) (.sub (.nm 101) (.int 0)) (.int 1), .bin (.Add) (.sub (.nm 101) (.int 1)) (.int 2)]) [.for [107] (.call (.nm 118) [.bin (.Sub) (.sub (.nm 102) (.int 0)) (.int 1), .bin (.Add) (.sub (.nm 102) (.int 1)) (.int 2)]) [.asg (.nms [108]) (.ite (.cmp (.tup [.nm 59, .nm 107]) (.In) (.nm 106)) (.call (.attr (.nm 106) 81) [.tup [.nm 59, .nm 107]]) (.str 109)), .ifs (.cmp (.call (.nm 164) [.nm 29, .list [.nm 59, .nm 107]]) (.NotEq) (.nm 108)) [.ret (.bool false)] [], .ifs (.boo true [.cmp (.nm 108) (.NotEq) (.str 109), .cmp (.call (.nm 143) [.nm 29, .list [.nm 59, .nm 107]]) (.NotEq) (.bin (.Add) (.int 100) (.nm 108))]) [.ret (.bool false)] []]], .ret (.bool true)]⟩
theorem f508_eq : cSs (bodyIn "_law_table_right" top) = f508.body := by kernel_rfl
noncomputable def f513 : FI := ⟨[8], [64, 62, 60, 56], [118, 100, 156, 113, 127, 153, 154, 122, 119, 137], [8, 55, 57, 59, 31, 58, 35, 36, 61, 63, 65], [.asg (.nms [55]) (.list [.list [.str 1, .str 2], .list [.str 3], .list [.str 4, .str 5]]), .asg (.nms [56]) (.list []), .for [57] (.call (.nm 118) [.int 3]) [.asg (.nms [58]) (.call (.nm 100) [.str 19, .list [], .comp2 (.tup [.nm 31, .none, .none]) [59] (.sub (.nm 55) (.slice (.none) (.bin (.Add) (.nm 57) (.int 1)))) [31] (.nm 59) [] [], .none]), .asg (.attr (.nm 58) 37) (.bin (.Add) (.int 20) (.nm 57)), .asg (.attr (.nm 58) 38) (.bool true), .ifs (.cmp (.nm 57) (.Gt) (.int 0)) [.asg (.attr (.nm 58) 66) (.sub (.nm 56) (.bin (.Sub) (.nm 57) (.int 1)))] [], .expr (.call (.attr (.nm 56) 111) [.nm 58])], .asg (.nms [60]) (.dict0), .for [59] (.nm 55) [.for [31] (.nm 59) [.asg (.sub (.nm 60) (.nm 31)) (.call (.nm 156) [.nm 8, .int 50])]], .asg (.nms [35]) (.call (.nm 156) [.nm 8, .int 3]), .asg (.nms [36]) (.bin (.Add) (.nm 35) (.call (.nm 156) [.nm 8, .bin (.Sub) (.int 3) (.nm 35)])), .asg (.nms [61]) (.call (.nm 113) [.comp2 (.tup [.nm 31, .sub (.nm 60) (.nm 31)]) [59] (.sub (.nm 55) (.slice (.none) (.bin (.Add) (.nm 35) (.int 1)))) [31] (.nm 59) [60] []]), .asg (.nms [62]) (.call (.nm 113) [.comp2 (.tup [.nm 31, .sub (.nm 60) (.nm 31)]) [59] (.sub (.nm 55) (.slice (.bin (.Add) (.nm 35) (.int 1)) (.bin (.Add) (.nm 36) (.int 1)))) [31] (.nm 59) [60] []]), .asg (.nms [63]) (.call (.nm 127) [.sub (.nm 56) (.nm 35), .nm 61]), .asg (.nms [64]) (.call (.nm 153) [.sub (.nm 56) (.nm 36), .nm 63, .nm 62]), .asg (.nms [65]) (.call (.nm 154) [.nm 64, .sub (.nm 56) (.nm 35)]), .ifs (.boo false [.cmp (.call (.nm 122) [.attr (.nm 64) 23]) (.NotEq) (.call (.nm 122) [.bin (.Add) (.call (.nm 119) [.nm 61]) (.call (.nm 119) [.nm 62])]), .cmp (.comp (.sub (.attr (.nm 64) 23) (.nm 31)) [31] (.nm 62) [] [64] []) (.NotEq) (.comp (.sub (.nm 62) (.nm 31)) [31] (.nm 62) [] [62] [])]) [.ret (.bool false)] [], .ifs (.boo false [.not (.call (.nm 137) [.nm 65, .nm 63]), .cmp (.attr (.nm 65) 23) (.NotEq) (.nm 61), .cmp (.call (.nm 137) [.nm 64, .nm 65]) (.NotEq) (.cmp (.nm 35) (.Eq) (.nm 36))]) [.ret (.bool false)] [], .ret (.cmp (.comp2 (.call (.nm 155) [.sub (.nm 56) (.nm 40), .sub (.nm 56) (.nm 41)]) [40] (.call (.nm 118) [.int 3]) [41] (.call (.nm 118) [.int 3]) [56] [118, 155]) (.Eq) (.comp2 (.cmp (.nm 41) (.LtE) (.nm 40)) [40] (.call (.nm 118) [.int 3]) [41] (.call (.nm 118) [.int 3]) [] [118]))]⟩
theorem f513_eq : cSs (bodyIn "_law_line_right" top) = f513.body := by kernel_rfl
noncomputable def f518 : FI := ⟨[91], [], [129, 100, 157, 158, 133, 137, 160, 123, 120, 156, 162, 140, 161, 159, 139, 124, 165, 166], [91, 8, 44, 20, 19, 18, 29, 92, 12, 93, 43, 24, 94, 39, 95, 96, 97], [.asg (.nms [8]) (.list [.comp (.bin (.Mod) (.call (.nm 120) [.nm 47]) (.bin (.Pow) (.int 10) (.int 12))) [47] (.sub (.nm 91) (.slice (.none) (.int 40))) [] [] [120], .int 0]), .asg (.nms [44]) (.call (.nm 129) []), .asg (.nms [20]) (.list [.call (.attr (.nm 44) 49) [.int 5], .call (.attr (.nm 44) 49) [.int 5], .call (.attr (.nm 44) 49) [.int 6], .none]), .asg (.nms [19]) (.call (.nm 100) [.str 98, .list [], .list [], .none]), .asg (.attr (.nm 19) 37) (.int 11), .asg (.nms [18]) (.call (.nm 157) [.nm 8, .int 3]), .asg (.nms [29]) (.call (.nm 158) [.nm 18, .nm 19, .nm 20]), .asg (.nms [92]) (.call (.nm 133) [.nm 29]), .ifs (.boo false [.not (.call (.nm 137) [.nm 29, .nm 92]), .not (.call (.nm 137) [.nm 92, .call (.nm 158) [.nm 18, .nm 19, .nm 20]])]) [.ret (.bool false)] [], .asg (.nms [12, 93]) (.call (.nm 160) [.nm 8, .nm 18]), .asg (.nms [43]) (.ite (.not (.call (.nm 123) [.nm 93, .nm 120])) (.tup [.str 17, .bin (.Mod) (.bin (.Add) (.bin (.Add) (.sub (.nm 93) (.int 1)) (.int 1)) (.call (.nm 156) [.nm 8, .int 3])) (.int 4)]) (.call (.nm 156) [.nm 8, .int 9])), .ifs (.cmp (.nm 12) (.NotEq) (.list [])) [.asg (.nms [24]) (.call (.nm 162) [.nm 29, .nm 12, .nm 44]), .xcal 140 [.nm 24, .call (.nm 158) [.nm 43, .nm 19, .nm 20]], .asg (.nms [94]) (.call (.nm 161) [.nm 18, .nm 12, .nm 43]), .ifs (.boo false [.not (.call (.nm 137) [.nm 29, .call (.nm 158) [.nm 94, .nm 19, .nm 20]]), .cmp (.call (.nm 137) [.nm 29, .nm 92]) (.NotEq) (.call (.nm 159) [.nm 18, .nm 94])]) [.ret (.bool false)] [], .ifs (.not (.call (.nm 137) [.call (.nm 139) [.call (.nm 162) [.nm 29, .nm 12, .nm 44]], .call (.nm 158) [.nm 43, .nm 19, .nm 20]])) [.ret (.bool false)] []] [], .ifs (.not (.call (.nm 137) [.nm 92, .call (.nm 158) [.nm 18, .nm 19, .nm 20]])) [.ret (.bool false)] [], .asg (.nms [39]) (.call (.nm 157) [.nm 8, .int 2]), .ifs (.boo true [.call (.nm 123) [.nm 18, .nm 124], .cmp (.sub (.nm 18) (.int 0)) (.Eq) (.str 15)]) [.asg (.nms [95]) (.tup [.str 15, .bin (.Add) (.sub (.nm 18) (.int 1)) (.int 1), .bin (.Add) (.sub (.nm 18) (.int 2)) (.list [.sub (.sub (.nm 18) (.int 2)) (.int 0)])]), .asg (.nms [96]) (.tup [.str 15, .bin (.Add) (.sub (.nm 18) (.int 1)) (.int 4), .sub (.nm 18) (.int 2)]), .ifs (.boo false [.call (.nm 137) [.nm 92, .call (.nm 158) [.nm 95, .nm 19, .nm 20]], .not (.call (.nm 137) [.nm 92, .call (.nm 158) [.nm 96, .nm 19, .nm 20]])]) [.ret (.bool false)] []] [], .asg (.nms [97]) (.call (.nm 158) [.nm 39, .nm 19, .nm 20]), .ifs (.not (.call (.nm 137) [.call (.nm 133) [.nm 97], .nm 97])) [.ret (.bool false)] [], .ret (.boo true [.call (.nm 165) [.nm 8], .call (.nm 166) [.nm 8]])]⟩
theorem f518_eq : cSs (bodyIn "law" top) = f518.body := by kernel_rfl
noncomputable def f496 : FI := ⟨[26, 195], [], [196, 192, 171], [26, 195, 191], [.tryc 196 [.nm 26, .lim (.nm 195)]]⟩
theorem f496_eq : cSs (bodyIn "_law_sized" top) = f496.body := by kernel_rfl
noncomputable def f503 : FI := ⟨[29, 54], [], [142, 171], [29, 54, 191], [.tryc 142 [.nm 29, .nm 54]]⟩
theorem f503_eq : cSs (bodyIn "_law_offset" top) = f503.body := by kernel_rfl
noncomputable def f274 : FI := ⟨[26, 193], [], [141, 171], [26, 193, 194, 35, 36], [.asg (.nms [194]) (.int 1), .for [35, 36] (.nm 26) [.asg (.nms [194]) (.bin (.Mult) (.nm 194) (.call (.nm 141) [.nm 35, .nm 36]))], .ifs (.cmp (.nm 194) (.Gt) (.attr (.nm 193) 21)) [.rais [.str 110, .int 0, .str 202]] [], .ret (.nm 194)]⟩
theorem f274_eq : cSs (bodyIn "array_size" top) = f274.body := by kernel_rfl
noncomputable def f260 : FI := ⟨[190], [], [171], [190], [.rais [.str 109, .int 0, .nm 190]]⟩
theorem f260_eq : cSs (bodyIn "raise_constraint" top) = f260.body := by kernel_rfl
noncomputable def f156 : FI := ⟨[50, 26, 27], [], [], [50, 26, 27], [.asg (.attr (.nm 50) 26) (.nm 26), .asg (.attr (.nm 50) 27) (.nm 27)]⟩
theorem f156_eq : cSs (bodyC "ArrayValue" "__init__" top) = f156.body := by kernel_rfl
noncomputable def f177 : FI := ⟨[50, 19, 23], [], [], [50, 19, 23], [.asg (.attr (.nm 50) 28) (.nm 19), .asg (.attr (.nm 50) 23) (.nm 23)]⟩
theorem f177_eq : cSs (bodyC "RecordValue" "__init__" top) = f177.body := by kernel_rfl
noncomputable def f107 : FI := ⟨[50, 29, 37], [], [], [50, 29, 37], [.asg (.attr (.nm 50) 29) (.nm 29), .asg (.attr (.nm 50) 37) (.nm 37), .asg (.attr (.nm 50) 52) (.none)]⟩
theorem f107_eq : cSs (bodyC "Cell" "__init__" top) = f107.body := by kernel_rfl
noncomputable def f128 : FI := ⟨[50], [], [], [50], [.asg (.attr (.nm 50) 51) (.int 0)]⟩
theorem f128_eq : cSs (bodyC "CellMaker" "__init__" top) = f128.body := by kernel_rfl
noncomputable def f432 : FI := ⟨[50, 13, 31], [], [], [50, 13, 31], [.asg (.attr (.nm 50) 13) (.nm 13), .asg (.attr (.nm 50) 31) (.nm 31), .asg (.attr (.nm 50) 37) (.int 0), .asg (.attr (.nm 50) 66) (.none), .asg (.attr (.nm 50) 35) (.none), .asg (.attr (.nm 50) 36) (.none), .asg (.attr (.nm 50) 78) (.list []), .asg (.attr (.nm 50) 79) (.int 0), .asg (.attr (.nm 50) 80) (.tup [.int 1, .int 1]), .asg (.attr (.nm 50) 81) (.list []), .asg (.attr (.nm 50) 82) (.none), .asg (.attr (.nm 50) 77) (.bool true), .asg (.attr (.nm 50) 73) (.list []), .asg (.attr (.nm 50) 71) (.list []), .asg (.attr (.nm 50) 68) (.none), .asg (.attr (.nm 50) 83) (.none), .asg (.attr (.nm 50) 38) (.bool false), .asg (.attr (.nm 50) 84) (.none), .asg (.attr (.nm 50) 85) (.bool false), .asg (.attr (.nm 50) 86) (.bool false), .asg (.attr (.nm 50) 87) (.bool false), .asg (.attr (.nm 50) 88) (.bool false), .asg (.attr (.nm 50) 89) (.bool false), .asg (.attr (.nm 50) 90) (.dict0)]⟩
theorem f432_eq : cSs (bodyC "Type" "__init__" top) = f432.body := by kernel_rfl
noncomputable def f310 : FI := ⟨[50, 197, 198, 199, 21, 190, 200, 201], [], [], [50, 197, 198, 199, 21, 190, 200, 201], [.asg (.attr (.nm 50) 197) (.nm 197), .asg (.attr (.nm 50) 198) (.nm 198), .asg (.attr (.nm 50) 199) (.nm 199), .asg (.attr (.nm 50) 21) (.nm 21), .asg (.attr (.nm 50) 190) (.nm 190), .asg (.attr (.nm 50) 200) (.nm 200), .asg (.attr (.nm 50) 201) (.nm 201)]⟩
theorem f310_eq : cSs (bodyC "Limits" "__init__" top) = f310.body := by kernel_rfl
noncomputable def f135 : FI := ⟨[50, 29], [], [128], [50, 29], [.aug (.nm 50) 51 (.int 1), .ret (.call (.nm 128) [.nm 29, .attr (.nm 50) 51])]⟩
theorem f135_eq : cSs (bodyC "CellMaker" "make_cell" top) = f135.body := by kernel_rfl
noncomputable def funs : List (Nat × FI) := [(107, f107), (128, f128), (135, f135), (156, f156), (177, f177), (191, f191), (196, f196), (208, f208), (215, f215), (222, f222), (229, f229), (243, f243), (248, f248), (253, f253), (260, f260), (267, f267), (274, f274), (281, f281), (288, f288), (295, f295), (324, f324), (359, f359), (364, f364), (369, f369), (376, f376), (383, f383), (390, f390), (397, f397), (404, f404), (411, f411), (418, f418), (432, f432), (446, f446), (453, f453), (458, f458), (463, f463), (468, f468), (475, f475), (482, f482), (489, f489), (496, f496), (503, f503), (508, f508), (513, f513), (518, f518)]
noncomputable def globs : List (Nat × V) := [(132, .fn 191), (133, .fn 196), (134, .fn 208), (135, .fn 215), (136, .fn 222), (137, .fn 229), (138, .fn 243), (139, .fn 248), (140, .fn 253), (141, .fn 267), (142, .fn 281), (143, .fn 288), (144, .fn 295), (145, .fn 324), (146, .fn 359), (147, .fn 364), (148, .fn 369), (149, .fn 376), (150, .fn 383), (151, .fn 390), (152, .fn 397), (153, .fn 404), (154, .fn 411), (155, .fn 418), (100, .fn 446), (156, .fn 453), (157, .fn 458), (158, .fn 463), (159, .fn 468), (160, .fn 475), (161, .fn 482), (162, .fn 489), (165, .fn 508), (166, .fn 513), (167, .fn 518), (163, .fn 496), (164, .fn 503), (196, .fn 274), (174, .fn 260), (126, .fn 159), (127, .fn 180), (128, .fn 110), (129, .fn 138), (130, .fn 435), (131, .fn 89), (117, .bi .len), (118, .bi .range), (119, .bi .list), (113, .bi .dict), (120, .bi .int), (121, .bi .max), (122, .bi .sorted), (123, .bi .isinstance), (124, .bi .tuple), (168, .int 0 40), (192, .fn 313), (171, .fn 70)]
end N
end Mine
end
section
open PySem
set_option Elab.async false
set_option genInjectivity false
namespace Mine
namespace N
noncomputable abbrev Hp := List O
/-- a check ahead of a claim -/
noncomputable def grd (b : Bool) (P : Prop) : Prop := match b with
  | true => P
  | false => False
/-- a datum that must be there -/
noncomputable def som {α : Type} (o : Option α) (k : α → Prop) : Prop := match o with
  | some a => k a
  | none => False
/-- a choice -/
noncomputable def ifs {α : Type} (b : Bool) (x y : α) : α := match b with
  | true => x
  | false => y
noncomputable def gO {α : Type} (b : Bool) (x : α) : Option α := match b with
  | true => some x
  | false => none
section
variable {α : Type} {b : Bool} {o : Option α} {P R : Prop} {k : α → Prop} {x : α}
theorem grd_inv (h : grd b P) : b = true ∧ P := by
  cases b with
  | true => exact ⟨rfl, h⟩
  | false => exact h.elim
theorem som_inv (h : som o k) : ∃ a, o = some a ∧ k a := by
  cases o with
  | some a => exact ⟨a, rfl, h⟩
  | none => exact h.elim
theorem ifs_inv (h : ifs b P R) : b = true ∧ P ∨ b = false ∧ R := by
  cases b with
  | true => exact .inl ⟨rfl, h⟩
  | false => exact .inr ⟨rfl, h⟩
theorem gO_inv (h : gO b x = some y) : b = true ∧ x = y := by
  cases b with
  | true => exact ⟨rfl, Option.some.inj h⟩
  | false => cases h
end
/-- all members' data, if each has one -/
noncomputable def allO {α β : Type} (f : α → Option β) : List α → Option (List β)
  | [] => some []
  | x :: xs => (f x).bind fun y => (allO f xs).map (y :: ·)
noncomputable def V.int? (v : V) : Option (Nat × Int) := match v with
  | .int k c => some (k, c)
  | _ => Option.none
noncomputable def z0 (k : Nat) (c : Int) : Option Int := match k with
  | 0 => some c
  | _ + 1 => Option.none
noncomputable def V.pln? (v : V) : Option Int := match v with
  | .int k c => z0 k c
  | _ => Option.none
noncomputable def V.ref? (v : V) : Option Nat := match v with
  | .ref a => some a
  | _ => Option.none
noncomputable def V.str? (v : V) : Option Nat := match v with
  | .str c => some c
  | _ => Option.none
noncomputable def V.bool? (v : V) : Option Bool := match v with
  | .bool b => some b
  | _ => Option.none
noncomputable def V.fn? (v : V) : Option Nat := match v with
  | .fn a => some a
  | _ => Option.none
noncomputable def V.isNone (v : V) : Bool := match v with
  | .none => true
  | _ => false
noncomputable def O.list? (o : O) : Option (List V) := match o with
  | .list xs => some xs
  | _ => Option.none
noncomputable def O.tup? (o : O) : Option (List V) := match o with
  | .tup xs => some xs
  | _ => Option.none
noncomputable def O.dict? (o : O) : Option (Option Nat × List (Nat × V)) := match o with
  | .dict st es => some (st, es)
  | _ => Option.none
noncomputable def O.inst? (o : O) : Option (Nat × List (Nat × V)) := match o with
  | .inst C es => some (C, es)
  | _ => Option.none
noncomputable def O.cell? (o : O) : Option (Option V) := match o with
  | .cell v => some v
  | _ => Option.none
/-- the object that a value names -/
noncomputable def obOf (H : Hp) (v : V) : Option O := v.ref?.bind fun a => H[a]?
noncomputable def lstOf (H : Hp) (v : V) : Option (List V) := (obOf H v).bind O.list?
noncomputable def tupsOf (H : Hp) (v : V) : Option (List V) := (obOf H v).bind O.tup?
noncomputable def lookc {α : Type} (c : Nat) : List (Nat × α) → Option α
  | [] => none
  | (d, x) :: r => if d = c then some x else lookc c r
noncomputable def putc {α : Type} (c : Nat) (x : α) : List (Nat × α) → List (Nat × α)
  | [] => [(c, x)]
  | (d, y) :: r => if d = c then (d, x) :: r else (d, y) :: putc c x r
noncomputable def hasc (c : Nat) : List Nat → Bool
  | [] => false
  | d :: r => if d = c then true else hasc c r
/-- the names at hand: locals, captured names (their cells), globals -/
structure ME where
  loc : List (Nat × V)
  cl : List (Nat × Nat)
  gl : List Nat
  lc : List Nat
noncomputable def lookN (me : ME) (c : Nat) (H : Hp) : Option V := match lookc c me.cl with
  | some k => (H[k]?.bind O.cell?).bind id
  | none => match lookc c me.loc with
    | some v => some v
    | none => (gO (hasc c me.gl) ()).bind fun _ => lookc c globs
/-- the spine of the heap is made at once -/
noncomputable def fH : Hp → (Hp → Prop) → Prop
  | [], k => k []
  | o :: t, k => fH t fun t' => k (o :: t')
theorem fH_eq : ∀ (H : Hp) (k : Hp → Prop), fH H k = k H
  | [], _ => rfl
  | o :: t, k => fH_eq t _
noncomputable def alloc (o : O) (H : Hp) (Φ : V → Hp → Prop) : Prop := fH (H ++ [o]) (Φ (.ref H.length))
noncomputable def seto (k : Nat) (o : O) (H : Hp) (Φ : Hp → Prop) : Prop := fH (H.set k o) Φ
noncomputable def bindN (me : ME) (c : Nat) (v : V) (H : Hp) (Φ : ME → Hp → Prop) : Prop := match lookc c me.cl with
  | some k => som (H[k]?.bind O.cell?) fun _ => seto k (.cell (some v)) H (Φ me)
  | none => grd (hasc c me.lc) (Φ { me with loc := putc c v me.loc } H)
noncomputable def bindNs (me : ME) (cs : List Nat) (vs : List V) (H : Hp) (Φ : ME → Hp → Prop) : Prop := match cs with
  | [] => grd vs.isEmpty (Φ me H)
  | c :: cs => som vs.head? fun v => bindN me c v H fun me H => bindNs me cs vs.tail H Φ
noncomputable def BI.no (b : BI) : Nat := match b with
  | .len => 0 | .range => 1 | .list => 2 | .dict => 3 | .int => 4 | .max => 5 | .sorted => 6 | .isinstance => 7 | .tuple => 8
noncomputable def BI.at (n : Nat) : BI := ([.len, .range, .list, .dict, .int, .max, .sorted, .isinstance, .tuple][n]?).getD .len
/-- a code of a value, to tell values apart -/
noncomputable def V.enc (v : V) : Nat × Nat × Int := match v with
  | .none => (0, 0, 0)
  | .bool b => (1, b.toNat, 0)
  | .int k c => (2, k, c)
  | .str c => (3, c, 0)
  | .ref a => (4, a, 0)
  | .fn a => (5, a, 0)
  | .bi b => (6, BI.no b, 0)
noncomputable def V.dec (p : Nat × Nat × Int) : V := match p.1 with
  | 0 => .none
  | 1 => .bool (Nat.beq p.2.1 1)
  | 2 => .int p.2.1 p.2.2
  | 3 => .str p.2.1
  | 4 => .ref p.2.1
  | 5 => .fn p.2.1
  | _ => .bi (BI.at p.2.1)
noncomputable def eqb (x y : V) : Bool := Nat.beq x.enc.1 y.enc.1 && Nat.beq x.enc.2.1 y.enc.2.1 && decide (x.enc.2.2 = y.enc.2.2)
noncomputable def eqbs (xs ys : List V) : Bool := match xs with
  | [] => ys.isEmpty
  | x :: xs => (match ys with
    | [] => false
    | y :: ys => eqb x y && eqbs xs ys)
/-- data without names of objects -/
inductive MD | bool (b : Bool) | int (k : Nat) (c : Int) | str (c : Nat) | list (xs : List MD) | tup (xs : List MD)
noncomputable def mdO (f : V → Option MD) (o : O) : Option MD := match o with
  | .list xs => (allO f xs).map .list
  | .tup xs => (allO f xs).map .tup
  | _ => Option.none
noncomputable def md1 (v : V) : Option MD := match v with
  | .bool b => some (.bool b)
  | .int k c => some (.int k c)
  | .str c => some (.str c)
  | _ => Option.none
/-- the datum at a value; fuel: the depth -/
noncomputable def md : Nat → Hp → V → Option MD
  | 0, _, v => md1 v
  | n + 1, H, v => (match obOf H v with
    | some o => mdO (md n H) o
    | Option.none => md1 v)
noncomputable def meqs (f : MD → MD → Option Bool) (xs ys : List MD) : Option Bool := match xs with
  | [] => some ys.isEmpty
  | x :: xs => (match ys with
    | [] => some false
    | y :: ys => (f x y).bind fun b => ifs b (meqs f xs ys) (some false))
noncomputable def meq0 (x y : MD) : Option Bool := match x with
  | .bool a => (match y with
    | .bool b => some (a == b)
    | _ => Option.none)
  | .int k c => (match y with
    | .int j d => gO (Nat.beq k j) (decide (c = d))
    | .str _ => some false
    | _ => Option.none)
  | .str a => (match y with
    | .str b => gO (Nat.ble a 190 && Nat.ble b 190) (Nat.beq a b)
    | .int _ _ => some false
    | _ => Option.none)
  | _ => Option.none
noncomputable def meq : Nat → MD → MD → Option Bool
  | 0, x, y => meq0 x y
  | n + 1, x, y => (match x with
    | .list xs => (match y with
      | .list ys => meqs (meq n) xs ys
      | _ => Option.none)
    | .tup xs => (match y with
      | .tup ys => meqs (meq n) xs ys
      | _ => Option.none)
    | x => meq0 x y)
/-- two dicts' entries: the keys of the one in the other, the values ints -/
noncomputable def deqs (fs : List (Nat × V)) : List (Nat × V) → Option Bool
  | [] => some true
  | (c, v) :: es => v.int?.bind fun p => (match lookc c fs with
    | some w => w.int?.bind fun q => (gO (Nat.beq p.1 q.1 && decide (p.2 = q.2)) ()).bind fun _ => deqs fs es
    | Option.none => some false)
/-- two objects: lists (one empty, or of data), dicts -/
noncomputable def veqO (H : Hp) (x y : O) : Option Bool := match x with
  | .list xs => y.list?.bind fun ys => ifs (xs.isEmpty || ys.isEmpty) (some (xs.isEmpty && ys.isEmpty)) ((allO (md 3 H) xs).bind fun ds => (allO (md 3 H) ys).bind fun es => meqs (meq 4) ds es)
  | .dict _ es => y.dict?.bind fun p => ifs (Nat.beq es.length p.2.length) (deqs p.2 es) (some false)
  | _ => Option.none
noncomputable def veq (H : Hp) (x y : V) : Option Bool := match md1 x with
  | some d => (md1 y).bind fun e => meq0 d e
  | Option.none => (obOf H x).bind fun o => (obOf H y).bind fun p => veqO H o p
/-- is it in a list of data: the first place, if any -/
noncomputable def mfind (d : MD) : List MD → Nat → Option (Option Nat)
  | [], _ => some Option.none
  | x :: xs, i => (meq 4 x d).bind fun b => ifs b (some (some i)) (mfind d xs (i + 1))
noncomputable def vinO (H : Hp) (x : V) (o : O) : Option Bool := match o with
  | .dict _ es => x.str?.map fun c => (lookc c es).isSome
  | .list ys => (md 3 H x).bind fun d => (allO (md 3 H) ys).bind fun es => (mfind d es 0).map (·.isSome)
  | _ => Option.none
noncomputable def vin (H : Hp) (x y : V) : Option Bool := (obOf H y).bind (vinO H x)
/-- two ints over one symbol -/
noncomputable def ord (x y : V) (f : Int → Int → Bool) : Option Bool := x.int?.bind fun p => y.int?.bind fun q => gO (Nat.beq p.1 q.1) (f p.2 q.2)
/-- x is None: x an int, an object or None -/
noncomputable def isN (x y : V) : Option Bool := (gO y.isNone ()).bind fun _ => (match x with
  | .none => some true
  | .ref _ => some false
  | .int _ _ => some false
  | _ => Option.none)
noncomputable def cmpop (H : Hp) (op : CmpOp) (x y : V) : Option Bool := match op with
  | .Eq => veq H x y
  | .NotEq => (veq H x y).map (!·)
  | .Lt => ord x y fun c d => decide (c < d)
  | .LtE => ord x y fun c d => decide (c ≤ d)
  | .Gt => ord x y fun c d => decide (d < c)
  | .Is => isN x y
  | .IsNot => (isN x y).map (!·)
  | .In => vin H x y
  | .NotIn => (vin H x y).map (!·)
  | _ => none
noncomputable def small (i : Int) : Bool := decide (-1000000 ≤ i) && decide (i ≤ 1000000)
/-- the symbol of a sum, of a difference -/
noncomputable def addk (k j : Nat) : Option Nat := match k with
  | 0 => some j
  | k + 1 => (match j with
    | 0 => some (k + 1)
    | _ + 1 => Option.none)
noncomputable def subk (k j : Nat) : Option Nat := match j with
  | 0 => some k
  | j + 1 => gO (Nat.beq k (j + 1)) 0
noncomputable def arith (op : Operator) (c d : Int) : Option Int := match op with
  | .Mult => gO (small c && small d) (c * d)
  | .Mod => gO (decide (0 < d)) (c.fmod d)
  | .FloorDiv => gO (decide (0 < d) && (small c && small d)) (c.fdiv d)
  | .Pow => gO ((decide (0 ≤ c) && decide (c ≤ 10)) && (decide (0 ≤ d) && decide (d ≤ 12))) (c ^ d.toNat)
  | _ => Option.none
noncomputable def cat (o p : O) (H : Hp) (Φ : V → Hp → Prop) : Prop := match o with
  | .list xs => som p.list? fun ys => grd (Nat.ble (xs.length + ys.length) 1000) (alloc (.list (xs ++ ys)) H Φ)
  | .tup xs => som p.tup? fun ys => grd (Nat.ble (xs.length + ys.length) 1000 && (!xs.isEmpty && !ys.isEmpty)) (alloc (.tup (xs ++ ys)) H Φ)
  | _ => False
noncomputable def addV (x y : V) (H : Hp) (Φ : V → Hp → Prop) : Prop := match x with
  | .int k c => som y.int? fun q => som (addk k q.1) fun m => Φ (.int m (c + q.2)) H
  | .ref a => som H[a]? fun o => som (obOf H y) fun p => cat o p H Φ
  | _ => False
noncomputable def binop (op : Operator) (x y : V) (H : Hp) (Φ : V → Hp → Prop) : Prop := match op with
  | .Add => addV x y H Φ
  | .Sub => som x.int? fun p => som y.int? fun q => som (subk p.1 q.1) fun m => Φ (.int m (p.2 - q.2)) H
  | op => som x.pln? fun c => som y.pln? fun d => som (arith op c d) fun e => Φ (.i e) H
noncomputable def at? (xs : List V) (i : Int) : Option V := if 0 ≤ i ∧ i < 1000 then xs[i.toNat]? else if i < 0 ∧ xs.length ≤ 1000 ∧ 0 ≤ i + xs.length then xs[(i + xs.length).toNat]? else none
noncomputable def itemO (o : O) (y : V) : Option V := match o with
  | .list xs => y.pln?.bind (at? xs)
  | .tup xs => y.pln?.bind (at? xs)
  | .dict _ es => y.str?.bind fun c => lookc c es
  | _ => none
/-- 'fg'[i] -/
noncomputable def fgAt (c : Nat) (i : Int) : Option V := (gO (Nat.beq c 25) ()).bind fun _ => ifs (decide (i = 0)) (some (.str 6)) (gO (decide (i = 1)) (.str 7))
noncomputable def getitem (x y : V) (H : Hp) : Option V := match x with
  | .ref a => H[a]?.bind fun o => itemO o y
  | .str c => y.pln?.bind (fgAt c)
  | _ => none
noncomputable def setO (a : Nat) (o : O) (y v : V) (H : Hp) (Φ : Hp → Prop) : Prop := match o with
  | .list xs => som y.pln? fun i => grd (decide (0 ≤ i) && (decide (i < xs.length) && Nat.ble xs.length 1000)) (seto a (.list (xs.set i.toNat v)) H Φ)
  | .dict _ es => som y.str? fun c => grd (Nat.ble es.length 499) (seto a (.dict none (putc c v es)) H Φ)
  | _ => False
noncomputable def setitem (x y v : V) (H : Hp) (Φ : Hp → Prop) : Prop := som x.ref? fun a => som H[a]? fun o => setO a o y v H Φ
/-- the attributes' names -/
noncomputable def atl : List Nat := [23, 26, 27, 28, 37, 38, 29, 51, 66, 68, 71, 73, 52, 13, 31, 35, 36, 77, 78, 79, 80, 81, 82, 83, 84, 85, 86, 87, 88, 89, 90, 21, 190, 197, 198, 199, 200, 201]
noncomputable def clss : List (Nat × Nat) := [(159, 156), (180, 177), (110, 107), (138, 128), (435, 432)]
/-- and that of limits, which is called by keyword -/
noncomputable def clsa : List (Nat × Nat) := (313, 310) :: clss
noncomputable def atOK (C n : Nat) : Bool := (lookc C clsa).isSome && hasc n atl
noncomputable def noBi (v : V) : Bool := match v with
  | .bi _ => false
  | _ => true
noncomputable def getattr (x : V) (n : Nat) (H : Hp) : Option V := (obOf H x).bind fun o => o.inst?.bind fun p => (gO (atOK p.1 n) ()).bind fun _ => (lookc n p.2).bind fun v => gO (noBi v) v
noncomputable def setattr (x : V) (n : Nat) (v : V) (H : Hp) (Φ : Hp → Prop) : Prop := som x.ref? fun a => som (H[a]?.bind O.inst?) fun p => grd (Nat.ble p.2.length 499 && atOK p.1 n) (seto a (.inst p.1 (putc n v p.2)) H Φ)
/-- a slice's bound -/
noncomputable def clamp (n : Nat) (v : V) (d : Nat) : Option Nat := match v with
  | .none => some d
  | .int k i => (z0 k i).map fun i => if i < 0 then n - (-i).toNat else min i.toNat n
  | _ => Option.none
noncomputable def sliceL (xs : List V) (lo hi : V) (H : Hp) (Φ : V → Hp → Prop) : Prop := som (clamp xs.length lo 0) fun i => som (clamp xs.length hi xs.length) fun j => grd (Nat.ble xs.length 1000) (alloc (.list ((xs.drop i).take (j - i))) H Φ)
/-- a list that is only read -/
noncomputable def old? (rs : List (Int × V)) : Option (List V) := match rs with
  | [] => none
  | p :: r => gO (decide (p.1 = -1)) (r.map (·.2))
noncomputable def sliceO (o : O) (lo hi : V) (H : Hp) (Φ : V → Hp → Prop) : Prop := match o with
  | .list xs => sliceL xs lo hi H Φ
  | .rolls rs => som (old? rs) fun xs => sliceL xs lo hi H Φ
  | .tup xs => som hi.pln? fun i => grd (lo.isNone && (decide (i = -1) && (Nat.beq xs.length 2 || Nat.beq xs.length 3))) (alloc (.tup xs.dropLast) H Φ)
  | _ => False
noncomputable def slice (x lo hi : V) (H : Hp) (Φ : V → Hp → Prop) : Prop := som (obOf H x) fun o => sliceO o lo hi H Φ
/-- what a loop goes over: the items, and whether the thing is still the same -/
noncomputable def intsF (k : Nat) (a : Int) : Nat → List V
  | 0 => []
  | n + 1 => .int k a :: intsF k (a + 1) n
noncomputable def keysV (es : List (Nat × V)) : List V := es.map fun e => .str e.1
noncomputable def srcO (a : Nat) (o : O) (H : Hp) (Ψ : List V → Option (Option Nat) → Hp → Prop) : Prop := match o with
  | .list xs => grd (Nat.ble xs.length 1000) (Ψ xs (some none) H)
  | .range k x y => grd (small x && small y && decide (y - x ≤ 1000)) (Ψ (intsF k x (y - x).toNat) none H)
  | .dict st es => grd (Nat.ble es.length 1000) (match st with
    | some k => Ψ (keysV es) (some (some k)) H
    | none => fH ((H ++ [O.stamp]).set a (.dict (some H.length) es)) (Ψ (keysV es) (some (some H.length))))
  | _ => False
noncomputable def srcOf (x : V) (H : Hp) (Ψ : List V → Option (Option Nat) → Hp → Prop) : Prop := som x.ref? fun a => som H[a]? fun o => srcO a o H Ψ
noncomputable def stillO (st : Option Nat) (vs : List V) (o : O) : Bool := match st with
  | none => (match o with
    | .list xs => eqbs xs vs
    | _ => false)
  | some k => (match o with
    | .dict j es => (match j with
      | some j => Nat.beq k j && eqbs (keysV es) vs
      | none => false)
    | _ => false)
noncomputable def still (x : V) (st : Option (Option Nat)) (vs : List V) (H : Hp) : Bool := match st with
  | none => true
  | some st => (match obOf H x with
    | some o => stillO st vs o
    | none => false)
noncomputable def pairO (H : Hp) (v : V) : Option (Nat × V) := (tupsOf H v).bind fun xs => (gO (Nat.beq xs.length 2) ()).bind fun _ => (xs.head?.bind V.str?).bind fun c => xs.tail.head?.map fun v => (c, v)
noncomputable def putAll (es : List (Nat × V)) : List (Nat × V) → List (Nat × V)
  | [] => es
  | p :: r => putAll (putc p.1 p.2 es) r
/-- letters in order -/
noncomputable def risb : Nat → List Nat → Bool
  | _, [] => true
  | c, d :: r => Nat.blt c d && Nat.ble d 7 && risb d r
noncomputable def icls : List Nat := [159, 180, 110, 89]
noncomputable def isiFn (x : V) (C : Nat) (H : Hp) : Option Bool := match x with
  | .ref a => (H[a]?.bind O.inst?).bind fun p => gO ((lookc p.1 clss).isSome && hasc C icls) (Nat.beq p.1 C)
  | .int _ _ => gO (hasc C icls) false
  | .none => gO (hasc C icls) false
  | _ => none
noncomputable def isTup (x : V) (H : Hp) : Option Bool := match x with
  | .ref a => (H[a]?.bind O.tup?).map fun _ => true
  | .int _ _ => some false
  | _ => none
noncomputable def isi (x c : V) (H : Hp) : Option Bool := match c with
  | .fn C => isiFn x C H
  | .bi b => (match b with
    | .int => (isTup x H).map (!·)
    | .tuple => isTup x H
    | _ => none)
  | _ => none
noncomputable def lenO (o : O) : Option Nat := match o with
  | .list xs => gO (Nat.ble xs.length 1000) xs.length
  | .tup xs => gO (Nat.ble xs.length 1000) xs.length
  | .dict _ es => gO (Nat.ble es.length 1000) es.length
  | .range _ x y => gO (small x && small y) (y - x).toNat
  | _ => none
noncomputable def listO (o : O) : Option (List V) := match o with
  | .list xs => gO (Nat.ble xs.length 1000) xs
  | .dict _ es => gO (Nat.ble es.length 1000) (keysV es)
  | _ => none
noncomputable def dictO (H : Hp) (o : O) : Option (List (Nat × V)) := match o with
  | .dict _ es => gO (Nat.ble es.length 500) es
  | .list xs => (allO (pairO H) xs).bind fun es => gO (Nat.ble es.length 500) (putAll [] es)
  | _ => none
noncomputable def sortO (o : O) : Option (List V) := match o with
  | .dict _ es => gO (risb 0 (es.map (·.1)) && Nat.ble es.length 7) (keysV es)
  | .list xs => (allO V.str? xs).bind fun cs => gO (risb 0 cs && Nat.ble cs.length 7) (cs.map .str)
  | _ => none
noncomputable def one? {α : Type} (vs : List α) : Option α := match vs with
  | [v] => some v
  | _ => none
noncomputable def two? {α : Type} (vs : List α) : Option (α × α) := match vs with
  | [v, w] => some (v, w)
  | _ => none
/-- range's bounds: the symbol, from, to -/
noncomputable def rngA (vs : List V) : Option (Nat × Int × Int) := match vs with
  | [v] => v.pln?.map fun b => (0, 0, b)
  | [v, w] => v.int?.bind fun p => w.int?.bind fun q => gO (Nat.beq p.1 q.1) (p.1, p.2, q.2)
  | _ => none
noncomputable def builtin (b : BI) (vs : List V) (H : Hp) (Φ : V → Hp → Prop) : Prop := match b with
  | .len => som (one? vs) fun v => som ((obOf H v).bind lenO) fun n => Φ (.i n) H
  | .range => som (rngA vs) fun p => grd (small p.2.1 && small p.2.2) (alloc (.range p.1 p.2.1 p.2.2) H Φ)
  | .list => som (one? vs) fun v => som ((obOf H v).bind listO) fun xs => alloc (.list xs) H Φ
  | .dict => som (one? vs) fun v => som ((obOf H v).bind (dictO H)) fun es => alloc (.dict none es) H Φ
  | .int => som (one? vs) fun v => som v.int? fun p => Φ (.int p.1 p.2) H
  | .max => som (two? vs) fun u => som u.1.int? fun p => som u.2.int? fun q => grd (Nat.beq p.1 q.1) (Φ (.int p.1 (if p.2 < q.2 then q.2 else p.2)) H)
  | .sorted => som (one? vs) fun v => som ((obOf H v).bind sortO) fun xs => alloc (.list xs) H Φ
  | .isinstance => som (two? vs) fun p => som (isi p.1 p.2 H) fun b => Φ (.bool b) H
  | .tuple => False
noncomputable def meths : List (Nat × Nat) := [(138, 135)]
noncomputable def fns : List Nat := (globs.filterMap fun p => match p.2 with | .fn a => some a | _ => none) ++ meths.map (·.2)
noncomputable def callOK (v : V) : Bool := match v with
  | .fn a => hasc a fns
  | .bi _ => true
  | _ => false
inductive Fl | next | cont | ret (v : V) | exc (w : Nat)
structure Rec where
  E : ME → X → Hp → (V → Hp → Prop) → Prop
  T : ME → X → Hp → (Bool → Hp → Prop) → Prop
  S : ME → List S → Hp → (Fl → ME → Hp → Prop) → Prop
  C : V → List V → Hp → (V → Hp → Prop) → Prop
  X : Nat → List V → Hp → (Fl → Hp → Prop) → Prop
  L : V → Hp → (V → Hp → Prop) → Prop
/-- a call -/
structure cal (r : Rec) (f : V) (vs : List V) (H : Hp) (Φ : V → Hp → Prop) : Prop where
  go : r.C f vs H Φ
structure calx (r : Rec) (a : Nat) (vs : List V) (H : Hp) (Φ : Fl → Hp → Prop) : Prop where
  go : r.X a vs H Φ
theorem cal_eq {r : Rec} {f : V} {vs : List V} {H : Hp} {Φ : V → Hp → Prop} : cal r f vs H Φ = r.C f vs H Φ := propext ⟨fun h => h.go, fun h => ⟨h⟩⟩
theorem calx_eq {r : Rec} {a : Nat} {vs : List V} {H : Hp} {Φ : Fl → Hp → Prop} : calx r a vs H Φ = r.X a vs H Φ := propext ⟨fun h => h.go, fun h => ⟨h⟩⟩
/-- methods -/
inductive Mk | fn (f : Nat) | app | pop | idx
noncomputable def listM (n : Nat) : Option Mk := ifs (Nat.beq n 111) (some .app) (ifs (Nat.beq n 81) (some .idx) (gO (Nat.beq n 112) .pop))
noncomputable def methO (o : O) (n : Nat) : Option Mk := match o with
  | .inst C es => (gO (Nat.beq n 49 && (lookc n es).isNone) ()).bind fun _ => (lookc C meths).map .fn
  | .list _ => listM n
  | _ => none
noncomputable def methOf (v : V) (n : Nat) (H : Hp) : Option Mk := (obOf H v).bind fun o => methO o n
noncomputable def popL (ys : List V) : Option (V × List V) := ys.getLast?.map fun y => (y, ys.dropLast)
noncomputable def methD (r : Rec) (k : Mk) (v : V) (vs : List V) (H : Hp) (Φ : V → Hp → Prop) : Prop := match k with
  | .fn f => cal r (.fn f) (v :: vs) H Φ
  | .app => som (one? vs) fun w => som v.ref? fun a => som (H[a]?.bind O.list?) fun ys => grd (Nat.ble ys.length 999) (seto a (.list (ys ++ [w])) H (Φ .none))
  | .idx => som (one? vs) fun w => som (lstOf H v) fun ys => som (md 3 H w) fun d => som (allO (md 3 H) ys) fun es => som (mfind d es 0) fun i => som i fun i => grd (Nat.ble es.length 1000) (Φ (.i i) H)
  | .pop => grd vs.isEmpty (som v.ref? fun a => som (H[a]?.bind O.list?) fun ys => som (popL ys) fun p => grd (Nat.ble ys.length 1000) (seto a (.list p.2) H (Φ p.1)))
noncomputable def evs (r : Rec) (me : ME) (xs : List X) (H : Hp) (Φ : List V → Hp → Prop) : Prop := match xs with
  | [] => Φ [] H
  | x :: xs => r.E me x H fun v H => evs r me xs H fun vs H => Φ (v :: vs) H
noncomputable def boos (r : Rec) (me : ME) (and : Bool) (xs : List X) (H : Hp) (Φ : Bool → Hp → Prop) : Prop := match xs with
  | [] => Φ and H
  | x :: xs => r.T me x H fun b H => ifs (b == and) (boos r me and xs H Φ) (Φ b H)
noncomputable def frOK (me : ME) (fr : List Nat) : Bool := fr.all fun x => (lookc x me.cl).isSome
noncomputable def boosE (r : Rec) (me : ME) (and : Bool) (xs : List X) (H : Hp) (Φ : Bool → Hp → Prop) : Prop := match xs with
  | [] => False
  | x :: xs => r.E me x H fun v H => som v.bool? fun b => ifs (xs.isEmpty || b != and) (Φ b H) (boosE r me and xs H Φ)
noncomputable def sub1 (me : ME) (fr gl xs : List Nat) : ME := ⟨[], me.cl.filter fun p => hasc p.1 fr, gl, xs⟩
/-- a target is bound: one name, or the members of a tuple -/
noncomputable def bindX (me : ME) (xs : List Nat) (v : V) (H : Hp) (Φ : ME → Hp → Prop) : Prop := match xs with
  | [] => False
  | x :: xs => (match xs with
    | [] => bindN me x v H Φ
    | y :: ys => som (tupsOf H v) fun us => grd (Nat.beq (ys.length + 2) us.length) (bindNs me (x :: y :: ys) us H Φ))
/-- one turn of a comprehension, what becomes of its list -/
noncomputable def emit (r : Rec) (me : ME) (e : X) (cs : List X) (ys : List V) (H : Hp) (Φ : List V → Hp → Prop) : Prop := match cs with
  | [] => r.E me e H fun y H => Φ (ys ++ [y]) H
  | c :: cs => grd cs.isEmpty (r.T me c H fun b H => ifs b (r.E me e H fun y H => Φ (ys ++ [y]) H) (Φ ys H))
noncomputable def compL (r : Rec) (me : ME) (e : X) (xs : List Nat) (cs : List X) (src : V) (st : Option (Option Nat)) (all vs ys : List V) (H : Hp) (Φ : List V → ME → Hp → Prop) : Prop := match vs with
  | [] => Φ ys me H
  | v :: vs => bindX me xs v H fun me H => grd (Nat.ble ys.length 1000) (emit r me e cs ys H fun ys H => grd (still src st all H) (compL r me e xs cs src st all vs ys H Φ))
noncomputable def compLL (r : Rec) (me : ME) (e : X) (xs : List Nat) (zs : List Nat) (i2 : X) (src : V) (st : Option (Option Nat)) (all vs ys : List V) (H : Hp) (Φ : List V → Hp → Prop) : Prop := match vs with
  | [] => Φ ys H
  | v :: vs => bindX me xs v H fun me H => r.E me i2 H fun s2 H => srcOf s2 H fun ws st2 H =>
      compL r me e zs [] s2 st2 ws ws ys H fun ys me H => grd (still src st all H) (compLL r me e xs zs i2 src st all vs ys H Φ)
noncomputable def nmX (x : X) : Option Nat := match x with
  | .nm c => some c
  | _ => Option.none
noncomputable def slX (x : X) : Option (X × X) := match x with
  | .slice lo hi => some (lo, hi)
  | _ => Option.none
/-- a call: of a name, of a method -/
noncomputable def callX (r : Rec) (me : ME) (f : X) (xs : List X) (H : Hp) (Φ : V → Hp → Prop) : Prop := match f with
  | .nm c => som (lookN me c H) fun v => grd (callOK v) (evs r me xs H fun vs H => cal r v vs H Φ)
  | .attr o n => r.E me o H fun v H => som (methOf v n H) fun k => evs r me xs H fun vs H => methD r k v vs H Φ
  | _ => False
noncomputable def cellsAt : List Nat → Nat → List (Nat × Nat)
  | [], _ => []
  | c :: cs, n => (c, n) :: cellsAt cs (n + 1)
/-- no 'continue' leaves a def -/
noncomputable def Fl.nc (f : Fl) : Bool := match f with
  | .cont => false
  | _ => true
/-- a def's body -/
noncomputable def stepX (r : Rec) (fi : FI) (vs : List V) (H : Hp) (Φ : Fl → Hp → Prop) : Prop := grd (Nat.beq fi.ps.length vs.length)
  (fH (H ++ fi.cs.map fun c => .cell (lookc c (fi.ps.zip vs))) fun H' => r.S ⟨(fi.ps.zip vs).filter fun p => !hasc p.1 fi.cs, cellsAt fi.cs H.length, fi.gl, fi.ls⟩ fi.body H' fun f _ H => grd f.nc (Φ f H))
noncomputable def retF (Φ : V → Hp → Prop) (f : Fl) (H : Hp) : Prop := match f with
  | .ret v => Φ v H
  | .next => Φ .none H
  | .cont => False
  | .exc _ => False
noncomputable def stepE (r : Rec) (me : ME) (x : X) (H : Hp) (Φ : V → Hp → Prop) : Prop := match x with
  | .none => Φ .none H
  | .bool b => Φ (.bool b) H
  | .int i => Φ (.i i) H
  | .str c => Φ (.str c) H
  | .nm c => som (lookN me c H) fun v => Φ v H
  | .boo and xs => boosE r me and xs H fun b H => Φ (.bool b) H
  | .bin op a b => r.E me a H fun x H => r.E me b H fun y H => binop op x y H Φ
  | .not _ => False
  | .neg a => r.E me a H fun x H => som x.pln? fun i => Φ (.i (-i)) H
  | .ite t a b => r.T me t H fun c H => ifs c (r.E me a H Φ) (r.E me b H Φ)
  | .dict0 => alloc (.dict none []) H Φ
  | .list xs => grd (Nat.ble xs.length 1000) (evs r me xs H fun vs H => alloc (.list vs) H Φ)
  | .tup xs => grd (Nat.ble xs.length 1000) (evs r me xs H fun vs H => alloc (.tup vs) H Φ)
  | .comp e xs it cs fr gl => grd (frOK me fr) (r.E me it H fun s H => srcOf s H fun vs st H => compL r (sub1 me fr gl xs) e xs cs s st vs vs [] H fun ys _ H => alloc (.list ys) H Φ)
  | .comp2 e xs i1 zs i2 fr gl => grd (frOK me fr) (r.E me i1 H fun s H => srcOf s H fun vs st H => compLL r (sub1 me fr gl (xs ++ zs)) e xs zs i2 s st vs vs [] H fun ys H => alloc (.list ys) H Φ)
  | .cmp a op b => r.E me a H fun x H => r.E me b H fun y H => som (cmpop H op x y) fun c => Φ (.bool c) H
  | .chain _ _ _ _ _ => False
  | .call f xs => callX r me f xs H Φ
  | .lim x => som ((lookN me 192 H).bind V.fn?) fun a => grd (Nat.beq a 313) (r.E me x H fun v H => r.L v H Φ)
  | .attr o n => r.E me o H fun v H => som (getattr v n H) fun u => Φ u H
  | .sub o i => (match slX i with
    | some p => som (nmX o) fun c => som (lookN me c H) fun v => r.E me p.1 H fun l H => r.E me p.2 H fun h H => slice v l h H Φ
    | Option.none => r.E me o H fun v H => r.E me i H fun w H => som (getitem v w H) fun u => Φ u H)
  | .slice _ _ => False
  | .bad => False
noncomputable def stepT (r : Rec) (me : ME) (x : X) (H : Hp) (Φ : Bool → Hp → Prop) : Prop := match x with
  | .not a => r.T me a H fun b H => Φ (!b) H
  | .boo and xs => boos r me and xs H Φ
  | .ite _ _ _ => False
  | .cmp a op b => r.E me a H fun x H => r.E me b H fun y H => som (cmpop H op x y) fun c => Φ c H
  | .chain a p b q c => r.E me a H fun x H => r.E me b H fun y H => som (cmpop H p x y) fun d => ifs d (r.E me c H fun z H => som (cmpop H q y z) fun d => Φ d H) (Φ false H)
  | x => r.E me x H fun v H => som v.bool? fun b => Φ b H
noncomputable def asgT (r : Rec) (me : ME) (t : T) (v : V) (H : Hp) (Φ : ME → Hp → Prop) : Prop := match t with
  | .nms xs => bindX me xs v H Φ
  | .attr o n => r.E me o H fun u H => setattr u n v H (Φ me)
  | .sub o i => r.E me o H fun u H => r.E me i H fun w H => setitem u w v H (Φ me)
noncomputable def forL (r : Rec) (xs : List Nat) (b : List S) (src : V) (st : Option (Option Nat)) (all vs : List V) (me : ME) (H : Hp) (Φ : Fl → ME → Hp → Prop) : Prop := match vs with
  | [] => Φ .next me H
  | v :: vs => bindX me xs v H fun me H => r.S me b H fun f me H =>
      let k := grd (still src st all H) (forL r xs b src st all vs me H Φ)
      match f with
      | .next => k
      | .cont => k
      | .ret u => Φ (.ret u) me H
      | .exc w => Φ (.exc w) me H
/-- tuple to tuple: not both stores to locals -/
noncomputable def asgOK (me : ME) (t : T) (x : X) : Bool := match x with
  | .tup _ => (match t with
    | .nms xs => Nat.ble xs.length 1 || xs.any fun x => (lookc x me.cl).isSome
    | _ => true)
  | _ => true
/-- a name that means a def -/
noncomputable def fnN (me : ME) (c : Nat) (H : Hp) : Option Nat := (lookN me c H).bind fun v => v.fn?.bind fun a => gO (hasc a fns) a
noncomputable def step1 (r : Rec) (me : ME) (s : S) (H : Hp) (Φ : Fl → ME → Hp → Prop) : Prop := match s with
  | .expr x => r.E me x H fun v H => grd v.isNone (Φ .next me H)
  | .ret x => r.E me x H fun v H => Φ (.ret v) me H
  | .asg t x => grd (asgOK me t x) (r.E me x H fun v H => asgT r me t v H fun me H => Φ .next me H)
  | .aug o n x => r.E me o H fun u H => som (getattr u n H) fun w => r.E me x H fun v H => som w.int? fun p => som v.pln? fun d => setattr u n (.int p.1 (p.2 + d)) H (Φ .next me)
  | .ifs t a b => r.T me t H fun c H => ifs c (r.S me a H Φ) (r.S me b H Φ)
  | .for xs it b => r.E me it H fun s H => srcOf s H fun vs st H => forL r xs b s st vs vs me H Φ
  | .whl t b => r.T me t H fun c H => ifs c (r.S me b H fun f me H =>
      let k := r.S me [.whl t b] H Φ
      match f with
      | .next => k
      | .cont => k
      | .ret u => Φ (.ret u) me H
      | .exc w => Φ (.exc w) me H) (Φ .next me H)
  | .cont => Φ .cont me H
  | .xcal f xs => som (fnN me f H) fun a => evs r me xs H fun vs H => calx r a vs H fun f H => (match f with
    | .next => Φ .next me H
    | .ret v => grd v.isNone (Φ .next me H)
    | .exc w => Φ (.exc w) me H
    | .cont => False)
  | .rais xs => som ((lookN me 171 H).bind V.fn?) fun a => grd (Nat.beq a 70) (evs r me xs H fun vs H => grd (Nat.beq vs.length 3) (som (vs.head?.bind V.str?) fun w => Φ (.exc w) me H))
  | .tryc f xs => grd (hasc 171 me.gl && hasc 191 me.lc) (som (fnN me f H) fun a => evs r me xs H fun vs H => calx r a vs H fun f H => (match f with
    | .next => Φ (.ret .none) me H
    | .ret v => Φ (.ret v) me H
    | .exc w => Φ (.ret (.str w)) { me with loc := [] } H
    | .cont => False))
  | .bad => False
noncomputable def stepS (r : Rec) (me : ME) (ss : List S) (H : Hp) (Φ : Fl → ME → Hp → Prop) : Prop := match ss with
  | [] => Φ .next me H
  | s :: ss => step1 r me s H fun f me H => match f with
    | .next => r.S me ss H Φ
    | .cont => Φ .cont me H
    | .ret v => Φ (.ret v) me H
    | .exc w => Φ (.exc w) me H
/-- calls that are known by a contract of their own -/
noncomputable abbrev Orc := Nat → Nat → List V → Hp → Option (V × Hp)
noncomputable def stepC (orc : Nat → List V → Hp → Option (V × Hp)) (r : Rec) (f : V) (vs : List V) (H : Hp) (Φ : V → Hp → Prop) : Prop := match f with
  | .bi b => builtin b vs H Φ
  | .fn a => (match orc a vs H with
    | some p => Φ p.1 p.2
    | none => match lookc a funs with
      | some fi => stepX r fi vs H (retF Φ)
      | none => som (lookc a clss) fun i => alloc (.inst a []) H fun n H => cal r (.fn i) (n :: vs) H fun u H => grd u.isNone (Φ n H))
  | _ => False
/-- Limits(members=v) -/
noncomputable def stepL (r : Rec) (v : V) (H : Hp) (Φ : V → Hp → Prop) : Prop := alloc (.inst 313 []) H fun n H => stepX r f310 [n, .i 32, .i 1000000, .i 50, v, .i 100000, .i 50, .i 1000000] H (retF fun u H => grd u.isNone (Φ n H))
noncomputable def run (orc : Orc) : Nat → Rec
  | 0 => ⟨fun _ _ _ _ => False, fun _ _ _ _ => False, fun _ _ _ _ => False, fun _ _ _ _ => False, fun _ _ _ _ => False, fun _ _ _ => False⟩
  | n + 1 => ⟨stepE (run orc n), stepT (run orc n), stepS (run orc n), stepC (orc (n + 1)) (run orc n), fun a vs H Φ => som (lookc a funs) fun fi => stepX (run orc n) fi vs H Φ, stepL (run orc n)⟩
end N
end Mine
end
section
open PySem PySem.W PyProof.Rows PySem.Calls
set_option Elab.async false
set_option maxRecDepth 100000
set_option maxHeartbeats 1000000
namespace Mine
noncomputable abbrev ctA (dp un : Nat) (gd : Option (List Code)) (outer : List Env) : Around := { handled := none, depth := dp, frames := some outer, guards := gd, units := un }
noncomputable abbrev frs (l : List Env) : List Addr := l.filterMap (·.frame)
noncomputable abbrev prg : Program := PySem.Challenge.rw_xm0006_01.row.prog
noncomputable abbrev TopW (mean : ExcName → Option Value) (mg mb : PySem.Str → Option Value) (h : Heap) : Prop := Top hdA.view_1_40 (looseW hdA.view_1_40 [PySem.Str.ofString "Limits"]) mean mg mb h
namespace N
section
variable (val : Nat → Int) (ρ : List Addr)
/-- a value of ours, as the model's -/
inductive RV : V → Value → Prop
  | none : RV .none .none
  | bool (b : Bool) : RV (.bool b) (.bool b)
  | int (k : Nat) (c : Int) (t : Tok) : RV (.int k c) (.int (val k + c) t)
  | str (c : Nat) (t : Tok) (h : c < tb.length) : RV (.str c) (.str (nm c) t)
  | ref {a : Nat} {r : Addr} (h : ρ[a]? = some r) : RV (.ref a) (.ref r)
  | fn (a : Nat) : RV (.fn a) (.ref a)
  | bi (b : BI) : RV (.bi b) b.val
inductive RVs : List V → List Value → Prop
  | nil : RVs [] []
  | cons {v : V} {x : Value} {vs : List V} {xs : List Value} : RV val ρ v x → RVs vs xs → RVs (v :: vs) (x :: xs)
/-- a dict's entries -/
inductive REs : List (Nat × V) → List (PySem.Str × Value) → Prop
  | nil : REs [] []
  | cons {c : Nat} {v : V} {x : Value} {es : List (Nat × V)} {xs : List (PySem.Str × Value)} : c < tb.length → RV val ρ v x → REs es xs → REs ((c, v) :: es) ((nm c, x) :: xs)
/-- what a cell holds -/
inductive RVc : Option V → Option Value → Prop
  | none : RVc none none
  | some {v : V} {x : Value} : RV val ρ v x → RVc (some v) (some x)
/-- an instance's attributes -/
structure RAt (es : List (Nat × V)) (des : List DictEntry) : Prop where
  len : des.length ≤ es.length
  has : ∀ c v, lookc c es = some v → ∃ x, getL (nm c) des = some (some x) ∧ RV val ρ v x
  hasnt : ∀ c, c < tb.length → lookc c es = none → getL (nm c) des = some none
  keys : ∀ p ∈ es, p.1 < tb.length
end
noncomputable def rngOf (a b c : Int) (t u v : Tok) : Obj := { cls := .type "range", dict := none, data := .fields #[.int a t, .int b u, .int c v], slots := #[] }
noncomputable abbrev tupOf (its : Array Value) (n : Nat) : Obj := { cls := .type "tuple", data := .seq its n }
/-- what surrounds: the symbols' values, the world, what `rolls` stands for -/
structure Cx where
  val : Nat → Int
  v0 : val 0 = 0
  vb : ∀ k, -1000000 ≤ val k ∧ val k ≤ 1000000
  w : World
  RR : List (Int × V) → Addr → List (Addr × Obj) → Prop
  rra : ∀ rs a es, RR rs a es → ∀ p ∈ es, p.2.isFreed = false ∧ ∀ es n, p.2.data ≠ .dict es n
  rl : ∀ rs xs a es, RR rs a es → old? rs = some xs → ∃ o ys n, es = [(a, o)] ∧ o.cls = .type "list" ∧ o.data = .seq ys.toArray n ∧ ∀ ρ, RVs val ρ xs ys
section
variable (c : Cx) (ρ : List Addr)
inductive RO : O → Addr → List (Addr × Obj) → Prop
  | list {xs ys a n} : RVs c.val ρ xs ys → RO (.list xs) a [(a, listOf ys.toArray n)]
  | tup {xs ys a n} : RVs c.val ρ xs ys → RO (.tup xs) a [(a, tupOf ys.toArray n)]
  | dict {st es kvs a o} : o.IsDictOf (PySem.strKind prg c.w) kvs → REs c.val ρ es kvs → (a == sysModules) = false → (∀ k, st = some k → ∃ ep l, ρ[k]? = some ep ∧ o.data = .dict l ep) → RO (.dict st es) a [(a, o)]
  | stamp {a} : RO .stamp a []
  | inst {C es a d des n} : RAt c.val ρ es des → d ≠ a → RO (.inst C es) a [(a, instObj C d), (d, dictOf des n)]
  | range {k x y a t u v} : RO (.range k x y) a [(a, rngOf (c.val k + x) (c.val k + y) 1 t u v)]
  | cell {v x a o} : o.data = .cell x → RVc c.val ρ v x → RO (.cell v) a [(a, o)]
  | rolls {rs a es} : c.RR rs a es → RO (.rolls rs) a es
inductive Led : List Addr → Hp → List (Addr × Obj) → Prop
  | nil : Led [] [] []
  | cons {o a es ρ' H led} : RO c ρ o a es → Led ρ' H led → Led (a :: ρ') (o :: H) (es ++ led)
end
section
variable {val : Nat → Int} {ρ ρ' : List Addr} {c : Cx}
theorem RV.up (h : ρ <+: ρ') {v : V} {x : Value} (r : RV val ρ v x) : RV val ρ' v x := by
  cases r with
  | ref e =>
    obtain ⟨t, rfl⟩ := h
    refine .ref ?_
    rw [List.getElem?_append_left (List.getElem?_eq_some_iff.mp e).1]
    exact e
  | none => exact .none
  | bool b => exact .bool b
  | int k c t => exact .int k c t
  | str c t h => exact .str c t h
  | fn a => exact .fn a
  | bi b => exact .bi b
theorem RVs.up (h : ρ <+: ρ') {v : List V} {x : List Value} (r : RVs val ρ v x) : RVs val ρ' v x := by
  induction r with
  | nil => exact .nil
  | cons a _ ih => exact .cons (a.up h) ih
theorem REs.up (h : ρ <+: ρ') {v : List (Nat × V)} {x : List (PySem.Str × Value)} (r : REs val ρ v x) : REs val ρ' v x := by
  induction r with
  | nil => exact .nil
  | cons l a _ ih => exact .cons l (a.up h) ih
theorem RAt.up (h : ρ <+: ρ') {es : List (Nat × V)} {des : List DictEntry} (r : RAt val ρ es des) : RAt val ρ' es des :=
  ⟨r.len, fun c v e => let ⟨x, a, b⟩ := r.has c v e; ⟨x, a, b.up h⟩, r.hasnt, r.keys⟩
theorem RO.up (h : ρ <+: ρ') {o : O} {a : Addr} {es : List (Addr × Obj)} (r : RO c ρ o a es) : RO c ρ' o a es := by
  cases r with
  | list r => exact .list (r.up h)
  | tup r => exact .tup (r.up h)
  | dict a r m s =>
    refine .dict a (r.up h) m fun k e => ?_
    obtain ⟨ep, l, e1, e2⟩ := s k e
    obtain ⟨t, rfl⟩ := h
    exact ⟨ep, l, by rw [List.getElem?_append_left (List.getElem?_eq_some_iff.mp e1).1]; exact e1, e2⟩
  | stamp => exact .stamp
  | inst r d => exact .inst (r.up h) d
  | range => exact .range
  | cell d r =>
    refine .cell d ?_
    cases r with
    | none => exact .none
    | some r => exact .some (r.up h)
  | rolls r => exact .rolls r
theorem Led.up {ρ₀ ρ₁ : List Addr} (h : ρ₀ <+: ρ₁) {H : Hp} {led : List (Addr × Obj)} (r : Led c ρ₀ ρ H led) : Led c ρ₁ ρ H led := by
  induction r with
  | nil => exact .nil
  | cons a _ ih => exact .cons (a.up h) ih
theorem RVs.length {v : List V} {x : List Value} (r : RVs val ρ v x) : x.length = v.length := by
  induction r with
  | nil => rfl
  | cons _ _ ih => simp [ih]
theorem RVs.get {v : List V} {x : List Value} (r : RVs val ρ v x) : ∀ {i : Nat} {y : V}, v[i]? = some y → ∃ z, x[i]? = some z ∧ RV val ρ y z := by
  induction r with
  | nil => intro i y h; simp at h
  | cons a _ ih =>
    intro i y h
    cases i with
    | zero => simp at h; subst h; exact ⟨_, by simp, a⟩
    | succ i => simp at h; obtain ⟨z, e, r⟩ := ih h; exact ⟨z, by simpa using e, r⟩
theorem RVs.append {v v' : List V} {x x' : List Value} (r : RVs val ρ v x) (r' : RVs val ρ v' x') : RVs val ρ (v ++ v') (x ++ x') := by
  induction r with
  | nil => exact r'
  | cons a _ ih => exact .cons a ih
theorem RVs.set {v : List V} {x : List Value} (r : RVs val ρ v x) {y : V} {z : Value} (q : RV val ρ y z) : ∀ (i : Nat), RVs val ρ (v.set i y) (x.set i z) := by
  induction r with
  | nil => intro i; exact .nil
  | cons a b ih =>
    intro i
    cases i with
    | zero => exact .cons q b
    | succ i => exact .cons a (ih i)
theorem RVs.drop {v : List V} {x : List Value} (r : RVs val ρ v x) : ∀ (i : Nat), RVs val ρ (v.drop i) (x.drop i) := by
  induction r with
  | nil => intro i; simp; exact .nil
  | cons a b ih =>
    intro i
    cases i with
    | zero => exact .cons a b
    | succ i => exact ih i
theorem RVs.take {v : List V} {x : List Value} (r : RVs val ρ v x) : ∀ (i : Nat), RVs val ρ (v.take i) (x.take i) := by
  induction r with
  | nil => intro i; simp; exact .nil
  | cons a b ih =>
    intro i
    cases i with
    | zero => exact .nil
    | succ i => exact .cons a (ih i)
theorem RVs.dropLast {v : List V} {x : List Value} (r : RVs val ρ v x) : RVs val ρ v.dropLast x.dropLast := by
  induction r with
  | nil => exact .nil
  | cons a b ih =>
    cases b with
    | nil => exact .nil
    | cons d e => exact .cons a ih
theorem Led.length {ρ₀ : List Addr} {H : Hp} {led : List (Addr × Obj)} (r : Led c ρ₀ ρ H led) : ρ.length = H.length := by
  induction r with
  | nil => rfl
  | cons _ _ ih => simp [ih]
/-- one object's place in the ledger -/
theorem Led.at {ρ₀ : List Addr} {H : Hp} {led : List (Addr × Obj)} (r : Led c ρ₀ ρ H led) : ∀ {k : Nat} {o : O}, H[k]? = some o →
    ∃ a es pre post, ρ[k]? = some a ∧ RO c ρ₀ o a es ∧ led = pre ++ (es ++ post) ∧ ∀ o' es', RO c ρ₀ o' a es' → Led c ρ₀ ρ (H.set k o') (pre ++ (es' ++ post)) := by
  induction r with
  | nil => intro k o h; simp at h
  | @cons o₁ a₁ es₁ ρ₁ H₁ led₁ x y ih =>
    intro k o h
    cases k with
    | zero =>
      simp at h; subst h
      exact ⟨a₁, es₁, [], led₁, rfl, x, rfl, fun o' es' z => (show Led c ρ₀ (a₁ :: ρ₁) (o' :: H₁) (es' ++ led₁) from .cons z y)⟩
    | succ k =>
      simp at h
      obtain ⟨a, es, pre, post, e1, e2, e3, e4⟩ := ih h
      exact ⟨a, es, es₁ ++ pre, post, by simpa using e1, e2, by rw [e3, List.append_assoc], fun o' es' z => by rw [List.append_assoc]; exact .cons x (e4 o' es' z)⟩
theorem Led.snoc {ρ₀ : List Addr} {H : Hp} {led es : List (Addr × Obj)} {o : O} {a : Addr} (r : Led c ρ₀ ρ H led) (x : RO c ρ₀ o a es) : Led c ρ₀ (ρ ++ [a]) (H ++ [o]) (led ++ es) := by
  induction r with
  | nil => simpa using Led.cons x .nil
  | cons y z ih => rw [List.append_assoc]; exact .cons y ih
theorem Led.mem {ρ₀ : List Addr} {H : Hp} {led : List (Addr × Obj)} (r : Led c ρ₀ ρ H led) {k : Nat} {o : O} (h : H[k]? = some o) {a : Addr} (ha : ρ[k]? = some a) : ∃ es, RO c ρ₀ o a es ∧ ∀ p ∈ es, p ∈ led := by
  obtain ⟨a', es, pre, post, e1, e2, e3, -⟩ := r.at h
  rw [ha] at e1; cases e1
  exact ⟨es, e2, fun p hp => by rw [e3]; exact List.mem_append_right _ (List.mem_append_left _ hp)⟩
end
end N
end Mine
end
section
open PySem PySem.W PyProof.Rows PySem.Calls
set_option Elab.async false
set_option maxRecDepth 100000
set_option maxHeartbeats 1000000
namespace Mine
/-- the outer frames' objects, with whatever slots -/
noncomputable def FsOf (g : Heap) (outer : List Env) (fs : List (Addr × Obj)) : Prop := ∀ b o, b ∈ frs outer → g.get? b = some o → ∃ sl, (b, ({ o with slots := sl } : Obj)) ∈ fs
namespace N
/-- one activation -/
structure Fx where
  dp : Nat
  un : Nat
  gd : Option (List Code)
  outer : List Env
  base : Heap
  g : Heap
  L : Addr
  env : Env
  gn : Array GenState
  dr : Drawn
  os : OsState
noncomputable abbrev Fx.A (f : Fx) : Around := ctA f.dp f.un f.gd (f.env :: f.outer)
noncomputable abbrev Fx.gz (f : Fx) : Heap := hideAll f.g (frs f.outer)
noncomputable abbrev Fx.st (f : Fx) (h : Heap) (tk : Nat) : Shared := ⟨h, f.gn, f.dr, tk, f.os⟩
structure FxOK (c : Cx) (mean : ExcName → Option Value) (mg mb : PySem.Str → Option Value) (f : Fx) : Prop where
  stays : f.base.StaysIn f.g
  frames : f.g.FunFrames f.base f.outer
  Xb : (hdA.heap_1_39 c.w.params).In f.base
  Tb : TopW mean mg mb f.base
  frame : f.env.frame = some f.L
  loc : f.env.locals = f.L
  kind : f.env.scope.kind = .function
  gl : f.env.globals = mainGlobals
  bi : f.env.builtins = builtinsNs
/-- the heaps belong together -/
structure Rl (c : Cx) (f : Fx) (m : PySem.Str → Option Value) (ex : List (Addr × Obj)) (ρ : List Addr) (H : Hp) (h : Heap) : Prop where
  F : Fr f.gz f.L h m
  N : ∃ fs led, Led c ρ ρ H led ∧ FsOf f.g f.outer fs ∧ (∀ p ∈ fs, p.1 ∈ frs f.outer) ∧ News f.gz f.L h (ex ++ (led ++ fs)) ∧ ((ex ++ led).map (·.1)).Nodup ∧ ∀ p ∈ ex ++ led, p.1 ∉ frs f.outer
section
variable {c : Cx} {mean : ExcName → Option Value} {mg mb : PySem.Str → Option Value} {f : Fx} {m : PySem.Str → Option Value} {ex : List (Addr × Obj)} {ρ : List Addr} {H : Hp} {h : Heap}
theorem FxOK.gst (K : FxOK c mean mg mb f) : f.base.StaysIn f.gz := fun b o q => hideAll_get _ (K.stays b o q) fun hm => by rw [(K.frames.mem hm).1] at q; cases q
theorem FxOK.X (K : FxOK c mean mg mb f) : (hdA.heap_1_39 c.w.params).In f.gz := K.Xb.keeps K.gst
theorem FxOK.T (K : FxOK c mean mg mb f) : TopW mean mg mb f.gz := K.Tb.keeps K.gst
theorem gz_none {a : Addr} (h : f.gz.get? a = none) (hf : a ∉ frs f.outer) : f.g.get? a = none := by
  cases q : f.g.get? a with
  | none => rfl
  | some o => have := hideAll_get _ q hf; rw [h] at this; cases this
/-- a new object -/
theorem Rl.push (K : FxOK c mean mg mb f) (R : Rl c f m ex ρ H h) {o : O} {ob : Obj} (x : RO c (ρ ++ [h.objs.size]) o h.objs.size [(h.objs.size, ob)]) (hf : ob.isFreed = false := by rfl) :
    Rl c f m ex (ρ ++ [h.objs.size]) (H ++ [o]) (h.push ob) := by
  obtain ⟨F, fs, led, l, a, b, N, nd, off⟩ := R
  have N' := News.push F N ob hf
  have lt : ∀ p ∈ ex ++ (led ++ fs), p.1 < h.objs.size := fun p hp => Heap.lt_size (N p hp).1
  have nof : h.objs.size ∉ frs f.outer := fun hm => by
    obtain ⟨o', ho', _⟩ := (K.frames.mem hm).2
    obtain ⟨sl, q⟩ := a _ _ hm ho'
    exact Nat.lt_irrefl _ (lt _ (List.mem_append_right _ (List.mem_append_right _ q)))
  refine ⟨F.push ob, fs, led ++ [(h.objs.size, ob)], (l.up (List.prefix_append _ _)).snoc x, a, b, fun p hp => ?_, ?_, fun p hp => ?_⟩
  · refine N' p ?_
    simp only [List.mem_append, List.mem_cons, List.not_mem_nil, or_false] at hp ⊢
    rcases hp with h | (h | h) | h
    · exact .inr (.inl h)
    · exact .inr (.inr (.inl h))
    · exact .inl h
    · exact .inr (.inr (.inr h))
  · rw [← List.append_assoc, List.map_append, List.nodup_append]
    refine ⟨nd, by simp, fun x hx y hy => ?_⟩
    simp only [List.map_cons, List.map_nil, List.mem_singleton] at hy
    obtain ⟨p, hp, rfl⟩ := List.mem_map.mp hx
    rw [hy]
    refine Nat.ne_of_lt (lt p ?_)
    rcases List.mem_append.mp hp with hp | hp
    · exact List.mem_append_left _ hp
    · exact List.mem_append_right _ (List.mem_append_left _ hp)
  · rw [← List.append_assoc] at hp
    rcases List.mem_append.mp hp with hp | hp
    · exact off p hp
    · rw [List.mem_singleton.mp hp]; exact nof
/-- an object of the ledger, whole -/
theorem Rl.at (R : Rl c f m ex ρ H h) {k : Nat} {o : O} (hk : H[k]? = some o) : ∃ a es pre post, ρ[k]? = some a ∧ RO c ρ o a es ∧ News f.gz f.L h (pre ++ (es ++ post)) ∧ (es.map (·.1)).Nodup ∧
    (∀ q ∈ es, (∀ p ∈ pre, p.1 ≠ q.1) ∧ ∀ p ∈ post, p.1 ≠ q.1) ∧
    ∀ m' h' o' es', RO c ρ o' a es' → es'.map (·.1) = es.map (·.1) → Fr f.gz f.L h' m' → News f.gz f.L h' (pre ++ (es' ++ post)) → Rl c f m' ex ρ (H.set k o') h' := by
  obtain ⟨F, fs, led, l, a, b, N, nd, off⟩ := R
  obtain ⟨ad, es, pre, post, e1, e2, e3, e4⟩ := l.at hk
  subst e3
  have nd' := nd
  rw [List.map_append, List.map_append, List.map_append] at nd'
  refine ⟨ad, es, ex ++ pre, post ++ fs, e1, e2, by simpa [List.append_assoc] using N, ?_, fun q hq => ⟨fun p hp => ?_, fun p hp => ?_⟩, fun m' h' o' es' x y F' N' => ⟨F', fs, pre ++ (es' ++ post), e4 o' es' x, a, b, by simpa [List.append_assoc] using N', ?_, fun p hp => ?_⟩⟩
  · exact (List.nodup_append.mp (List.nodup_append.mp (List.nodup_append.mp nd').2.1).2.1).1
  · have hq' : q.1 ∈ es.map (·.1) := List.mem_map_of_mem hq
    rcases List.mem_append.mp hp with hp | hp
    · exact (List.nodup_append.mp nd').2.2 _ (List.mem_map_of_mem hp) _ (List.mem_append_right _ (List.mem_append_left _ hq'))
    · exact (List.nodup_append.mp (List.nodup_append.mp nd').2.1).2.2 _ (List.mem_map_of_mem hp) _ (List.mem_append_left _ hq')
  · have hq' : q.1 ∈ es.map (·.1) := List.mem_map_of_mem hq
    rcases List.mem_append.mp hp with hp | hp
    · exact Ne.symm ((List.nodup_append.mp (List.nodup_append.mp (List.nodup_append.mp nd').2.1).2.1).2.2 _ hq' _ (List.mem_map_of_mem hp))
    · intro z
      exact off q (List.mem_append_right _ (List.mem_append_right _ (List.mem_append_left _ hq))) (z ▸ b p hp)
  · rw [List.map_append, List.map_append, List.map_append, y]; exact nd'
  · have : p.1 ∈ (ex ++ (pre ++ (es ++ post))).map (·.1) := by
      have := List.mem_map_of_mem (f := (·.1)) hp
      rw [List.map_append, List.map_append, List.map_append, y] at this
      rw [List.map_append, List.map_append, List.map_append]; exact this
    obtain ⟨q, hq, e⟩ := List.mem_map.mp this
    rw [← e]; exact off q hq
theorem Rl.len (R : Rl c f m ex ρ H h) : ρ.length = H.length := let ⟨_, _, _, l, _⟩ := R; l.length
/-- the frame turns, or tokens are drawn -/
theorem Rl.fr (R : Rl c f m ex ρ H h) {m' : PySem.Str → Option Value} {h' : Heap} (F : Fr f.gz f.L h' m') (k : ∀ l, News f.gz f.L h l → News f.gz f.L h' l) : Rl c f m' ex ρ H h' := by
  obtain ⟨_, fs, led, l, a, b, N, nd, off⟩ := R
  exact ⟨F, fs, led, l, a, b, k _ N, nd, off⟩
/-- what an expression leaves -/
noncomputable def PE (c : Cx) (f : Fx) (m : PySem.Str → Option Value) (ex : List (Addr × Obj)) (ρ : List Addr) (Φ : V → Hp → Prop) (Q : Value → Shared → Prop) : Prop :=
  ∀ v H' ρ' h' tk' x, Φ v H' → ρ <+: ρ' → Rl c f m ex ρ' H' h' → RV c.val ρ' v x → Q x (f.st h' tk')
theorem PE.up {Φ : V → Hp → Prop} {Q : Value → Shared → Prop} {ρ' : List Addr} (h : ρ <+: ρ') (P : PE c f m ex ρ Φ Q) : PE c f m ex ρ' Φ Q :=
  fun v H' ρ'' h' tk' x a b r s => P v H' ρ'' h' tk' x a (h.trans b) r s
/-- the names at hand -/
structure EnvOK (f : Fx) (c : Cx) (me : ME) (env : Env) (m : PySem.Str → Option Value) (ex : List (Addr × Obj)) (ρ : List Addr) : Prop where
  kind : env.scope.kind = .function
  gl : env.globals = mainGlobals
  bi : env.builtins = builtinsNs
  loc : ∃ m', (env.locals = f.L ∧ m' = m ∨ ∃ oC, (env.locals, oC) ∈ ex ∧ LCg.NsObj oC m') ∧ ∀ x v, lookc x me.loc = some v → lookc x me.cl = none → x < tb.length ∧ env.kindOf (nm x) = some .local ∧ ∃ y, m' (nm x) = some y ∧ RV c.val ρ v y
  cl : ∀ x k, lookc x me.cl = some k → x < tb.length ∧ env.kindOf (nm x) = some .cell ∧ ∃ a, ρ[k]? = some a ∧ env.cells.lookup (nm x) = some a
  gs : ∀ x, hasc x me.gl = true → x < tb.length ∧ env.kindOf (nm x) = some .globalImplicit
  ls : ∀ x, hasc x me.lc = true → x < tb.length ∧ env.kindOf (nm x) = some .local
theorem EnvOK.up {me : ME} {env : Env} (h : ρ <+: ρ') (e : EnvOK f c me env m ex ρ) : EnvOK f c me env m ex ρ' where
  kind := e.kind
  gl := e.gl
  bi := e.bi
  loc := let ⟨m', a, b⟩ := e.loc; ⟨m', a, fun x v p q => let ⟨l, k, y, r, s⟩ := b x v p q; ⟨l, k, y, r, s.up h⟩⟩
  cl := fun x k p => let ⟨l, q, a, r, s⟩ := e.cl x k p; ⟨l, q, a, by
    obtain ⟨t, rfl⟩ := h
    rw [List.getElem?_append_left (List.getElem?_eq_some_iff.mp r).1]; exact r, s⟩
  gs := e.gs
  ls := e.ls
end
end N
end Mine
end
section
open PySem PySem.W PyProof.Rows PySem.Calls
set_option Elab.async false
set_option maxRecDepth 100000
set_option maxHeartbeats 1000000
namespace Mine
namespace N
noncomputable abbrev need (n : Nat) : Nat := 3 * n + 10
noncomputable def room (f : Fx) (n : Nat) : Prop := f.dp + need n < recursionLimit ∧ f.un + 8 * need n < cLine
/-- an AdaRaise: the object, its attributes, the head of its traceback -/
structure ExcO (Lo : Option Addr) (w : Nat) (oe : Obj) (d : Addr) (od : Obj) (tr : List (Addr × Obj)) : Prop where
  cls : oe.cls = .ref 70
  dict : oe.dict = some d
  word : ∃ tk, lookIn "word" od = some (some (.str (nm w) tk))
  nf : ∀ vs, od.data ≠ .fields vs
  trk : ∃ vs, oe.data = .fields vs ∧ ((tr = [] ∧ vs[1]? = some .none) ∨ ∃ T oT ts fl, tr = [(T, oT)] ∧ vs[1]? = some (.ref T) ∧ oT.data = .fields ts ∧ ts[3]? = some fl ∧ (fl = .none ∨ ∃ L, Lo = some L ∧ fl = rawInt L))
  lt : w < tb.length
/-- what a call gives back, as a value -/
inductive RFv (val : Nat → Int) (ρ : List Addr) : Fl → Value → Prop
  | next : RFv val ρ .next .none
  | ret {v : V} {x : Value} : RV val ρ v x → RFv val ρ (.ret v) x
/-- what flows out of a statement -/
inductive RF (val : Nat → Int) (ρ : List Addr) : Fl → Flow → Prop
  | next : RF val ρ .next .next
  | cont : RF val ρ .cont .cont
  | ret {v : V} {x : Value} : RV val ρ v x → RF val ρ (.ret v) (.ret x)
section
variable (c : Cx)
/-- an exception is on its way through this activation -/
noncomputable def RX (f : Fx) (m : PySem.Str → Option Value) (ex : List (Addr × Obj)) (ρ : List Addr) (H : Hp) (h : Heap) (w : Nat) (a : Addr) : Prop :=
  ∃ oe d od tr, Rl c f m ((a, oe) :: (d, od) :: (tr ++ ex)) ρ H h ∧ ExcO (some f.L) w oe d od tr
/-- how a call ends -/
noncomputable def OutX (ρ : List Addr) (Ψ : Fl → Hp → Prop) (b : Bool) (r : Value) (mu' : List (Addr × Obj)) : Prop := match b with
  | false => ∃ fl ρ' H', Ψ fl H' ∧ ρ <+: ρ' ∧ Led c ρ' ρ' H' mu' ∧ (mu'.map (·.1)).Nodup ∧ RFv c.val ρ' fl r
  | true => ∃ w a oe d od tr led ρ' H', r = .ref a ∧ Ψ (.exc w) H' ∧ ρ <+: ρ' ∧ Led c ρ' ρ' H' led ∧ mu' = (a, oe) :: (d, od) :: (tr ++ led) ∧ (mu'.map (·.1)).Nodup ∧ ExcO none w oe d od tr
noncomputable def PB (f : Fx) (m : PySem.Str → Option Value) (ex : List (Addr × Obj)) (ρ : List Addr) (Φ : Bool → Hp → Prop) (Q : Bool → Shared → Prop) : Prop :=
  ∀ b H' ρ' h' tk', Φ b H' → ρ <+: ρ' → Rl c f m ex ρ' H' h' → Q b (f.st h' tk')
noncomputable def PEs (f : Fx) (m : PySem.Str → Option Value) (ex : List (Addr × Obj)) (ρ : List Addr) (k : Nat) (Φ : List V → Hp → Prop) (Q : List Value → Shared → Prop) : Prop :=
  ∀ vs H' ρ' h' tk' xs, vs.length = k → Φ vs H' → ρ <+: ρ' → Rl c f m ex ρ' H' h' → RVs c.val ρ' vs xs → Q xs (f.st h' tk')
noncomputable def PX (f : Fx) (m : PySem.Str → Option Value) (ex : List (Addr × Obj)) (ρ : List Addr) (Ψ : Fl → Hp → Prop) (Q E : Value → Shared → Prop) : Prop :=
  (∀ fl H' ρ' h' tk' x, Ψ fl H' → ρ <+: ρ' → Rl c f m ex ρ' H' h' → RFv c.val ρ' fl x → Q x (f.st h' tk')) ∧ ∀ w a H' ρ' h' tk', Ψ (.exc w) H' → ρ <+: ρ' → RX c f m ex ρ' H' h' w a → E (.ref a) (f.st h' tk')
noncomputable def XS (f : Fx) (ex : List (Addr × Obj)) (ρ : List Addr) (Ψ : Fl → ME → Hp → Prop) (E : Value → Shared → Prop) : Prop :=
  ∀ w a me' H' m' ρ' h' tk', Ψ (.exc w) me' H' → ρ <+: ρ' → RX c f m' ex ρ' H' h' w a → EnvOK f c me' f.env m' ex ρ' → E (.ref a) (f.st h' tk')
noncomputable def PS (f : Fx) (ex : List (Addr × Obj)) (ρ : List Addr) (Ψ : Fl → ME → Hp → Prop) (Q : Flow → Shared → Prop) (E : Value → Shared → Prop) : Prop :=
  (∀ fl me' H' m' ρ' h' tk' fr, Ψ fl me' H' → ρ <+: ρ' → Rl c f m' ex ρ' H' h' → EnvOK f c me' f.env m' ex ρ' → RF c.val ρ' fl fr → Q fr (f.st h' tk')) ∧ XS c f ex ρ Ψ E
end
section
variable (c : Cx) (mean : ExcName → Option Value) (mg mb : PySem.Str → Option Value) (orc : Orc) (n : Nat)
/-- a contract, of a call's code -/
noncomputable def CtQ (fa : Addr) (args : Args) (ρ : List Addr) (H : Hp) (Ψ : Fl → Hp → Prop) : Prop :=
  ∀ led, Led c ρ ρ H led → (led.map (·.1)).Nodup → ∀ (dp un : Nat) (gd : Option (List Code)) (outer : List Env) (base g : Heap) (h₁ : Heap) (gn : Array GenState) (dr : Drawn) (tk : Nat) (os : OsState) (R : Result → Shared → Prop),
    Below (ctA dp un gd outer) base outer g → g.StaysIn h₁ → g.objs.size = h₁.objs.size → (∀ p ∈ led, h₁.get? p.1 = some p.2 ∧ g.get? p.1 = none) → (hdA.heap_1_39 c.w.params).In base → TopW mean mg mb base →
    (hdA.heap_1_39 c.w.params).In g → TopW mean mg mb g → dp + need n < recursionLimit → un + 8 * need n < cLine →
    (∀ (b : Bool) (r : Value) (mu' : List (Addr × Obj)) (h' : Heap) (tk' : Nat), (hideAll g (frs outer)).StaysIn h' → (∀ b o, b ∈ frs outer → g.get? b = some o → ∃ sl, h'.get? b = some { o with slots := sl }) → (∀ p ∈ mu', h'.get? p.1 = some p.2 ∧ g.get? p.1 = none) → OutX c ρ Ψ b r mu' → R (match b with | false => .ok (.ret r) | true => .error r) ⟨h', gn, dr, tk', os⟩) →
    codeAny (model prg c.w) (ctA dp un gd outer) (.call (.ref fa) args) R ⟨h₁, gn, dr, tk, os⟩
/-- the same, of a call -/
noncomputable def CtM (fa : Addr) (args : Args) (ρ : List Addr) (H : Hp) (Ψ : Fl → Hp → Prop) : Prop :=
  ∀ led, Led c ρ ρ H led → (led.map (·.1)).Nodup → ∀ (dp un : Nat) (gd : Option (List Code)) (outer : List Env) (base g : Heap) (h₁ : Heap) (gn : Array GenState) (dr : Drawn) (tk : Nat) (os : OsState) (Q E : Value → Shared → Prop),
    Below (ctA dp un gd outer) base outer g → g.StaysIn h₁ → g.objs.size = h₁.objs.size → (∀ p ∈ led, h₁.get? p.1 = some p.2 ∧ g.get? p.1 = none) → (hdA.heap_1_39 c.w.params).In base → TopW mean mg mb base →
    (hdA.heap_1_39 c.w.params).In g → TopW mean mg mb g → dp + need n < recursionLimit → un + 8 * need n < cLine →
    (∀ (b : Bool) (r : Value) (mu' : List (Addr × Obj)) (h' : Heap) (tk' : Nat), (hideAll g (frs outer)).StaysIn h' → (∀ b o, b ∈ frs outer → g.get? b = some o → ∃ sl, h'.get? b = some { o with slots := sl }) → (∀ p ∈ mu', h'.get? p.1 = some p.2 ∧ g.get? p.1 = none) → OutX c ρ Ψ b r mu' → (match b with | false => Q | true => E) r ⟨h', gn, dr, tk', os⟩) →
    wpAny (model prg c.w) (ctA dp un gd outer) (call (.ref fa) args.pos args.kw) Q E ⟨h₁, gn, dr, tk, os⟩
noncomputable def SoundE : Prop :=
  ∀ (f : Fx) (m : PySem.Str → Option Value) (ex : List (Addr × Obj)) (ρ : List Addr) (H : Hp) (h : Heap) (tk : Nat) (me : ME) (env : Env) (e : PySem.Expr) (Φ : V → Hp → Prop) (Q : Value → Shared → Prop),
    FxOK c mean mg mb f → (run orc n).E me (cE e) H Φ → Rl c f m ex ρ H h → EnvOK f c me env m ex ρ → room f n → PE c f m ex ρ Φ Q → wpAny (model prg c.w) f.A (eval e env) Q (fun _ _ => False) (f.st h tk)
noncomputable def SoundT : Prop :=
  ∀ (f : Fx) (m : PySem.Str → Option Value) (ex : List (Addr × Obj)) (ρ : List Addr) (H : Hp) (h : Heap) (tk : Nat) (me : ME) (env : Env) (e : PySem.Expr) (Φ : Bool → Hp → Prop) (Q : Bool → Shared → Prop),
    FxOK c mean mg mb f → (run orc n).T me (cE e) H Φ → Rl c f m ex ρ H h → EnvOK f c me env m ex ρ → room f n → PB c f m ex ρ Φ Q → wpAny (model prg c.w) f.A (isTrue e env (eval e env)) Q (fun _ _ => False) (f.st h tk)
noncomputable def SoundC : Prop :=
  ∀ (f : Fx) (m : PySem.Str → Option Value) (ex : List (Addr × Obj)) (ρ : List Addr) (H : Hp) (h : Heap) (tk : Nat) (v : V) (vs : List V) (x : Value) (xs : List Value) (Φ : V → Hp → Prop) (Q : Value → Shared → Prop),
    FxOK c mean mg mb f → (run orc n).C v vs H Φ → Rl c f m ex ρ H h → RV c.val ρ v x → RVs c.val ρ vs xs → room f n → PE c f m ex ρ Φ Q → wpAny (model prg c.w) f.A (call x xs) Q (fun _ _ => False) (f.st h tk)
noncomputable def SoundX : Prop :=
  ∀ (f : Fx) (m : PySem.Str → Option Value) (ex : List (Addr × Obj)) (ρ : List Addr) (H : Hp) (h : Heap) (tk : Nat) (a : Nat) (vs : List V) (xs : List Value) (Ψ : Fl → Hp → Prop) (Q E : Value → Shared → Prop),
    FxOK c mean mg mb f → (run orc n).X a vs H Ψ → Rl c f m ex ρ H h → RVs c.val ρ vs xs → room f n → PX c f m ex ρ Ψ Q E → wpAny (model prg c.w) f.A (call (.ref a) xs) Q E (f.st h tk)
noncomputable def SoundS : Prop :=
  ∀ (f : Fx) (m : PySem.Str → Option Value) (ex : List (Addr × Obj)) (ρ : List Addr) (H : Hp) (h : Heap) (tk : Nat) (me : ME) (ss : List Stmt) (Ψ : Fl → ME → Hp → Prop) (Q : Flow → Shared → Prop) (E : Value → Shared → Prop),
    FxOK c mean mg mb f → (run orc n).S me (cSs ss) H Ψ → Rl c f m ex ρ H h → EnvOK f c me f.env m ex ρ → room f n → PS c f ex ρ Ψ Q E → wpAny (model prg c.w) f.A (execs ss f.env) Q E (f.st h tk)
/-- a comprehension stored into a local -/
noncomputable def SoundLA : Prop :=
  ∀ (f : Fx) (m : PySem.Str → Option Value) (ex : List (Addr × Obj)) (ρ : List Addr) (H : Hp) (h : Heap) (tk : Nat) (me : ME) (e : PySem.Expr) (gs : List Comprehension) (sc : Scope) (pos : Pos) (y : PySem.Str) (py spos : Pos) (Φ : ME → Hp → Prop) (Q : Flow → Shared → Prop),
    FxOK c mean mg mb f → inT y = true → swapsWith (.ListComp e gs sc pos) (some (.Name y py)) spos.line f.env = pure true → (run orc n).E me (cE (.ListComp e gs sc pos)) H (fun v H => bindN me (cod y) v H Φ) → Rl c f m ex ρ H h → EnvOK f c me f.env m ex ρ → room f n →
    (∀ me' H' m' ρ' h' tk', Φ me' H' → ρ <+: ρ' → Rl c f m' ex ρ' H' h' → EnvOK f c me' f.env m' ex ρ' → Q .next (f.st h' tk')) →
    wpAny (model prg c.w) f.A (exec (.Assign [.Name y py] (.ListComp e gs sc pos) spos) f.env) Q (fun _ _ => False) (f.st h tk)
/-- what a def's call does, of itself -/
noncomputable def SoundM : Prop := ∀ (a : Nat) (vs : List V) (xs : List Value) (ρ : List Addr) (H : Hp) (Ψ : Fl → Hp → Prop), (run orc n).X a vs H Ψ → RVs c.val ρ vs xs → CtM c mean mg mb n a ⟨xs, []⟩ ρ H Ψ
/-- what the oracle says is so -/
structure OrcOK : Prop where
  says : ∀ n a vs H v H' ρ xs Φ, orc n a vs H = some (v, H') → Φ v H' → RVs c.val ρ vs xs → CtM c mean mg mb n a ⟨xs, []⟩ ρ H (retF Φ)
  init : ∀ n p vs H, p ∈ clss → orc n p.2 vs H = none
end
/-- what the whole of the soundness speaks of, as one datum -/
structure Z where
  c : Cx
  mean : ExcName → Option Value
  mg : PySem.Str → Option Value
  mb : PySem.Str → Option Value
  orc : Orc
/-- the evaluator tells rightly what the machine does -/
noncomputable def ZP (z : Z) : Prop := OrcOK z.c z.mean z.mg z.mb z.orc → ∀ n, SoundE z.c z.mean z.mg z.mb z.orc n ∧ SoundT z.c z.mean z.mg z.mb z.orc n ∧ SoundS z.c z.mean z.mg z.mb z.orc n ∧ SoundC z.c z.mean z.mg z.mb z.orc n ∧ SoundX z.c z.mean z.mg z.mb z.orc n ∧ SoundLA z.c z.mean z.mg z.mb z.orc n ∧ SoundM z.c z.mean z.mg z.mb z.orc n
theorem z_ne : Nonempty Z := ⟨⟨⟨fun _ => 0, rfl, fun _ => ⟨by decide, by decide⟩, ⟨fun _ _ => 0, { strHash := fun _ => 0, shareClass := fun _ => 0, mergeTok := id, idOf := fun _ => 0, idOfShared := fun _ _ => 0, followText := fun _ => false, idOfImm := fun _ => 0 }⟩, fun _ _ _ => False, fun _ _ _ h => h.elim, fun _ _ _ _ h => h.elim⟩, fun _ => none, fun _ => none, fun _ => none, fun _ _ _ _ => none⟩⟩
/-- a datum at which a claim fails, if it fails anywhere -/
theorem drinker {α : Type} (ne : Nonempty α) (P : α → Prop) : ∃ z, P z → ∀ z', P z' := by
  by_cases h : ∀ z', P z'
  · exact ne.elim fun z => ⟨z, fun _ => h⟩
  · obtain ⟨z, hz⟩ := Classical.not_forall.mp h
    exact ⟨z, fun x => absurd x hz⟩
theorem z_ex : ∃ z, ZP z → ∀ z', ZP z' := drinker z_ne ZP
@[irreducible] noncomputable def zz : Z := Classical.choose z_ex
@[irreducible] noncomputable def c : Cx := zz.c
@[irreducible] noncomputable def mean : ExcName → Option Value := zz.mean
@[irreducible] noncomputable def mg : PySem.Str → Option Value := zz.mg
@[irreducible] noncomputable def mb : PySem.Str → Option Value := zz.mb
@[irreducible] noncomputable def orc : Orc := zz.orc
end N
end Mine
end
section
open PySem PySem.W PyProof.Rows PySem.Calls
set_option Elab.async false
set_option maxRecDepth 100000
set_option maxHeartbeats 1000000
namespace Mine
namespace N
section
variable {f : Fx} {m : PySem.Str → Option Value} {ex : List (Addr × Obj)} {ρ : List Addr} {H : Hp} {h : Heap} {n : Nat} {fa : Addr} {xs : List Value} {Ψ : Fl → Hp → Prop} {Q E : Value → Shared → Prop} {tk : Nat}
theorem CtQ.toM (q : CtQ c mean mg mb n fa args ρ H Ψ) : CtM c mean mg mb n fa args ρ H Ψ := by
  intro led l nd dp un gd outer base g h₁ gn dr tk os Q E B hs hz N Xb Tb X T hdp hu ret
  exact wpAny_call (q led l nd dp un gd outer base g h₁ gn dr tk os _ B hs hz N Xb Tb X T hdp hu fun b r mu' h' tk' a b' d e => by
    have := ret b r mu' h' tk' a b' d e
    cases b <;> exact this)
theorem ExcO.some {w : Nat} {oe : Obj} {d : Addr} {od : Obj} {tr : List (Addr × Obj)} (x : ExcO none w oe d od tr) {L : Addr} : ExcO (some L) w oe d od tr := by
  obtain ⟨a, b, e, g, ⟨vs, i, j⟩, k⟩ := x
  refine ⟨a, b, e, g, ⟨vs, i, ?_⟩, k⟩
  rcases j with j | ⟨T, oT, ts, fl, j1, j2, j3, j4, j5⟩
  · exact .inl j
  · rcases j5 with j5 | ⟨L', z, _⟩
    · exact .inr ⟨T, oT, ts, fl, j1, j2, j3, j4, .inl j5⟩
    · cases z
/-- the ground below an activation: all but the ledger -/
theorem Rl.ground (K : FxOK c mean mg mb f) (R : Rl c f m ex ρ H h) {hid : List Addr} (hb : ∀ a ∈ hid, f.gz.get? a = none ∧ a ≠ f.L ∧ a ∉ frs f.outer) : f.gz.StaysIn (hideAll h hid) ∧ (hideAll h hid).FunFrames f.base (f.env :: f.outer) ∧
    (∀ b o, b ∈ frs f.outer → f.g.get? b = some o → ∃ sl, (hideAll h hid).get? b = some { o with slots := sl }) ∧ ∃ oL, (hideAll h hid).get? f.L = some oL := by
  obtain ⟨F, fs, led, l, hfs, hfo, N, nd, off⟩ := R
  obtain ⟨oL, es, ep, hL, hLd, r3⟩ := F.ns
  have hLG : (hideAll h hid).get? f.L = some oL := hideAll_get _ hL fun hm => (hb _ hm).2.1 rfl
  have gzG : f.gz.StaysIn (hideAll h hid) := fun b o e => hideAll_get _ (F.keep b o e) fun hm => by rw [(hb _ hm).1] at e; cases e
  have frG : ∀ b o, b ∈ frs f.outer → f.g.get? b = some o → ∃ sl, (hideAll h hid).get? b = some { o with slots := sl } := fun b o hm e => by
    obtain ⟨sl, q⟩ := hfs b o hm e
    exact ⟨sl, hideAll_get _ (N _ (List.mem_append_right _ (List.mem_append_right _ q))).1 fun hm' => (hb _ hm').2.2 hm⟩
  have hLb : f.base.get? f.L = none := by
    cases q : f.base.get? f.L with
    | none => rfl
    | some o => exact absurd (Heap.lt_size (K.gst _ _ q)) (Nat.not_lt.mpr F.above)
  refine ⟨gzG, ⟨by rw [K.kind]; decide, ⟨f.L, oL, K.frame, hLb, hLG, fun vs q => by rw [hLd] at q; cases q⟩, ?_⟩, frG, oL, hLG⟩
  exact K.frames.of_keeps fun b o e _ => by
    by_cases hm : b ∈ frs f.outer
    · obtain ⟨sl, q⟩ := frG b o hm e
      exact ⟨_, q, rfl⟩
    · exact ⟨o, gzG b o (hideAll_get _ e hm), rfl⟩
theorem perm4 {α : Type} {a b : α} {t x l : List α} : (x ++ a :: b :: (t ++ l)).Perm (a :: b :: (t ++ x) ++ l) := by
  have h1 : (x ++ (a :: b :: t) ++ l).Perm ((a :: b :: t) ++ x ++ l) := List.Perm.append_right l List.perm_append_comm
  simpa using h1
/-- a contract at work -/
theorem call_use (K : FxOK c mean mg mb f) (R : Rl c f m ex ρ H h) (C : CtM c mean mg mb n fa args ρ H Ψ) (hdp : f.dp + need n < recursionLimit) (hu : f.un + 8 * need n < cLine) (ret : PX c f m ex ρ Ψ Q E) :
    wpAny (model prg c.w) f.A (call (.ref fa) args.pos args.kw) Q E (f.st h tk) := by
  have R0 := R
  obtain ⟨F, fs, led, l, hfs, hfo, N, nd, off⟩ := R
  have ndl : (led.map (·.1)).Nodup := by
    rw [List.map_append] at nd
    exact (List.nodup_append.mp nd).2.1
  have Nl : ∀ p ∈ led, h.get? p.1 = some p.2 ∧ p.1 ≠ f.L ∧ f.gz.get? p.1 = none := fun p hp => N p (List.mem_append_right _ (List.mem_append_left _ hp))
  obtain ⟨gzG, FF, frG, oL, hLG⟩ := R0.ground K (hid := led.map (·.1)) fun a ha => by
    obtain ⟨p, hp, rfl⟩ := List.mem_map.mp ha
    exact ⟨(Nl p hp).2.2, (Nl p hp).2.1, off p (List.mem_append_right _ hp)⟩
  generalize hGG : hideAll h (led.map (·.1)) = G at gzG FF frG hLG
  have bG : f.base.StaysIn G := fun b o e => gzG b o (K.gst b o e)
  refine C led l ndl f.dp f.un f.gd (f.env :: f.outer) f.base G h f.gn f.dr tk f.os Q E ⟨rfl, bG, FF⟩ (fun b o e => by rw [← hGG] at e; exact of_hideAll _ e) (by rw [← hGG]; exact hideAll_size _ _) (fun p hp => ⟨(Nl p hp).1, by rw [← hGG]; exact hideAll_none _ (List.mem_map_of_mem hp)⟩) K.Xb K.Tb (K.Xb.keeps bG) (K.Tb.keeps bG) hdp hu ?_
  intro b r mu' h' tk' s1 s2 s3 o
  have hLm : f.L ∈ frs (f.env :: f.outer) := List.mem_filterMap.mpr ⟨f.env, .head _, K.frame⟩
  have frO : ∀ b, b ∈ frs (f.env :: f.outer) → b = f.L ∨ b ∈ frs f.outer := fun b hb => by
    obtain ⟨e', he', hf'⟩ := List.mem_filterMap.mp hb
    rcases List.mem_cons.mp he' with rfl | he'
    · rw [K.frame] at hf'; cases hf'; exact .inl rfl
    · exact .inr (List.mem_filterMap.mpr ⟨e', he', hf'⟩)
  have frI : ∀ b, b ∈ frs f.outer → b ∈ frs (f.env :: f.outer) := fun b hb => by
    obtain ⟨e', he', hf'⟩ := List.mem_filterMap.mp hb
    exact List.mem_filterMap.mpr ⟨e', .tail _ he', hf'⟩
  obtain ⟨slL, hL'⟩ := s2 f.L oL hLm hLG
  have keep : ∀ b o, G.get? b = some o → b ∉ frs (f.env :: f.outer) → h'.get? b = some o := fun b o e q => s1 b o (hideAll_get _ e q)
  have gzk : ∀ b o, f.gz.get? b = some o → h'.get? b = some o := fun b o e => keep b o (gzG b o e) fun q => by
    rcases frO b q with rfl | q
    · exact absurd (Heap.lt_size e) (Nat.not_lt.mpr F.above)
    · rw [hideAll_none _ q] at e; cases e
  have Gn : ∀ a, G.get? a = none → f.gz.get? a = none := fun a e => by
    cases q : f.gz.get? a with
    | none => rfl
    | some o => rw [gzG _ _ q] at e; cases e
  have exk : ∀ p ∈ ex, G.get? p.1 = some p.2 := fun p hp => by
    rw [← hGG]
    refine hideAll_get _ (N p (List.mem_append_left _ hp)).1 fun hm => ?_
    obtain ⟨q, hq, e⟩ := List.mem_map.mp hm
    rw [List.map_append] at nd
    exact (List.nodup_append.mp nd).2.2 _ (List.mem_map_of_mem hp) _ (List.mem_map_of_mem hq) e.symm
  have exf : ∀ p ∈ ex, p.1 ∉ frs (f.env :: f.outer) := fun p hp q => by
    rcases frO _ q with q | q
    · exact (N p (List.mem_append_left _ hp)).2.1 q
    · exact off p (List.mem_append_left _ hp) q
  obtain ⟨oL', esL, epL, hL2, hLd2, r3⟩ := F.ns
  have eL : oL' = oL := by
    have : h.get? f.L = some oL := of_hideAll _ (hGG ▸ hLG)
    rw [hL2] at this; exact Option.some.inj this
  subst eL
  have F' : Fr f.gz f.L h' m := ⟨⟨_, esL, epL, hL', hLd2, r3⟩, gzk, F.above⟩
  let fs' : List (Addr × Obj) := (frs f.outer).filterMap fun b => (h'.get? b).map (b, ·)
  have A1 : FsOf f.g f.outer fs' := fun b o hb e => by
    obtain ⟨sl, q⟩ := frG b o hb e
    obtain ⟨sl', q'⟩ := s2 b _ (frI b hb) q
    exact ⟨sl', List.mem_filterMap.mpr ⟨b, hb, by rw [q']; rfl⟩⟩
  have A2 : ∀ p ∈ fs', p.1 ∈ frs f.outer := fun p hp => by
    obtain ⟨b, hb, q⟩ := List.mem_filterMap.mp hp
    obtain ⟨o, _, rfl⟩ := Option.map_eq_some_iff.mp q
    exact hb
  have Nf : ∀ p ∈ fs', h'.get? p.1 = some p.2 ∧ p.1 ≠ f.L ∧ f.gz.get? p.1 = none := fun p hp => by
    obtain ⟨b, hb, q⟩ := List.mem_filterMap.mp hp
    obtain ⟨o, e, rfl⟩ := Option.map_eq_some_iff.mp q
    refine ⟨e, fun (q : b = f.L) => ?_, hideAll_none _ hb⟩
    obtain ⟨o', ho', _⟩ := (K.frames.mem hb).2
    have := Heap.lt_size ho'
    rw [q] at this
    exact absurd this (Nat.not_lt.mpr (by have := F.above; rw [hideAll_size] at this; exact this))
  have Nm : ∀ p ∈ mu', h'.get? p.1 = some p.2 ∧ p.1 ≠ f.L ∧ f.gz.get? p.1 = none := fun p hp => ⟨(s3 p hp).1, fun (q : p.1 = f.L) => (by have := (s3 p hp).2; rw [q, hLG] at this; cases this), Gn _ (s3 p hp).2⟩
  have Ne : ∀ p ∈ ex, h'.get? p.1 = some p.2 ∧ p.1 ≠ f.L ∧ f.gz.get? p.1 = none := fun p hp => ⟨keep _ _ (exk p hp) (exf p hp), (N p (List.mem_append_left _ hp)).2⟩
  have ndm : (mu'.map (·.1)).Nodup → ((ex ++ mu').map (·.1)).Nodup := fun nd' => by
    rw [List.map_append, List.nodup_append]
    rw [List.map_append] at nd
    refine ⟨(List.nodup_append.mp nd).1, nd', fun a ha b hb e => ?_⟩
    obtain ⟨p, hp, rfl⟩ := List.mem_map.mp ha
    obtain ⟨q, hq, rfl⟩ := List.mem_map.mp hb
    have := (s3 q hq).2
    rw [← e, exk p hp] at this; cases this
  have offm : ∀ p ∈ ex ++ mu', p.1 ∉ frs f.outer := fun p hp => by
    rcases List.mem_append.mp hp with hp | hp
    · exact off p (List.mem_append_left _ hp)
    · intro q
      obtain ⟨o', ho', _⟩ := (K.frames.mem q).2
      obtain ⟨sl, q'⟩ := frG _ _ q ho'
      rw [(s3 p hp).2] at q'; cases q'
  have Na : ∀ p ∈ ex ++ mu', h'.get? p.1 = some p.2 ∧ p.1 ≠ f.L ∧ f.gz.get? p.1 = none := fun p hp => (List.mem_append.mp hp).elim (Ne p) (Nm p)
  cases b with
  | false =>
    obtain ⟨fl, ρ', H', hΨ, hp, l', nd', rv⟩ := o
    refine ret.1 fl H' ρ' h' tk' r hΨ hp ⟨F', fs', mu', l', A1, A2, fun p hp => ?_, ndm nd', offm⟩ rv
    rw [← List.append_assoc] at hp
    exact (List.mem_append.mp hp).elim (Na p) (Nf p)
  | true =>
    obtain ⟨w, a, oe, d, od, tr, led', ρ', H', rfl, hΨ, hp, l', rfl, nd', xo⟩ := o
    refine ret.2 w a H' ρ' h' tk' hΨ hp ⟨oe, d, od, tr, ⟨F', fs', led', l', A1, A2, fun p hp => ?_, ?_, fun p hp => offm p (perm4.mem_iff.mpr hp)⟩, xo.some⟩
    · rw [← List.append_assoc] at hp
      exact (List.mem_append.mp hp).elim (fun h => Na p (perm4.mem_iff.mpr h)) (Nf p)
    · exact ((List.Perm.map (fun p : Addr × Obj => p.1) perm4).nodup_iff).mp (ndm nd')
end
end N
end Mine
end
section
open PySem PySem.W PyProof.Rows PySem.Calls
set_option Elab.async false
set_option maxRecDepth 100000
set_option maxHeartbeats 1000000
namespace Mine
namespace N
theorem tb_nodup : (tb.map PySem.Str.ofString).Nodup := by decide +kernel
theorem nm_eq {a : Nat} (h : a < tb.length) : (tb.map PySem.Str.ofString)[a]? = some (nm a) := by
  rw [List.getElem?_map, List.getElem?_eq_getElem h]
  unfold nm
  rw [List.getD_eq_getElem?_getD, List.getElem?_eq_getElem h]
  rfl
theorem nm_inj {a b : Nat} (ha : a < tb.length) (hb : b < tb.length) (h : nm a = nm b) : a = b := by
  have e1 := nm_eq ha
  have e2 := nm_eq hb
  rw [← h] at e2
  exact (List.getElem?_inj (by rw [List.length_map]; exact ha) tb_nodup).mp (e1.trans e2.symm)
theorem nm_cod {s : PySem.Str} (h : inT s = true) : nm (cod s) = s ∧ cod s < tb.length := by
  have h' : cod s < tb.length := of_decide_eq_true h
  refine ⟨?_, h'⟩
  have hl : (tb.map PySem.Str.ofString).idxOf s < (tb.map PySem.Str.ofString).length := by rw [List.length_map]; exact h'
  have := List.getElem_idxOf hl
  have e : (tb.map PySem.Str.ofString)[(tb.map PySem.Str.ofString).idxOf s]? = some (nm (cod s)) := nm_eq h'
  rw [List.getElem?_eq_getElem hl] at e
  exact (Option.some.inj e).symm.trans this
/-- a def's scope and our view of it -/
noncomputable def scopeChk (sc : Scope) (fi : FI) : Bool :=
  sc.isCoroutine == false && sc.isGenerator == false && sc.kind == .function &&
  fi.ps.all (fun p => decide (p < tb.length) && sc.names.lookup (nm p) == some (if hasc p fi.cs then .cell else .local)) &&
  fi.cs.all (fun x => decide (x < tb.length) && sc.names.lookup (nm x) == some .cell) &&
  fi.gl.all (fun x => decide (x < tb.length) && sc.names.lookup (nm x) == some .globalImplicit) &&
  fi.ls.all (fun x => decide (x < tb.length) && sc.names.lookup (nm x) == some .local) &&
  (cellsFrom 0 sc.names []).map (·.1) == fi.cs.map nm && decide fi.ps.Nodup && decide fi.cs.Nodup
/-- a def as it lies in the heap -/
structure FunIs (w : World) (fa : Addr) (fi : FI) (ob : Obj) (fd : FuncData) (body : List Stmt) : Prop where
  at_ : (hdA.heap_1_39 w.params).lookup fa = some ob
  data : ob.data = .func fd
  bd : fd.body = .stmts body
  comp : cSs body = fi.body
  code : codeIn (hdA.heap_1_39 w.params) fd.code fd.qualname = true
  gl : fd.globals = mainGlobals
  cl : fd.closure = []
  bi : fd.builtins = builtinsNs
  sc : scopeChk fd.scope fi = true
noncomputable def FunOK (w : World) (fa : Addr) (fi : FI) : Prop := ∃ ob fd body, FunIs w fa fi ob fd body ∧ ∀ xs : List Value, xs.length = fi.ps.length → bindArgs fd ⟨xs, []⟩ = pure ((fi.ps.map nm).zip xs)
theorem hasc_iff {c : Nat} : ∀ {l : List Nat}, hasc c l = true ↔ c ∈ l
  | [] => by simp [hasc]
  | d :: r => by
    simp only [hasc, List.mem_cons]
    by_cases h : d = c
    · simp [h]
    · rw [if_neg h, hasc_iff]
      constructor
      · exact .inr
      · rintro (h' | h')
        · exact absurd h'.symm h
        · exact h'
theorem bindL_other {k : PySem.Str → Option NameKind} {n : PySem.Str} : ∀ {b : List (PySem.Str × Value)} {m : PySem.Str → Option Value}, (∀ p ∈ b, p.1 ≠ n) → bindL k b m n = m n
  | [], _, _ => rfl
  | (x, v) :: r, m, h => by
    rw [bindL, bindL_other fun p hp => h p (.tail _ hp)]
    split
    · show (if n = x then some v else m n) = m n
      rw [if_neg fun e => h (x, v) (.head _) e.symm]
    · rfl
theorem bindC_other {k : PySem.Str → Option NameKind} {n : PySem.Str} : ∀ {b : List (PySem.Str × Value)} {m : PySem.Str → Option Value}, (∀ p ∈ b, p.1 ≠ n) → bindC k b m n = m n
  | [], _, _ => rfl
  | (x, v) :: r, m, h => by
    rw [bindC, bindC_other fun p hp => h p (.tail _ hp)]
    split
    · rfl
    · show (if n = x then some v else m n) = m n
      rw [if_neg fun e => h (x, v) (.head _) e.symm]
section
variable {val : Nat → Int} {ρ : List Addr}
theorem zip_other {x : Nat} {ps : List Nat} {xs : List Value} (hx : x < tb.length) (h : x ∉ ps) (hl : ∀ p ∈ ps, p < tb.length) : ∀ p ∈ (ps.map nm).zip xs, p.1 ≠ nm x := fun p hp e => by
  have := (List.of_mem_zip (show (p.1, p.2) ∈ _ from hp)).1
  obtain ⟨q, hq, e'⟩ := List.mem_map.mp this
  exact h (nm_inj (hl q hq) hx (e'.trans e) ▸ hq)
/-- what a parameter that is not captured holds -/
theorem bind_loc {k : PySem.Str → Option NameKind} {x : Nat} {v : V} {vs : List V} {xs : List Value} (rs : RVs val ρ vs xs) (hk : k (nm x) = some .local) : ∀ {ps : List Nat} {m : PySem.Str → Option Value}, ps.Nodup → (∀ p ∈ ps, p < tb.length) → lookc x (ps.zip vs) = some v →
    ∃ y, bindL k ((ps.map nm).zip xs) m (nm x) = some y ∧ RV val ρ v y := by
  induction rs with
  | nil => intro ps m _ _ h; rw [List.zip_nil_right] at h; cases h
  | @cons v' x' vs xs r _ ih =>
    intro ps m nd hl h
    cases ps with
    | nil => cases h
    | cons p ps =>
      rw [List.nodup_cons] at nd
      rw [List.zip_cons_cons, lookc] at h
      rw [List.map_cons, List.zip_cons_cons, bindL]
      by_cases e : p = x
      · subst e
        rw [if_pos rfl] at h
        cases h
        refine ⟨x', ?_, r⟩
        rw [bindL_other (zip_other (hl _ (.head _)) nd.1 fun q hq => hl q (.tail _ hq)), if_pos hk]
        exact if_pos rfl
      · rw [if_neg e] at h
        exact ih nd.2 (fun q hq => hl q (.tail _ hq)) h
/-- and one that is captured -/
theorem bind_cell {k : PySem.Str → Option NameKind} {x : Nat} (hx : x < tb.length) (hk : k (nm x) = some .cell) {vs : List V} {xs : List Value} (rs : RVs val ρ vs xs) : ∀ {ps : List Nat} {m : PySem.Str → Option Value}, ps.Nodup → (∀ p ∈ ps, p < tb.length) →
    (∀ v, lookc x (ps.zip vs) = some v → ∃ y, bindC k ((ps.map nm).zip xs) m (nm x) = some y ∧ RV val ρ v y) ∧ (lookc x (ps.zip vs) = none → bindC k ((ps.map nm).zip xs) m (nm x) = m (nm x)) := by
  induction rs with
  | nil =>
    intro ps m _ _
    rw [List.zip_nil_right, List.zip_nil_right]
    exact ⟨fun v h => (by cases h), fun _ => rfl⟩
  | @cons v' x' vs xs r _ ih =>
    intro ps m nd hl
    cases ps with
    | nil => exact ⟨fun v h => (by cases h), fun _ => rfl⟩
    | cons p ps =>
      rw [List.nodup_cons] at nd
      rw [List.zip_cons_cons, lookc, List.map_cons, List.zip_cons_cons, bindC]
      by_cases e : p = x
      · subst e
        rw [if_pos rfl, bindC_other (zip_other hx nd.1 fun q hq => hl q (.tail _ hq)), if_neg (by rw [hk]; decide)]
        exact ⟨fun v h => (by cases h; exact ⟨x', if_pos rfl, r⟩), fun h => (by cases h)⟩
      · rw [if_neg e]
        have hm : (if k (nm p) = some .local then m else fun y => if y = nm p then some x' else m y) (nm x) = m (nm x) := by
          split
          · rfl
          · exact if_neg fun z => e (nm_inj (hl p (.head _)) hx z.symm)
        have := ih (m := if k (nm p) = some .local then m else fun y => if y = nm p then some x' else m y) nd.2 fun q hq => hl q (.tail _ hq)
        rw [hm] at this
        exact this
end
theorem lookc_filter {x : Nat} {v : V} {cs : List Nat} : ∀ {b : List (Nat × V)}, lookc x (b.filter fun p => !hasc p.1 cs) = some v → lookc x b = some v ∧ hasc x cs = false
  | [], h => by simp [lookc] at h
  | (d, y) :: r, h => by
    simp only [List.filter] at h
    by_cases hd : hasc d cs = true
    · simp only [hd, Bool.not_true] at h
      have ih := lookc_filter h
      refine ⟨?_, ih.2⟩
      simp only [lookc]
      rw [if_neg fun e => by rw [e, ih.2] at hd; cases hd]
      exact ih.1
    · have hd' : hasc d cs = false := by simpa using hd
      simp only [hd', Bool.not_false, lookc] at h ⊢
      by_cases e : d = x
      · rw [if_pos e] at h ⊢
        exact ⟨h, e ▸ hd'⟩
      · rw [if_neg e] at h ⊢
        exact lookc_filter h
section
theorem cells_led {ρ₀ : List Addr} {cm : PySem.Str → Option Value} {b : List (Nat × V)} {cn : List (PySem.Str × Addr)} {cells : List (Addr × Obj)} (Y : CellsAre cm cn cells) : ∀ {cs : List Nat}, cn.map (·.1) = cs.map nm → (∀ x ∈ cs, (∀ v, lookc x b = some v → ∃ y, cm (nm x) = some y ∧ RV c.val ρ₀ v y) ∧ (lookc x b = none → cm (nm x) = none)) →
    Led c ρ₀ (cn.map (·.2)) (cs.map fun x => O.cell (lookc x b)) cells := by
  induction Y with
  | nil =>
    intro cs e _
    cases cs with
    | nil => exact .nil
    | cons _ _ => cases e
  | @cons n cc o cs' cells' d r ih =>
    intro cs e h
    cases cs with
    | nil => cases e
    | cons x cs =>
      rw [List.map_cons, List.map_cons, List.cons.injEq] at e
      have hx := h x (.head _)
      refine Led.cons (es := [_]) (.cell d ?_) (ih e.2 fun y hy => h y (.tail _ hy))
      have e1 : n = nm x := e.1
      rw [e1]
      cases q : lookc x b with
      | some v =>
        obtain ⟨y, q1, r1⟩ := hx.1 v q
        rw [q1]; exact .some r1
      | none =>
        rw [hx.2 q]; exact .none
theorem cells_fst {cm : PySem.Str → Option Value} {cn : List (PySem.Str × Addr)} {cells : List (Addr × Obj)} (Y : CellsAre cm cn cells) : cells.map (·.1) = cn.map (·.2) := by
  induction Y with
  | nil => rfl
  | cons _ _ ih => simp [ih]
theorem Led.app {ρ₀ ρ₁ ρ₂ : List Addr} {H₁ H₂ : Hp} {l₁ l₂ : List (Addr × Obj)} (a : Led c ρ₀ ρ₁ H₁ l₁) (b : Led c ρ₀ ρ₂ H₂ l₂) : Led c ρ₀ (ρ₁ ++ ρ₂) (H₁ ++ H₂) (l₁ ++ l₂) := by
  induction a with
  | nil => exact b
  | cons x _ ih => rw [List.append_assoc]; exact .cons x ih
theorem cellsFrom_map (k : List (PySem.Str × NameKind)) : ∀ (n n' : Nat) (a a' : List (PySem.Str × Addr)), a.map (·.1) = a'.map (·.1) → (cellsFrom n k a).map (·.1) = (cellsFrom n' k a').map (·.1) := by
  induction k with
  | nil => intro n n' a a' h; exact h
  | cons y r ih =>
    intro n n' a a' h
    simp only [cellsFrom]
    split
    · exact ih _ _ _ _ (by simp [h])
    · exact ih _ _ _ _ h
theorem cellsAt_get : ∀ {cs : List Nat} {n x k : Nat}, lookc x (cellsAt cs n) = some k → ∃ i, cs[i]? = some x ∧ k = n + i
  | [], _, _, _, h => by simp [cellsAt, lookc] at h
  | d :: cs, n, x, k, h => by
    simp only [cellsAt, lookc] at h
    by_cases e : d = x
    · rw [if_pos e] at h; cases h
      exact ⟨0, by simp [e], rfl⟩
    · rw [if_neg e] at h
      obtain ⟨i, a, b⟩ := cellsAt_get h
      exact ⟨i + 1, by simpa using a, by omega⟩
theorem cellsAt_none {x : Nat} : ∀ {cs : List Nat} {n : Nat}, lookc x (cellsAt cs n) = none → x ∉ cs
  | [], _, _ => by simp
  | d :: cs, n, h => by
    simp only [cellsAt, lookc] at h
    by_cases e : d = x
    · rw [if_pos e] at h; cases h
    · rw [if_neg e] at h
      simp only [List.mem_cons, not_or]
      exact ⟨fun z => e z.symm, cellsAt_none h⟩
theorem lookc_zip {x : Nat} {v : V} : ∀ {ps : List Nat} {vs : List V}, lookc x (ps.zip vs) = some v → x ∈ ps
  | [], _, h => by simp [lookc] at h
  | _ :: _, [], h => by simp [lookc] at h
  | p :: ps, y :: vs, h => by
    simp only [List.zip_cons_cons, lookc] at h
    by_cases e : p = x
    · rw [e]; exact .head _
    · rw [if_neg e] at h
      exact .tail _ (lookc_zip h)
end
end N
end Mine
end
section
open PySem PySem.W PyProof.Rows PySem.Calls
set_option Elab.async false
set_option maxRecDepth 100000
set_option maxHeartbeats 1000000
namespace Mine
section
variable {M : Model} {A : Around} {E : Value → Shared → Prop} {s : Shared} {PP : Obj → Prop}
noncomputable def MapOk (PP : Obj → Prop) : Prop := ∀ o f, PP o → PP (Obj.mapFields f o)
/-- an exception that has a traceback, with what is known of its object -/
noncomputable def TrD (PP : Obj → Prop) (h base : Heap) (e : Addr) (fl : Value) : Prop :=
  ∃ oe vs T oT ts, h.get? e = some oe ∧ PP oe ∧ oe.data = .fields vs ∧ vs[1]? = some (.ref T) ∧ base.get? T = none ∧ T ≠ e ∧ h.get? T = some oT ∧ oT.data = .fields ts ∧ ts[3]? = some fl
noncomputable def NoteD (PP : Obj → Prop) (base : Heap) (l : List Env) (e : Addr) (fl : Value) (h h' : Heap) : Prop := base.StaysIn h' ∧ h'.FunFrames base l ∧ TrD PP h' base e fl ∧ h.UpToSlots h'
theorem entryD (hPP : MapOk PP) {base : Heap} {env : Env} {outer : List Env} {L e : Addr} {oe : Obj} {vs : Array Value} {head : Value} {hadNext : Bool} {Q : Unit → Shared → Prop}
    (hfr : A.frames = some (env :: outer)) (hl : s.heap.FunFrames base (env :: outer)) (hf : env.frame = some L) (he : s.heap.get? e = some oe) (hp : PP oe) (hkb : base.StaysIn s.heap) (hen : base.get? e = none) (hd : oe.data = .fields vs) (hsz : 1 < vs.size)
    (h : ∀ h', NoteD PP base (env :: outer) e (rawInt L) s.heap h' → Q () { s with heap := h' }) :
    wpAny M A (do let a ← frameOf env; let pl ← entryPlaceOf L hadNext; let b ← EntryCells.newEntry head a .none (rawInt L) .none pl; setField (.ref e) 1 b) Q E s := by
  have hene : e ∉ (env :: outer).filterMap (·.frame) := fun hm => by
    obtain ⟨_, o, ho, hnf⟩ := hl.mem hm
    rw [he] at ho; injection ho with ho; subst ho; exact hnf vs hd
  refine wpAny_bind (wpAny_frameOf_fun hfr hl hf fun h₁ hs₁ => wpAny_bind (wpAny_entryPlaceOf fun pl hpl => ?_))
  unfold EntryCells.newEntry newFields
  refine wpAny_bind (wpAny_newObj_type ?_ (hpl.sizeOk5 _ _ _ _ _))
  generalize hT : ({ cls := .type "traceback", dict := none, data := .fields ([head, .ref L, .none, rawInt L, .none] ++ (if pl.isEmpty then List.replicate 6 Value.none else pl)).toArray } : Obj) = oT
  have he₁ : h₁.get? e = some oe := (hs₁.2.1 e hene).trans he
  have kb₁ : base.StaysIn h₁ := fun b o hbo => (hs₁.2.1 b fun hm => by rw [(hl.mem hm).1] at hbo; cases hbo).trans (hkb b o hbo)
  have he₂ := Heap.get?_push_of_some (h := h₁) oT he₁
  have hTf : oT.isFreed = false := by rw [← hT]; rfl
  have hTe : h₁.objs.size ≠ e := Nat.ne_of_gt (Heap.lt_size he₁)
  have hd₃ := Obj.data_mapFields hd (·.setIfInBounds 1 (Value.ref h₁.objs.size))
  have he₃ := Heap.get?_update_self (Obj.mapFields (·.setIfInBounds 1 (Value.ref h₁.objs.size))) he₂ (Obj.isFreed_of_fields hd₃)
  have hT₃ := (Heap.get?_update_other (h₁.push oT) (Obj.mapFields (·.setIfInBounds 1 (Value.ref h₁.objs.size))) (Ne.symm hTe)).trans (Heap.get?_push_size h₁ hTf)
  refine wpAny_setField he₂ hd hsz (h _ ?_)
  have keep : ∀ b o, b ≠ e → h₁.get? b = some o → ((h₁.push oT).update e (Obj.mapFields (·.setIfInBounds 1 (Value.ref h₁.objs.size)))).get? b = some o := fun b o hbe hb => by
    rw [Heap.get?_update_other _ _ (Ne.symm hbe)]
    exact Heap.get?_push_of_some _ hb
  have noRecord : ∀ b o, s.heap.get? b = some o → (∀ vs, o.data ≠ .fields vs) → b ≠ e := fun b o hb hnf q => by
    rw [q, he] at hb; injection hb with hb; subst hb; exact hnf vs hd
  refine ⟨fun b o hbo => keep b o (fun q => by rw [q, hen] at hbo; cases hbo) (kb₁ b o hbo), hl.of_keeps fun b o hb hnf => ?_, ⟨_, _, h₁.objs.size, oT, _, he₃, hPP _ _ hp, hd₃, by simp [hsz], kb₁.fresh, hTe, hT₃, by rw [← hT], by first | (simp; done) | (rcases hpl with rfl | ⟨_, _, _, _, _, _, _, rfl⟩ <;> simp)⟩, fun b o hb hnf => ?_⟩
  · obtain ⟨sl, hs⟩ := hs₁.2.2 b o hb
    exact ⟨_, keep b _ (noRecord b o hb hnf) hs, rfl⟩
  · obtain ⟨sl, hs⟩ := hs₁.2.2 b o hb
    exact ⟨sl, keep b _ (noRecord b o hb hnf) hs⟩
/-- the first frame that notes the exception -/
theorem noteD_first (hPP : MapOk PP) {base : Heap} {env : Env} {outer : List Env} {L e : Addr} {oe : Obj} {vs : Array Value} {Q : Unit → Shared → Prop}
    (hfr : A.frames = some (env :: outer)) (hl : s.heap.FunFrames base (env :: outer)) (hf : env.frame = some L) (he : s.heap.get? e = some oe) (hp : PP oe) (hkb : base.StaysIn s.heap) (hen : base.get? e = none) (hd : oe.data = .fields vs) (h1 : vs[1]? = some .none)
    (h : ∀ h', NoteD PP base (env :: outer) e (rawInt L) s.heap h' → Q () { s with heap := h' }) : wpAny M A (noteFrame (.ref e) env) Q E s := by
  unfold noteFrame
  simp only [hf]
  refine wpAny_bind (wpAny_field he hd h1 ?_)
  rw [if_neg (by decide)]
  exact entryD hPP hfr hl hf he hp hkb hen hd (Array.getElem?_eq_some_iff.mp h1).1 h
/-- a further frame -/
theorem noteD_next (hPP : MapOk PP) {base : Heap} {env : Env} {outer : List Env} {L e : Addr} {Q : Unit → Shared → Prop}
    (hfr : A.frames = some (env :: outer)) (hl : s.heap.FunFrames base (env :: outer)) (hf : env.frame = some L) (ht : TrD PP s.heap base e .none) (hkb : base.StaysIn s.heap) (hen : base.get? e = none)
    (h : ∀ h', NoteD PP base (env :: outer) e (rawInt L) s.heap h' → Q () { s with heap := h' }) : wpAny M A (noteFrame (.ref e) env) Q E s := by
  obtain ⟨oe, vs, T, oT, ts, he, hp, hd, h1, hnT, hTe, hT, hdT, h3⟩ := ht
  unfold noteFrame
  simp only [hf]
  refine wpAny_bind (wpAny_field he hd h1 ?_)
  rw [if_pos (show (Value.ref T != Value.none) = true from by simp)]
  refine wpAny_bind (wpAny_field hT hdT h3 ?_)
  rw [if_neg (show ¬ ((Value.none == rawInt L) = true) from by simp [rawInt])]
  refine wpAny_bind (wpAny_setField hT hdT (Array.getElem?_eq_some_iff.mp h3).1 ?_)
  have other : ∀ b, b ≠ T → (s.heap.update T (Obj.mapFields (·.setIfInBounds 3 Value.none))).get? b = s.heap.get? b := fun b hb => Heap.get?_update_other _ _ (Ne.symm hb)
  have noRecord : ∀ b o, s.heap.get? b = some o → (∀ vs, o.data ≠ .fields vs) → b ≠ T := fun b o hb hnf q => by
    rw [q, hT] at hb; injection hb with hb; subst hb; exact hnf ts hdT
  refine entryD hPP hfr (hl.of_keeps fun b o hb hnf => ⟨o, (other b (noRecord b o hb hnf)).trans hb, rfl⟩) hf ((other e (Ne.symm hTe)).trans he) hp
    (fun b o hbo => (other b fun q => by rw [q, hnT] at hbo; cases hbo).trans (hkb b o hbo)) hen hd (Array.getElem?_eq_some_iff.mp h1).1
    fun h' ⟨x1, x2, x3, x4⟩ => h h' ⟨x1, x2, x3, fun b o hb hnf => x4 b o ((other b (noRecord b o hb hnf)).trans hb) hnf⟩
theorem flightD {base : Heap} {l : List Env} {e : Addr} {fl : Value} {Q : Unit → Shared → Prop} (hkb : base.StaysIn s.heap) (hl : s.heap.FunFrames base l) (ht : TrD PP s.heap base e fl)
    {o : Option Addr} (h : ∀ h', NoteD PP base l e (o.elim Value.none fun f => rawInt f) s.heap h' → Q () { s with heap := h' }) : wpAny M A (setFlight (.ref e) o) Q E s := by
  obtain ⟨oe, vs, T, oT, ts, he, hp, hd, h1, hnT, hTe, hT, hdT, h3⟩ := ht
  have hsz3 : 3 < ts.size := (Array.getElem?_eq_some_iff.mp h3).1
  have other : ∀ b, b ≠ T → (s.heap.update T (Obj.mapFields (·.setIfInBounds 3 (o.elim Value.none fun f => rawInt f)))).get? b = s.heap.get? b := fun b hb => Heap.get?_update_other _ _ (Ne.symm hb)
  have noRecord : ∀ b o, s.heap.get? b = some o → (∀ vs, o.data ≠ .fields vs) → b ≠ T := fun b o hb hnf q => by
    rw [q, hT] at hb; injection hb with hb; subst hb; exact hnf ts hdT
  unfold setFlight
  refine wpAny_bind (wpAny_field he hd h1 ?_)
  rw [if_pos (show (Value.ref T != Value.none) = true from by simp)]
  refine wpAny_setField hT hdT hsz3 (h _ ⟨fun b o hbo => (other b fun q => by rw [q, hnT] at hbo; cases hbo).trans (hkb b o hbo), hl.of_keeps fun b o hb hnf => ⟨o, (other b (noRecord b o hb hnf)).trans hb, rfl⟩, ?_, fun b o hb hnf => ⟨o.slots, (other b (noRecord b o hb hnf)).trans hb⟩⟩)
  exact ⟨oe, vs, T, _, _, (other e (Ne.symm hTe)).trans he, hp, hd, h1, hnT, hTe, Heap.get?_update_self _ hT (Obj.isFreed_of_fields (Obj.data_mapFields hdT _)), Obj.data_mapFields hdT _, by simp [hsz3]⟩
theorem noteD_again {base : Heap} {env : Env} {L e : Addr} {Q : Unit → Shared → Prop} (hf : env.frame = some L) (ht : TrD PP s.heap base e (rawInt L)) (h : Q () s) : wpAny M A (noteFrame (.ref e) env) Q E s := by
  obtain ⟨oe, vs, T, oT, ts, he, hp, hd, h1, hnT, hTe, hT, hdT, h3⟩ := ht
  unfold noteFrame
  simp only [hf]
  refine wpAny_bind (wpAny_field he hd h1 ?_)
  rw [if_pos (show (Value.ref T != Value.none) = true from by simp)]
  refine wpAny_bind (wpAny_field hT hdT h3 ?_)
  rw [if_pos (show (rawInt L == rawInt L) = true from by simp)]
  exact wpAny_pure h
end
end Mine
end
section
open PySem PySem.W PyProof.Rows PySem.Calls
set_option Elab.async false
set_option maxRecDepth 100000
set_option maxHeartbeats 1000000
namespace Mine
namespace N
noncomputable def PD (d : Addr) (o : Obj) : Prop := o.cls = .ref 70 ∧ o.dict = some d
theorem pd_map {d : Addr} : MapOk (PD d) := fun o f h => ⟨(Obj.cls_mapFields ..).trans h.1, by obtain ⟨_, _, dd, _⟩ := o; cases dd <;> exact h.2⟩
section
variable {f : Fx} {m : PySem.Str → Option Value} {ex : List (Addr × Obj)} {ρ : List Addr} {H : Hp} {h h' : Heap} {n w : Nat} {a d : Addr} {oe od : Obj} {tr : List (Addr × Obj)} {Lo : Option Addr} {tk : Nat} {fl : Value}
/-- what stays while a traceback grows -/
noncomputable def nbase (f : Fx) (h : Heap) (a : Addr) (tr : List (Addr × Obj)) : Heap := hideAll h (a :: (tr.map (·.1) ++ frs (f.env :: f.outer)))
theorem frs_cons (K : FxOK c mean mg mb f) {b : Addr} (hb : b ∈ frs (f.env :: f.outer)) : b = f.L ∨ b ∈ frs f.outer := by
  obtain ⟨e', he', hf'⟩ := List.mem_filterMap.mp hb
  rcases List.mem_cons.mp he' with rfl | he'
  · rw [K.frame] at hf'; cases hf'; exact .inl rfl
  · exact .inr (List.mem_filterMap.mpr ⟨e', he', hf'⟩)
theorem nbase_get (hb : b ≠ a) (ht : b ∉ tr.map (·.1)) (K : FxOK c mean mg mb f) (hL : b ≠ f.L) (hf : b ∉ frs f.outer) {o : Obj} (e : h.get? b = some o) : (nbase f h a tr).get? b = some o :=
  hideAll_get _ e fun hm => by
    rcases List.mem_cons.mp hm with q | q
    · exact hb q
    · rcases List.mem_append.mp q with q | q
      · exact ht q
      · exact (frs_cons K q).elim hL hf
/-- the facts that noting asks for -/
theorem note_pre (K : FxOK c mean mg mb f) (R : Rl c f m ((a, oe) :: (d, od) :: (tr ++ ex)) ρ H h) : h.FunFrames (nbase f h a tr) (f.env :: f.outer) ∧ (nbase f h a tr).StaysIn h ∧ (nbase f h a tr).get? a = none := by
  have R0 := R
  obtain ⟨F, fs, led, l, hfs, hfo, N, nd, off⟩ := R
  obtain ⟨oL, es, ep, hL, hLd, r3⟩ := F.ns
  have hid : ∀ b, b ∈ frs (f.env :: f.outer) → (nbase f h a tr).get? b = none := fun b hb => hideAll_none _ (.tail _ (List.mem_append_right _ hb))
  refine ⟨⟨by rw [K.kind]; decide, ⟨f.L, oL, K.frame, hid _ (List.mem_filterMap.mpr ⟨f.env, .head _, K.frame⟩), hL, fun vs q => by rw [hLd] at q; cases q⟩, ?_⟩, fun b o e => of_hideAll _ e, hideAll_none _ (.head _)⟩
  have FF : h.FunFrames f.base f.outer := K.frames.of_keeps fun b o e _ => by
    by_cases hm : b ∈ frs f.outer
    · obtain ⟨sl, q⟩ := hfs b o hm e
      exact ⟨_, (N _ (List.mem_append_right _ (List.mem_append_right _ q))).1, rfl⟩
    · exact ⟨o, F.keep b o (hideAll_get _ e hm), rfl⟩
  have key : ∀ {l : List Env} {b' : Heap}, h.FunFrames f.base l → (∀ b, b ∈ frs l → b'.get? b = none) → h.FunFrames b' l := by
    intro l b'
    induction l with
    | nil => intro x _; exact trivial
    | cons e r ih =>
      rintro ⟨x1, ⟨L, o, y1, y2, y3, y4⟩, x3⟩ hb
      exact ⟨x1, ⟨L, o, y1, hb L (List.mem_filterMap.mpr ⟨e, .head _, y1⟩), y3, y4⟩, ih x3 fun b hm => hb b (by
        obtain ⟨e', he', hf'⟩ := List.mem_filterMap.mp hm
        exact List.mem_filterMap.mpr ⟨e', .tail _ he', hf'⟩)⟩
  exact key FF fun b hb => hid b (by
    obtain ⟨e', he', hf'⟩ := List.mem_filterMap.mp hb
    exact List.mem_filterMap.mpr ⟨e', .tail _ he', hf'⟩)
/-- a traceback has grown -/
theorem note_up (K : FxOK c mean mg mb f) (R : Rl c f m ((a, oe) :: (d, od) :: (tr ++ ex)) ρ H h) (X : ExcO Lo w oe d od tr) (n : NoteD (PD d) (nbase f h a tr) (f.env :: f.outer) a fl h h') {Lo' : Option Addr} (hfl : fl = .none ∨ ∃ L, Lo' = some L ∧ fl = rawInt L) :
    ∃ oe' tr', Rl c f m ((a, oe') :: (d, od) :: (tr' ++ ex)) ρ H h' ∧ ExcO Lo' w oe' d od tr' := by
  obtain ⟨n1, n2, ⟨oe', vs, T, oT, ts, t1, t2, t3, t4, t5, t6, t7, t8, t9⟩, n4⟩ := n
  obtain ⟨F, fs, led, l, hfs, hfo, N, nd, off⟩ := R
  have gzb : f.gz.StaysIn (nbase f h a tr) := fun b o e => nbase_get (fun q => by have := (N (a, oe) (.head _)).2.2; rw [← q, e] at this; cases this) (fun q => by
    obtain ⟨p, hp, q⟩ := List.mem_map.mp q
    have := (N p (List.mem_append_left _ (.tail _ (.tail _ (List.mem_append_left _ hp))))).2.2
    rw [q, e] at this; cases this) K (fun q => absurd (Heap.lt_size e) (Nat.not_lt.mpr (by rw [q]; exact F.above))) (fun q => by rw [hideAll_none _ q] at e; cases e) (F.keep b o e)
  have kp : ∀ p ∈ (d, od) :: (ex ++ led), (nbase f h a tr).get? p.1 = some p.2 := fun p hp => by
    have hm : p ∈ (a, oe) :: (d, od) :: (tr ++ ex) ++ led := by
      rcases List.mem_cons.mp hp with rfl | hp
      · exact .tail _ (.head _)
      · rcases List.mem_append.mp hp with hp | hp
        · exact List.mem_append_left _ (.tail _ (.tail _ (List.mem_append_right _ hp)))
        · exact List.mem_append_right _ hp
    have hN := N p (by
      rw [← List.append_assoc]
      exact List.mem_append_left _ hm)
    have nd' : (((a, oe) :: (tr ++ (d, od) :: (ex ++ led))).map (·.1)).Nodup := by
      refine ((List.Perm.map (fun p : Addr × Obj => p.1) ?_).nodup_iff).mp nd
      rw [List.cons_append]
      refine List.Perm.cons _ ?_
      rw [List.cons_append, List.append_assoc]
      exact List.perm_middle.symm
    rw [List.map_cons, List.nodup_cons, List.map_append, List.nodup_append] at nd'
    refine nbase_get (fun q => nd'.1 ?_) (fun q => nd'.2.2.2 _ q _ (List.mem_map_of_mem hp) rfl) K hN.2.1 (off p hm) hN.1
    rw [← List.map_append]
    exact List.mem_map.mpr ⟨p, List.mem_append_right _ hp, q⟩
  obtain ⟨oL, esL, epL, hL, hLd, r3⟩ := F.ns
  obtain ⟨slL, hL'⟩ := n4 _ _ hL fun vs q => by rw [hLd] at q; cases q
  have frN : ∀ b, b ∈ frs f.outer → ∃ o, f.g.get? b = some o ∧ ∀ vs, o.data ≠ .fields vs := fun b hb => (K.frames.mem hb).2
  have TL : T ≠ f.L := fun q => by rw [q, hL'] at t7; cases t7; rw [hLd] at t8; cases t8
  have frH : ∀ b o, b ∈ frs f.outer → f.g.get? b = some o → ∃ sl, h'.get? b = some { o with slots := sl } := fun b o hb e => by
    obtain ⟨sl, q⟩ := hfs b o hb e
    obtain ⟨o2, e2, e3⟩ := frN b hb
    rw [e] at e2; cases e2
    obtain ⟨sl', q'⟩ := n4 b _ (N _ (List.mem_append_right _ (List.mem_append_right _ q))).1 e3
    exact ⟨sl', q'⟩
  have TF : T ∉ frs f.outer := fun hm => by
    obtain ⟨o2, e2, e3⟩ := frN T hm
    obtain ⟨sl, q⟩ := frH T o2 hm e2
    rw [t7] at q; cases q
    exact e3 _ t8
  have bT : ∀ p ∈ (d, od) :: (ex ++ led), p.1 ≠ T := fun p hp q => by
    have := kp p hp
    rw [q, t5] at this; cases this
  have N0 : ∀ p ∈ (d, od) :: (ex ++ led), p.1 ≠ f.L ∧ f.gz.get? p.1 = none := fun p hp => by
    refine (N p ?_).2
    rcases List.mem_cons.mp hp with rfl | hp
    · exact .tail _ (.head _)
    · rcases List.mem_append.mp hp with hp | hp
      · exact .tail _ (.tail _ (List.mem_append_left _ (List.mem_append_right _ hp)))
      · exact List.mem_append_right _ (List.mem_append_left _ hp)
  have mem : ∀ {p : Addr × Obj}, p ∈ (a, oe') :: (d, od) :: ([(T, oT)] ++ ex) ++ led → p = (a, oe') ∨ p = (T, oT) ∨ p ∈ (d, od) :: (ex ++ led) := fun {p} hp => by
    simp only [List.cons_append, List.nil_append, List.mem_cons, List.mem_append] at hp ⊢
    rcases hp with h | h | h | h | h
    · exact .inl h
    · exact .inr (.inr (.inl h))
    · exact .inr (.inl h)
    · exact .inr (.inr (.inr (.inl h)))
    · exact .inr (.inr (.inr (.inr h)))
  have Na := N (a, oe) (.head _)
  have nda : ∀ p ∈ (d, od) :: (ex ++ led), p.1 ≠ a := fun p hp q => by
    have := kp p hp
    rw [q] at this
    have h2 : (nbase f h a tr).get? a = none := hideAll_none _ (.head _)
    rw [h2] at this; cases this
  refine ⟨oe', [(T, oT)], ⟨⟨⟨_, esL, epL, hL', hLd, r3⟩, fun b o e => n1 b o (gzb b o e), F.above⟩, (frs f.outer).filterMap fun b => (h'.get? b).map (b, ·), led, l, fun b o hb e => ?_, fun p hp => ?_, fun p hp => ?_, ?_, fun p hp => ?_⟩, ⟨t2.1, t2.2, X.word, X.nf, ⟨vs, t3, .inr ⟨T, oT, ts, fl, rfl, t4, t8, t9, hfl⟩⟩, X.lt⟩⟩
  · obtain ⟨sl, q⟩ := frH b o hb e
    exact ⟨sl, List.mem_filterMap.mpr ⟨b, hb, by rw [q]; rfl⟩⟩
  · obtain ⟨b, hb, q⟩ := List.mem_filterMap.mp hp
    obtain ⟨o, _, rfl⟩ := Option.map_eq_some_iff.mp q
    exact hb
  · rw [← List.append_assoc] at hp
    rcases List.mem_append.mp hp with hp | hp
    · rcases mem hp with rfl | rfl | hp
      · exact ⟨t1, Na.2⟩
      · refine ⟨t7, TL, ?_⟩
        cases q : f.gz.get? T with
        | none => rfl
        | some o => have := gzb T o q; rw [t5] at this; cases this
      · exact ⟨n1 _ _ (kp p hp), N0 p hp⟩
    · obtain ⟨b, hb, q⟩ := List.mem_filterMap.mp hp
      obtain ⟨o, e, rfl⟩ := Option.map_eq_some_iff.mp q
      refine ⟨e, fun (q : b = f.L) => ?_, hideAll_none _ hb⟩
      obtain ⟨o', ho', _⟩ := frN b hb
      have := Heap.lt_size ho'
      rw [q] at this
      exact absurd this (Nat.not_lt.mpr (by have := F.above; rw [hideAll_size] at this; exact this))
  · have ndr : (((d, od) :: (ex ++ led)).map (·.1)).Nodup := by
      refine List.Nodup.sublist (List.Sublist.map _ ?_) nd
      rw [List.cons_append]
      refine .cons _ ?_
      rw [List.cons_append]
      exact List.Sublist.cons_cons _ (List.Sublist.append (List.sublist_append_right _ _) (List.Sublist.refl _))
    have nd2 : (((a, oe') :: (T, oT) :: (d, od) :: (ex ++ led)).map (·.1)).Nodup := by
      rw [List.map_cons, List.nodup_cons, List.map_cons, List.nodup_cons]
      refine ⟨fun hm => ?_, fun hm => ?_, ndr⟩
      · rcases List.mem_cons.mp hm with q | hm
        · exact t6 q.symm
        · obtain ⟨p, hp, q⟩ := List.mem_map.mp hm
          exact nda p hp q
      · obtain ⟨p, hp, q⟩ := List.mem_map.mp hm
        exact bT p hp q
    refine ((List.Perm.map (fun p : Addr × Obj => p.1) ?_).nodup_iff).mp nd2
    exact List.Perm.cons _ (List.Perm.swap ..)
  · rcases mem hp with rfl | rfl | hp
    · exact off (a, oe) (.head _)
    · exact TF
    · refine off p ?_
      rcases List.mem_cons.mp hp with rfl | hp
      · exact .tail _ (.head _)
      · rcases List.mem_append.mp hp with hp | hp
        · exact List.mem_append_left _ (.tail _ (.tail _ (List.mem_append_right _ hp)))
        · exact List.mem_append_right _ hp
end
section
variable {f : Fx} {m : PySem.Str → Option Value} {ex : List (Addr × Obj)} {ρ : List Addr} {H : Hp} {h h' : Heap} {n w : Nat} {a : Addr} {tk : Nat} {A : Around} {E : Value → Shared → Prop} {Q : Unit → Shared → Prop}
/-- the frame is noted in the traceback -/
theorem RX.note (K : FxOK c mean mg mb f) (X : RX c f m ex ρ H h w a) (hA : A.frames = some (f.env :: f.outer))
    (q : ∀ h' oe d od tr, Rl c f m ((a, oe) :: (d, od) :: (tr ++ ex)) ρ H h' → ExcO (some f.L) w oe d od tr → tr ≠ [] → Q () (f.st h' tk)) : wpAny (model prg c.w) A (noteFrame (.ref a) f.env) Q E (f.st h tk) := by
  obtain ⟨oe, d, od, tr, R, X⟩ := X
  obtain ⟨p1, p2, p3⟩ := note_pre K R
  have ha := R.N
  obtain ⟨fs, led, -, -, -, N, -⟩ := ha
  have he := (N (a, oe) (.head _)).1
  have fin : ∀ h', NoteD (PD d) (nbase f h a tr) (f.env :: f.outer) a (rawInt f.L) h h' → Q () (f.st h' tk) := fun h' n => by
    obtain ⟨oe', tr', R', X'⟩ := note_up K R X n (Lo' := some f.L) (.inr ⟨f.L, rfl, rfl⟩)
    refine q h' oe' d od tr' R' X' fun z => ?_
    obtain ⟨vs, e, y | ⟨T, oT, ts, fl, e1, -⟩⟩ := X'.trk
    · obtain ⟨-, -, ⟨oe2, vs2, T, oT, ts, t1, -, t3, t4, -⟩, -⟩ := n
      obtain ⟨fs2, led2, -, -, -, N2, -⟩ := R'.N
      have := (N2 (a, oe') (.head _)).1
      rw [t1] at this; cases this
      rw [e] at t3; cases t3
      rw [y.2] at t4; cases t4
    · rw [z] at e1; cases e1
  obtain ⟨vs, e, ⟨rfl, e1⟩ | ⟨T, oT, ts, fl, rfl, e1, e2, e3, e4⟩⟩ := X.trk
  · exact noteD_first pd_map (s := f.st h tk) hA p1 K.frame he ⟨X.cls, X.dict⟩ p2 p3 e e1 fin
  · have hT := (N (T, oT) (.tail _ (.tail _ (.head _)))).1
    have td : ∀ fl, ts[3]? = some fl → TrD (PD d) h (nbase f h a [(T, oT)]) a fl := fun fl e3 => by
      refine ⟨oe, vs, T, oT, ts, he, ⟨X.cls, X.dict⟩, e, e1, hideAll_none _ (.tail _ (.head _)), fun z => ?_, hT, e2, e3⟩
      have nd := R.N
      obtain ⟨_, _, _, _, _, _, nd, _⟩ := nd
      simp only [List.cons_append, List.map_cons, List.nodup_cons, List.mem_cons, not_or] at nd
      exact nd.1.2.1 z.symm
    rcases e4 with rfl | ⟨L, z, rfl⟩
    · exact noteD_next pd_map (s := f.st h tk) hA p1 K.frame (td _ e3) p2 p3 fin
    · cases z
      exact noteD_again (PP := PD d) (s := f.st h tk) K.frame (td _ e3) (q h oe d od _ R X (by simp))
/-- who holds the exception in flight is told -/
theorem RX.flight (K : FxOK c mean mg mb f) {oe od : Obj} {d : Addr} {tr : List (Addr × Obj)} (R : Rl c f m ((a, oe) :: (d, od) :: (tr ++ ex)) ρ H h) (X : ExcO (some f.L) w oe d od tr) (ht : tr ≠ []) {o : Option Addr}
    (q : ∀ h' oe tr, Rl c f m ((a, oe) :: (d, od) :: (tr ++ ex)) ρ H h' → ExcO o w oe d od tr → tr ≠ [] → Q () (f.st h' tk)) : wpAny (model prg c.w) A (setFlight (.ref a) o) Q E (f.st h tk) := by
  obtain ⟨p1, p2, p3⟩ := note_pre K R
  obtain ⟨fs, led, -, -, -, N, nd, -⟩ := R.N
  have he := (N (a, oe) (.head _)).1
  obtain ⟨vs, e, ⟨z, -⟩ | ⟨T, oT, ts, fl, rfl, e1, e2, e3, e4⟩⟩ := X.trk
  · exact absurd z ht
  have hT := (N (T, oT) (.tail _ (.tail _ (.head _)))).1
  refine flightD (PP := PD d) (base := nbase f h a [(T, oT)]) (l := f.env :: f.outer) (fl := fl) (s := f.st h tk) p2 p1 ⟨oe, vs, T, oT, ts, he, ⟨X.cls, X.dict⟩, e, e1, hideAll_none _ (.tail _ (.head _)), fun z => ?_, hT, e2, e3⟩ fun h' n => ?_
  · simp only [List.cons_append, List.map_cons, List.nodup_cons, List.mem_cons, not_or] at nd
    exact nd.1.2.1 z.symm
  · obtain ⟨oe', tr', R', X'⟩ := note_up K R X n (Lo' := o) (by
      cases o with
      | none => exact .inl rfl
      | some L => exact .inr ⟨L, rfl, rfl⟩)
    refine q h' oe' tr' R' X' fun z => ?_
    obtain ⟨vs, e, y | ⟨T, oT, ts, fl, e1, -⟩⟩ := X'.trk
    · obtain ⟨-, -, ⟨oe2, vs2, T, oT, ts, t1, -, t3, t4, -⟩, -⟩ := n
      obtain ⟨fs2, led2, -, -, -, N2, -⟩ := R'.N
      have := (N2 (a, oe') (.head _)).1
      rw [t1] at this; cases this
      rw [e] at t3; cases t3
      rw [y.2] at t4; cases t4
    · rw [z] at e1; cases e1
/-- an activation is left by an exception -/
theorem RX.leave (K : FxOK c mean mg mb f) (X : RX c f m ex ρ H h w a) (hA : A.frames = some (f.env :: f.outer))
    (q : ∀ h' oe d od tr, Rl c f m ((a, oe) :: (d, od) :: (tr ++ ex)) ρ H h' → ExcO none w oe d od tr → Q () (f.st h' tk)) : wpAny (model prg c.w) A (leaving f.env (.ref a)) Q E (f.st h tk) := by
  unfold leaving
  exact wpAny_bind (X.note K hA fun h' oe d od tr R' X' ht => RX.flight K R' X' ht fun h'' oe2 tr2 R2 X2 _ => q h'' oe2 d od tr2 R2 X2)
end
end N
end Mine
end
section
open PySem PySem.W PyProof.Rows PySem.Calls
set_option Elab.async false
set_option maxRecDepth 100000
set_option maxHeartbeats 1000000
namespace Mine
namespace N
/-- a def's body tells its contract -/
theorem enter {n : Nat} {fa : Addr} {fi : FI} {vs : List V} {xs : List Value} {args : Args} {ob : Obj} {fd : FuncData} {body : List Stmt} {ρ : List Addr} {H : Hp} {Ψ : Fl → Hp → Prop} (S : SoundS c mean mg mb orc n) (D : FunIs c.w fa fi ob fd body) (hbind : ∀ s : Shared, (hdA.heap_1_39 c.w.params).In s.heap → BindsTo s fd args ((fi.ps.map nm).zip xs)) (rv : RVs c.val ρ vs xs)
    (hb : stepX (run orc n) fi vs H Ψ) : CtQ c mean mg mb (n + 1) fa args ρ H Ψ := by
  intro led l ndl dp un gd outer base g h₁ gn dr tk os R B hs hz N Xb Tb X T hdp hu ret
  obtain ⟨ho, hd, hbd, hcomp, hcd, hgl, hcl, hbi, hsc⟩ := D
  obtain ⟨hl0, hb⟩ := grd_inv hb
  have hl := Nat.eq_of_beq_eq_true hl0
  rw [fH_eq] at hb
  simp only [scopeChk, Bool.and_eq_true, List.all_eq_true, decide_eq_true_eq, beq_iff_eq] at hsc
  obtain ⟨⟨⟨⟨⟨⟨⟨⟨⟨s1, s2⟩, s3⟩, s4⟩, s5⟩, s6⟩, s7⟩, s8⟩, s9⟩, s10⟩ := hsc
  have X' : (hdA.heap_1_39 c.w.params).In h₁ := X.keeps hs
  have hlx : xs.length = fi.ps.length := rv.length.trans hl.symm
  have hps : ∀ p ∈ fi.ps, p < tb.length := fun p hp => (s4 p hp).1
  refine codeAny_call_function (by show dp < recursionLimit; have : 1 ≤ need (n + 1) := by unfold need; omega
                                   omega) (X' _ _ ho) hd s1 s2 hbd (codeRec_of X' hcd) ?_
  refine hbind ⟨h₁, gn, dr, tk, os⟩ X' _ _ _ _ ?_
  rw [hgl, hcl, hbi]
  refine wpAny_newFunctionEnv_cells s3 (fun x hx => ?_) fun env' he s' x => ?_
  · have hx' := (List.of_mem_zip (show (x.1, x.2) ∈ _ from hx)).1
    obtain ⟨p, hp, e⟩ := List.mem_map.mp hx'
    rw [← e, (s4 p hp).2]
    by_cases hc : hasc p fi.cs = true
    · rw [if_pos hc]
      refine .inr ⟨rfl, ?_⟩
      have : nm p ∈ (cellsFrom (h₁.objs.size + 1) fd.scope.names []).map (·.1) := by
        rw [cellsFrom_map _ _ 0 [] [] rfl, s8]
        exact List.mem_map_of_mem (hasc_iff.mp hc)
      obtain ⟨q, hq, e'⟩ := List.mem_map.mp this
      rw [List.lookup_isSome_iff] 
      exact ⟨q, hq, by rw [e']; simp⟩
    · rw [if_neg hc]; exact .inl rfl
  · have hn : (cellsFrom (h₁.objs.size + 1) fd.scope.names []).map (·.1) = fi.cs.map nm := by rw [cellsFrom_map _ _ 0 [] [] rfl, s8]
    have hcs : ∀ x ∈ fi.cs, x < tb.length := fun x hx => (s5 x hx).1
    have hnd : ((cellsFrom (h₁.objs.size + 1) fd.scope.names []).map (·.1)).Nodup := by
      rw [hn]
      refine List.Pairwise.map _ (fun a b (q : a ≠ b ∧ a ∈ fi.cs ∧ b ∈ fi.cs) e => q.1 (nm_inj (hcs a q.2.1) (hcs b q.2.2) e)) ?_
      exact List.Pairwise.imp_of_mem (fun ha hb q => ⟨q, ha, hb⟩) s10
    subst he
    refine ⟨(T.nolimit.keeps hs).keeps x.toInCall.keep, codeAny_func ?_⟩
    obtain ⟨h₂, tk', rfl, _⟩ := x.done
    have hk₁ := x.toInCall.keep
    obtain ⟨cells, NC, Y⟩ := Cl.news (h₀ := h₁) (Nat.le_refl _) fun n c hm => ⟨x.cell n c (lookup_of_mem_nodup hnd hm), x.above n c hm⟩
    have hap := x.apart
    have hns := x.toInCall.ns
    generalize hcn : cellsFrom (h₁.objs.size + 1) fd.scope.names [] = cn at *
    generalize henv : newEnv fd.scope h₁.objs.size mainGlobals cn (fd.qualname ++ ".<locals>.") (some fa) fd.code none builtinsNs = env at *
    have hkf : ∀ y, env.kindOf y = fd.scope.names.lookup y := fun y => by rw [← henv]; rfl
    have hecl : env.cells = cn := by rw [← henv]; rfl
    have hcf : cells.map (·.1) = cn.map (·.2) := cells_fst (hecl ▸ Y)
    let f : Fx := ⟨dp + 1, un + 3, gd, outer, base, g, h₁.objs.size, env, gn, dr, os⟩
    have K : FxOK c mean mg mb f := ⟨B.stays, B.frames, Xb, Tb, by show env.frame = _; rw [← henv]; rfl, by show env.locals = _; rw [← henv]; rfl, by show env.scope.kind = _; rw [← henv]; exact s3, by show env.globals = _; rw [← henv]; rfl, by show env.builtins = _; rw [← henv]; rfl⟩
    have gn1 : ∀ a, g.get? a = none → f.gz.get? a = none := fun a e => by
      cases q : f.gz.get? a with
      | none => rfl
      | some o => rw [of_hideAll _ q] at e; cases e
    have frg : ∀ b, b ∈ frs outer → ∃ o, g.get? b = some o := fun b hb => let ⟨o, e, _⟩ := (B.frames.mem hb).2; ⟨o, e⟩
    have cg : ∀ p ∈ cells, g.get? p.1 = none := fun p hp => by
      cases q : g.get? p.1 with
      | none => rfl
      | some o => have := hs _ _ q; rw [(NC p hp).2.2] at this; cases this
    have L1 : Led c (ρ ++ cn.map (·.2)) (ρ ++ cn.map (·.2)) (H ++ fi.cs.map fun x => .cell (lookc x (fi.ps.zip vs))) (led ++ cells) := by
      refine (l.up (List.prefix_append _ _)).app ((cells_led (ρ₀ := ρ) (hecl ▸ Y) hn fun y hy => ?_).up (List.prefix_append _ _))
      exact bind_cell (val := c.val) (ρ := ρ) (k := env.kindOf) (m := fun _ => none) (hcs y hy) (by rw [hkf]; exact (s5 y hy).2) rv s9 hps
    have R1 : Rl c f (bindL env.kindOf ((fi.ps.map nm).zip xs) fun _ => none) [] (ρ ++ cn.map (·.2)) (H ++ fi.cs.map fun x => .cell (lookc x (fi.ps.zip vs))) h₂ := by
      refine ⟨⟨by have : env.locals = h₁.objs.size := by rw [← henv]; rfl
                  rw [this] at hns; exact hns, fun b o e => hk₁ b o (hs b o (of_hideAll _ e)), by show f.gz.objs.size ≤ _; rw [hideAll_size]; exact Nat.le_of_eq hz⟩, (frs outer).filterMap fun b => (g.get? b).map (b, ·), _, L1, fun b o hb e => ⟨o.slots, List.mem_filterMap.mpr ⟨b, hb, by rw [e]; rfl⟩⟩, fun p hp => ?_, fun p hp => ?_, ?_, fun p hp => ?_⟩
      · obtain ⟨b, hb, q⟩ := List.mem_filterMap.mp hp
        obtain ⟨o, _, rfl⟩ := Option.map_eq_some_iff.mp q
        exact hb
      · rw [List.nil_append] at hp
        rcases List.mem_append.mp hp with hp | hp
        · rcases List.mem_append.mp hp with hp | hp
          · exact ⟨hk₁ _ _ (N p hp).1, Nat.ne_of_lt (Heap.lt_size (N p hp).1), gn1 _ (N p hp).2⟩
          · exact ⟨(NC p hp).1, (NC p hp).2.1, gn1 _ (cg p hp)⟩
        · obtain ⟨b, hb, q⟩ := List.mem_filterMap.mp hp
          obtain ⟨o, e, rfl⟩ := Option.map_eq_some_iff.mp q
          exact ⟨hk₁ _ _ (hs _ _ e), Nat.ne_of_lt (Heap.lt_size (hs _ _ e)), hideAll_none _ hb⟩
      · rw [List.nil_append, List.map_append, List.nodup_append]
        refine ⟨ndl, ?_, fun a ha b hb e => ?_⟩
        · rw [hcf]
          rw [hecl] at hap
          exact List.Pairwise.map _ (fun a b q => q) hap
        · obtain ⟨p, hp, rfl⟩ := List.mem_map.mp ha
          obtain ⟨q, hq, rfl⟩ := List.mem_map.mp hb
          have := (NC q hq).2.2
          rw [← e, (N p hp).1] at this; cases this
      · intro q
        obtain ⟨o, e⟩ := frg _ q
        rw [List.nil_append] at hp
        rcases List.mem_append.mp hp with hp | hp
        · rw [(N p hp).2] at e; cases e
        · rw [cg p hp] at e; cases e
    have EK : EnvOK f c ⟨(fi.ps.zip vs).filter fun p => !hasc p.1 fi.cs, cellsAt fi.cs H.length, fi.gl, fi.ls⟩ f.env (bindL env.kindOf ((fi.ps.map nm).zip xs) fun _ => none) [] (ρ ++ cn.map (·.2)) := by
      refine ⟨K.kind, K.gl, K.bi, ⟨_, .inl ⟨K.loc, rfl⟩, fun y v e1 _ => ?_⟩, fun y k e => ?_, fun y e => ?_, fun y e => ?_⟩
      · obtain ⟨e2, e3⟩ := lookc_filter e1
        have hy : y ∈ fi.ps := lookc_zip e2
        have hkl : env.kindOf (nm y) = some .local := by rw [hkf, (s4 y hy).2, if_neg (by rw [e3]; decide)]
        obtain ⟨z, q, r⟩ := bind_loc (m := fun _ => none) rv hkl s9 hps e2
        exact ⟨hps y hy, hkl, z, q, r.up (List.prefix_append _ _)⟩
      · obtain ⟨i, e1, rfl⟩ := cellsAt_get e
        have hy : y ∈ fi.cs := List.mem_of_getElem? e1
        have e2 : (cn.map (·.1))[i]? = some (nm y) := by rw [hn, List.getElem?_map, e1]; rfl
        obtain ⟨p, e3, e4⟩ := Option.map_eq_some_iff.mp ((List.getElem?_map (l := cn) (f := (·.1)) (i := i)).symm.trans e2)
        refine ⟨hcs y hy, by rw [hkf]; exact (s5 y hy).2, p.2, ?_, ?_⟩
        · rw [List.getElem?_append_right (by rw [l.length]; omega), l.length, Nat.add_sub_cancel_left, List.getElem?_map, e3]; rfl
        · show env.cells.lookup _ = _
          rw [hecl, ← e4]
          exact lookup_of_mem_nodup hnd (List.mem_of_getElem? e3)
      · have := s6 y (hasc_iff.mp e)
        exact ⟨this.1, by rw [hkf]; exact this.2⟩
      · have := s7 y (hasc_iff.mp e)
        exact ⟨this.1, by rw [hkf]; exact this.2⟩
    rw [← hcomp] at hb
    refine wpAny_mono (S f _ [] _ _ h₂ tk' _ body _ (fun fl s' => R (.ok (.ret (match fl with | .ret v => v | _ => .none))) s') (fun e s' => wpAny (model prg c.w) ((ctA dp un gd outer).deeper env) (leaving env e) (fun _ s'' => R (.error e) s'') (fun e' s'' => R (.error e') s'') s') K hb R1 EK ⟨by show dp + 1 + need n < recursionLimit; unfold need at *; omega, by show un + 3 + 8 * need n < cLine; unfold need at *; omega⟩ ⟨?_, ?_⟩) (fun _ _ z => z) fun _ _ z => z
    · intro fl me' H' m' ρ' h' tk'' fr hΨ pre R' _ rf
      have fin : ∀ x, RFv c.val ρ' fl x → R (.ok (.ret x)) ⟨h', gn, dr, tk'', os⟩ := fun x rx => by
        obtain ⟨F', fs', led', l', a', b', N', nd', off'⟩ := R'
        refine ret false x led' h' tk'' F'.keep (fun b o hb e => ?_) (fun p hp => ?_) ⟨fl, ρ', H', (grd_inv hΨ).2, (List.prefix_append _ _).trans pre, l', nd', rx⟩
        · obtain ⟨sl, q⟩ := a' b o hb e
          exact ⟨sl, (N' _ (List.mem_append_right _ (List.mem_append_right _ q))).1⟩
        · have z := N' p (List.mem_append_right _ (List.mem_append_left _ hp))
          exact ⟨z.1, gz_none z.2.2 (off' p (List.mem_append_right _ hp))⟩
      cases rf with
      | next => exact fin .none .next
      | cont => exact (show False from hΨ).elim
      | ret r => exact fin _ (.ret r)
    · intro w a me' H' m' ρ' h' tk'' hΨ pre X' _
      refine X'.leave (f := f) K rfl fun h'' oe d od tr R' xo => ?_
      obtain ⟨F', fs', led', l', a', b', N', nd', off'⟩ := R'
      rw [List.append_nil] at N' nd' off'
      refine ret true (.ref a) ((a, oe) :: (d, od) :: (tr ++ led')) h'' tk'' F'.keep (fun b o hb e => ?_) (fun p hp => ?_) ⟨w, a, oe, d, od, tr, led', ρ', H', rfl, hΨ, (List.prefix_append _ _).trans pre, l', rfl, nd', xo⟩
      · obtain ⟨sl, q⟩ := a' b o hb e
        exact ⟨sl, (N' _ (List.mem_append_right _ (List.mem_append_right _ q))).1⟩
      · have hp' : p ∈ (a, oe) :: (d, od) :: tr ++ led' := hp
        have z := N' p (by rw [← List.append_assoc]; exact List.mem_append_left _ hp')
        exact ⟨z.1, gz_none z.2.2 (off' p hp')⟩
end N
end Mine
end
section
open PySem PySem.W PyProof.Rows PySem.Calls
set_option Elab.async false
set_option maxRecDepth 100000
set_option maxHeartbeats 1000000
namespace Mine
namespace N
theorem wgt (C : Addr) (vs : List Value) (kw : List (PySem.Str × Value)) : (Code.weight (.builtin "type.__call__" ⟨.ref C :: vs, kw⟩)) ≤ 3 := Nat.le_of_ble_eq_true rfl
theorem wun (C : Addr) (vs : List Value) (kw : List (PySem.Str × Value)) : (Code.cUnits (.builtin "type.__call__" ⟨.ref C :: vs, kw⟩)) ≤ 3 := Nat.le_of_ble_eq_true rfl
structure ClsOK (w : World) (C i : Addr) : Prop where
  hm : makesIn (hdA.heap_1_39 w.params) C = true
  hi : findIn (hdA.heap_1_39 w.params) (.ref C) "__init__" = some (some (.ref i))
  hf : typeIn (hdA.heap_1_39 w.params) (.ref i) = some (.type "function")
section
theorem cls_call {n : Nat} {C i : Addr} {xs : List Value} {kw : List (PySem.Str × Value)} {ρ : List Addr} {H : Hp} {Φ : V → Hp → Prop} (D : ClsOK c.w C i)
    (q : ∀ x, CtQ c mean mg mb n i ⟨.ref x :: xs, kw⟩ (ρ ++ [x]) (H ++ [.inst C []]) (retF fun u H' => grd u.isNone (Φ (.ref H.length) H'))) :
    CtQ c mean mg mb (n + 1) C ⟨xs, kw⟩ ρ H (retF Φ) := by
  intro led l ndl dp un gd outer base g h₁ gn dr tk os R B hs hz N Xb Tb X T hdp hu ret
  have X' : (hdA.heap_1_39 c.w.params).In h₁ := X.keeps hs
  refine make_core (makes_of X' D.hm) (looks_findIn X' D.hi) (fun self => bind_fn X' self D.hf) (.inl rfl) ?_
  let h₂ := (h₁.push emptyDict).push (instObj C h₁.objs.size)
  have up1 : ∀ b o, h₁.get? b = some o → h₂.get? b = some o := fun b o e => Heap.get?_push_of_some _ (Heap.get?_push_of_some _ e)
  have hz1 : (h₁.push emptyDict).objs.size = h₁.objs.size + 1 := Heap.size_push ..
  have e1 : h₂.get? (h₁.objs.size + 1) = some (instObj C h₁.objs.size) := by
    have : h₂.get? (h₁.push emptyDict).objs.size = some (instObj C h₁.objs.size) := Heap.get?_push_size _ rfl
    rwa [hz1] at this
  have e2 : h₂.get? h₁.objs.size = some (dictOf [] 0) := Heap.get?_push_of_some _ (Heap.get?_push_size _ rfl)
  let led₁ : List (Addr × Obj) := led ++ [(h₁.objs.size + 1, instObj C h₁.objs.size), (h₁.objs.size, dictOf [] 0)]
  have L1 : Led c (ρ ++ [h₁.objs.size + 1]) (ρ ++ [h₁.objs.size + 1]) (H ++ [.inst C []]) led₁ :=
    (l.up (List.prefix_append _ _)).snoc (.inst ⟨Nat.le_refl _, fun c v e => by simp [lookc] at e, fun c _ _ => rfl, fun p hp => by cases hp⟩ (Nat.ne_of_lt (Nat.lt_succ_self _)))
  have hlt : ∀ p ∈ led, p.1 < h₁.objs.size := fun p hp => Heap.lt_size (N p hp).1
  have nd1 : (led₁.map (·.1)).Nodup := by
    rw [List.map_append, List.nodup_append]
    refine ⟨ndl, by simp, fun a ha b hb => ?_⟩
    obtain ⟨p, hp, rfl⟩ := List.mem_map.mp ha
    have := hlt p hp
    simp only [List.map_cons, List.map_nil, List.mem_cons, List.not_mem_nil, or_false] at hb
    rcases hb with rfl | rfl
    · exact Nat.ne_of_lt (Nat.lt_succ_of_lt this)
    · exact Nat.ne_of_lt this
  have at1 : ∀ p ∈ led₁, h₂.get? p.1 = some p.2 ∧ g.get? p.1 = none := fun p hp => by
    rcases List.mem_append.mp hp with hp | hp
    · exact ⟨up1 _ _ (N p hp).1, (N p hp).2⟩
    · simp only [List.mem_cons, List.not_mem_nil, or_false] at hp
      rcases hp with rfl | rfl
      · exact ⟨e1, Heap.get?_none_of_le (by rw [hz]; exact Nat.le_succ _)⟩
      · exact ⟨e2, Heap.get?_none_of_le (Nat.le_of_eq hz)⟩
  let G := hideAll h₂ (led₁.map (·.1))
  have gG : g.StaysIn G := fun b o e => hideAll_get _ (up1 _ _ (hs b o e)) fun hm => by
    obtain ⟨p, hp, q⟩ := List.mem_map.mp hm
    rw [← q, (at1 p hp).2] at e; cases e
  have bG : base.StaysIn G := fun b o e => gG b o (B.stays b o e)
  refine q (h₁.objs.size + 1) led₁ L1 nd1 (dp + Code.weight (.builtin "type.__call__" ⟨.ref C :: xs, kw⟩)) (un + Code.cUnits (.builtin "type.__call__" ⟨.ref C :: xs, kw⟩)) ((ctA dp un gd outer).under (.builtin "type.__call__" ⟨.ref C :: xs, kw⟩)).guards outer base G h₂ gn dr tk os _ ⟨rfl, bG, B.frames.of_keeps fun b o e _ => ⟨o, gG b o e, rfl⟩⟩ (fun b o e => of_hideAll _ e) (hideAll_size _ _) (fun p hp => ⟨(at1 p hp).1, hideAll_none _ (List.mem_map_of_mem hp)⟩) Xb Tb (Xb.keeps bG) (Tb.keeps bG) ?_ ?_ ?_
  · have := wgt C xs kw; unfold need at *; omega
  · have := wun C xs kw; unfold need at *; omega
  · intro b r mu' h' tk' s1 s2 s3 o
    have gx : g.StaysIn G := gG
    have st : (hideAll g (frs outer)).StaysIn h' := fun b o e => s1 b o (hideAll_get _ (gG b o (of_hideAll _ e)) fun hm => by rw [hideAll_none _ hm] at e; cases e)
    have nn : ∀ p ∈ mu', h'.get? p.1 = some p.2 ∧ g.get? p.1 = none := fun p hp => ⟨(s3 p hp).1, by
      cases z : g.get? p.1 with
      | none => rfl
      | some o => have := (s3 p hp).2; rw [gG _ _ z] at this; cases this⟩
    cases b with
    | true =>
      obtain ⟨w, a, oe, d, od, tr, led', ρ', H', rfl, hΨ, -⟩ := o
      exact hΨ.elim
    | false =>
      obtain ⟨fl, ρ', H', hΨ, hp, l', nd', rv⟩ := o
      have fin : ∀ u, RV c.val ρ' u r → grd u.isNone (Φ (.ref H.length) H') → r = .none ∧ Φ (.ref H.length) H' := fun u ru hu => by
        obtain ⟨h1, h2⟩ := grd_inv hu
        cases ru with
        | none => exact ⟨rfl, h2⟩
        | _ => cases h1
      have hv : r = .none ∧ Φ (.ref H.length) H' := by
        cases rv with
        | next => exact fin .none .none hΨ
        | ret ru => exact fin _ ru hΨ
      obtain ⟨rfl, hΦ⟩ := hv
      refine ⟨rfl, ret false _ mu' h' tk' st (fun b o hb e => s2 b o hb (gG b o e)) nn ⟨.ret (.ref H.length), ρ', H', hΦ, (List.prefix_append _ _).trans hp, l', nd', .ret (.ref ?_)⟩⟩
      obtain ⟨t, rfl⟩ := hp
      rw [List.append_assoc, List.getElem?_append_right (Nat.le_of_eq l.length), l.length, Nat.sub_self]
      rfl
end
end N
end Mine
end
section
open PySem PySem.W PyProof.Rows PySem.Calls
set_option Elab.async false
set_option maxRecDepth 100000
set_option maxHeartbeats 1000000
namespace Mine
namespace N
section
variable {n : Nat} {f : Fx} {m : PySem.Str → Option Value} {ex : List (Addr × Obj)} {ρ : List Addr} {H : Hp} {h : Heap} {tk : Nat} {me : ME} {env : Env}
theorem pre_rfl {l : List Addr} : l <+: l := List.prefix_refl l
theorem room_up (r : room f (n + 1)) : room f n := by unfold room need at *; omega
theorem rv_int {i : Int} {t : Tok} : RV c.val ρ (.i i) (.int i t) := by
  have := RV.int (val := c.val) (ρ := ρ) 0 i t
  rwa [c.v0, Int.zero_add] at this
noncomputable def isInt (o : Option (Option Value)) (i : Int) : Bool := match o with
  | some (some (.int j _)) => decide (j = i)
  | _ => false
theorem isInt_inv {o : Option (Option Value)} {i : Int} (h : isInt o i = true) : ∃ t, o = some (some (.int i t)) := by
  rcases o with _ | _ | v
  · cases h
  · cases h
  · cases v with
    | int j t => exact ⟨t, by rw [of_decide_eq_true h]⟩
    | _ => cases h
/-- the globals that the texts use -/
noncomputable def gV (w : World) (x : Nat) (v : V) : Bool := match v with
  | .fn a => nsIn (hdA.heap_1_39 w.params) mainGlobals (nm x) == some (some (.ref a))
  | .bi b => (nsIn (hdA.heap_1_39 w.params) mainGlobals (nm x) == some none) && (bootBuiltins (nm x) == some b.val && nm x != "__name__")
  | .int k i => Nat.beq k 0 && isInt (nsIn (hdA.heap_1_39 w.params) mainGlobals (nm x)) i
  | _ => false
noncomputable def gOK (w : World) (p : Nat × V) : Bool := decide (p.1 < tb.length) && gV w p.1 p.2
theorem globs_ok (w : World) : globs.all (gOK w) = true := by kernel_rfl
theorem lookc_mem {α : Type} {x : Nat} {v : α} {l : List (Nat × α)} : lookc x l = some v → (x, v) ∈ l := by
  induction l with
  | nil => intro h; cases h
  | cons p r ih =>
    intro h
    rw [lookc] at h
    by_cases e : p.1 = x
    · rw [if_pos e] at h; cases h; rw [← e]; exact .head _
    · rw [if_neg e] at h; exact .tail _ (ih h)
theorem nm_nd : tb.all (fun s => (PySem.Str.ofString s == ("__debug__" : PySem.Str)) == false) = true := by decide +kernel
theorem nm_debug {x : Nat} (hx : x < tb.length) : (nm x == ("__debug__" : PySem.Str)) = false := by
  have := List.all_eq_true.mp nm_nd tb[x] (List.getElem_mem hx)
  unfold nm
  rw [List.getD_eq_getElem?_getD, List.getElem?_eq_getElem hx]
  simpa using this
theorem glob_eval (K : FxOK c mean mg mb f) (F : Fr f.gz f.L h m) (kind : env.scope.kind = .function) (gl : env.globals = mainGlobals) (bi : env.builtins = builtinsNs) {x : Nat} {v : V} {pos : Pos} {A : Around} {Q : Value → Shared → Prop} (hk : env.kindOf (nm x) = some .globalImplicit) (hv : lookc x globs = some v)
    (q : ∀ y, RV c.val ρ v y → Q y (f.st h tk)) : wpAny (model prg c.w) A (eval (.Name (nm x) pos) env) Q (fun _ _ => False) (f.st h tk) := by
  have hg := List.all_eq_true.mp (globs_ok c.w) _ (lookc_mem hv)
  obtain ⟨hx, hg⟩ := (Bool.and_eq_true _ _).mp hg
  have hx := of_decide_eq_true hx
  have T := K.T.keeps F.keep
  have gT : (f.st h tk).heap.Ns env.globals mg := by rw [gl]; exact T.g
  refine Name_function_global kind hk ?_ (nm_debug hx)
  cases v with
  | fn a =>
    have hg : (nsIn (hdA.heap_1_39 c.w.params) mainGlobals (nm x) == some (some (.ref a))) = true := hg
    exact loadGlobal_global gT (mg_of K.X K.T.g (beq_iff_eq.mp hg)) (q _ (.fn a))
  | bi b =>
    have hg : ((nsIn (hdA.heap_1_39 c.w.params) mainGlobals (nm x) == some none) && (bootBuiltins (nm x) == some b.val && nm x != "__name__")) = true := hg
    obtain ⟨h1, h2⟩ := (Bool.and_eq_true _ _).mp hg
    obtain ⟨h2, h3⟩ := (Bool.and_eq_true _ _).mp h2
    exact loadGlobal_builtin gT (mg_none_of K.X K.T.g (beq_iff_eq.mp h1)) (by rw [bi]; exact T.b) ((T.builtins _ (by simpa using h3)).trans (beq_iff_eq.mp h2)) (q _ (.bi b))
  | int k i =>
    obtain ⟨h1, h2⟩ := (Bool.and_eq_true _ _).mp (show (Nat.beq k 0 && isInt (nsIn (hdA.heap_1_39 c.w.params) mainGlobals (nm x)) i) = true from hg)
    obtain ⟨t, e⟩ := isInt_inv h2
    cases Nat.eq_of_beq_eq_true h1
    exact loadGlobal_global gT (mg_of K.X K.T.g e) (q _ rv_int)
  | _ => cases hg
theorem O.cell_inv {o : O} {v : Option V} (h : o.cell? = some v) : o = .cell v := by
  cases o <;> cases h; rfl
/-- an object that is there, of a kind -/
theorem at_inv {α : Type} {k : Nat} {g : O → Option α} {y : α} (h : H[k]?.bind g = some y) : ∃ o, H[k]? = some o ∧ g o = some y := Option.bind_eq_some_iff.mp h
theorem cell_at (R : Rl c f m ex ρ H h) {k : Nat} {v : V} (hk : H[k]? = some (.cell (some v))) {a : Addr} (ha : ρ[k]? = some a) : ∃ x, h.IsCell a (some x) ∧ RV c.val ρ v x := by
  obtain ⟨a', es, pre, post, e1, x, N, -⟩ := R.at hk
  rw [ha] at e1; cases e1
  cases x with
  | @cell _ _ _ o d r =>
    cases r with
    | some r => exact ⟨_, ⟨o, (N (a, o) (List.mem_append_right _ (List.mem_append_left _ (.head _)))).1, d⟩, r⟩
/-- a name is read -/
theorem name_eval (K : FxOK c mean mg mb f) (R : Rl c f m ex ρ H h) (EK : EnvOK f c me env m ex ρ) {x : Nat} {v : V} {pos : Pos} {Q : Value → Shared → Prop} (hv : lookN me x H = some v)
    (q : ∀ y, RV c.val ρ v y → Q y (f.st h tk)) : wpAny (model prg c.w) f.A (eval (.Name (nm x) pos) env) Q (fun _ _ => False) (f.st h tk) := by
  unfold lookN at hv
  cases e : lookc x me.cl with
  | some k =>
    rw [e] at hv
    obtain ⟨hx, hk, a, ha, hc⟩ := EK.cl x k e
    obtain ⟨u, hu, e2⟩ := Option.bind_eq_some_iff.mp hv
    cases (show u = some v from e2)
    obtain ⟨o, hu, e3⟩ := at_inv hu
    cases O.cell_inv e3
    obtain ⟨y, hcell, r⟩ := cell_at R hu ha
    exact wpAny_Name (wpAny_loadName_cell EK.kind hk hc hcell (q y r)) (nm_debug hx)
  | none =>
    rw [e] at hv
    cases e1 : lookc x me.loc with
    | some u =>
      rw [e1] at hv
      cases hv
      obtain ⟨m', hm, hl⟩ := EK.loc
      obtain ⟨hx, hk, y, hy, r⟩ := hl x v e1 e
      refine wpAny_Name (wpAny_loadName_local EK.kind hk ?_ hy (q y r)) (nm_debug hx)
      rcases hm with ⟨e1, rfl⟩ | ⟨oC, hC, hn⟩
      · rw [e1]; exact R.F.ns
      · obtain ⟨fs, led, _, _, _, N, _⟩ := R.N
        exact hn.ns (N _ (List.mem_append_left _ hC)).1
    | none =>
      rw [e1] at hv
      obtain ⟨_, h1, h2⟩ := Option.bind_eq_some_iff.mp hv
      exact glob_eval K R.F EK.kind EK.gl EK.bi (EK.gs x (gO_inv h1).1).2 h2 q
theorem star_ne {e : PySem.Expr} {rest : List PySem.Expr} (h : ∀ x p, e ≠ .Starred x p) : starEach (e :: rest) env = (false, eval e env) :: starEach rest env := by
  cases e <;> first | rfl | exact absurd rfl (h _ _)
theorem not_star {e : PySem.Expr} {Φ : V → Hp → Prop} (hE : (run orc n).E me (cE e) H Φ) : ∀ x p, e ≠ .Starred x p := by
  intro x p z
  subst z
  cases n <;> exact hE.elim
/-- a list of expressions -/
theorem sound_es (SE : SoundE c mean mg mb orc n) (K : FxOK c mean mg mb f) (hr : room f n) {pos : Pos} (es : List PySem.Expr) : ∀ {ρ : List Addr} {H : Hp} {h : Heap} {tk : Nat} {Φ : List V → Hp → Prop} {Q : List Value → Shared → Prop}, evs (run orc n) me (cEs es) H Φ → Rl c f m ex ρ H h → EnvOK f c me env m ex ρ →
    PEs c f m ex ρ es.length Φ Q → wpAny (model prg c.w) f.A (spliced (backTo pos (starEach es env))) Q (fun _ _ => False) (f.st h tk) := by
  induction es with
  | nil => intro ρ H h tk Φ Q hE R EK P; exact wpAny_items_nil (P [] H ρ h tk [] rfl hE pre_rfl R .nil)
  | cons e es ih =>
    intro ρ H h tk Φ Q hE R EK P
    refine wpAny_items_cons (SE f m ex ρ H h tk me env e _ _ K hE R EK hr ?_) (star_ne (not_star hE))
    intro v H' ρ' h' tk' x hv pre R' rv
    refine ih hv R' (EK.up pre) ?_
    intro vs H'' ρ'' h'' tk'' xs hlen hvs pre' R'' rvs
    exact P (v :: vs) H'' ρ'' h'' tk'' _ (congrArg Nat.succ hlen) hvs (pre.trans pre') R'' (.cons (rv.up pre') rvs)
/-- a new object, made by a push -/
theorem PE.alloc (K : FxOK c mean mg mb f) (R : Rl c f m ex ρ H h) {o : O} {ob : Obj} {Φ : V → Hp → Prop} {Q : Value → Shared → Prop} (P : PE c f m ex ρ Φ Q) (hA : alloc o H Φ) (x : RO c (ρ ++ [h.objs.size]) o h.objs.size [(h.objs.size, ob)]) (hf : ob.isFreed = false := by rfl) :
    Q (.ref h.objs.size) (f.st (h.push ob) tk) := by
  unfold N.alloc at hA
  rw [fH_eq] at hA
  refine P _ _ _ _ _ _ hA (List.prefix_append _ _) (R.push K x hf) (.ref ?_)
  rw [← R.len, List.getElem?_append_right (Nat.le_refl _), Nat.sub_self]
  rfl
end
end N
end Mine
end
section
open PySem PySem.W PyProof.Rows PySem.Calls
set_option Elab.async false
set_option maxRecDepth 100000
set_option maxHeartbeats 1000000
namespace Mine
namespace N
section
variable {n : Nat} {f : Fx} {m : PySem.Str → Option Value} {ex : List (Addr × Obj)} {ρ : List Addr} {H : Hp} {h : Heap} {tk : Nat} {me : ME} {env : Env} {Φ : V → Hp → Prop} {Q : Value → Shared → Prop}
theorem Rl.grow (K : FxOK c mean mg mb f) (R : Rl c f m ex ρ H h) : ∃ news, News f.gz f.L h news ∧ (∀ {k : Nat} {o : O} {a : Addr}, H[k]? = some o → ρ[k]? = some a → ∃ es, RO c ρ o a es ∧ ∀ p ∈ es, p ∈ news) ∧
    (∀ p ∈ ex, p ∈ news) ∧ (∀ o D ob h' m', RO c (ρ ++ [D]) o D [(D, ob)] → Fr f.gz f.L h' m' → News f.gz f.L h' ((D, ob) :: news) → (∀ p ∈ news, p.1 < D) → Rl c f m' ex (ρ ++ [D]) (H ++ [o]) h') ∧
    ∀ h' m', Fr f.gz f.L h' m' → News f.gz f.L h' news → Rl c f m' ex ρ H h' := by
  obtain ⟨F, fs, led, l, a, b, N, nd, off⟩ := R
  refine ⟨_, N, fun {k o ad} e1 e2 => ?_, fun p hp => List.mem_append_left _ hp, fun o D ob h' m' x F' N' lt => ?_, fun h' m' F' N' => ⟨F', fs, led, l, a, b, N', nd, off⟩⟩
  · obtain ⟨es, x, y⟩ := l.mem e1 e2
    exact ⟨es, x, fun p hp => List.mem_append_right _ (List.mem_append_left _ (y p hp))⟩
  · have nof : D ∉ frs f.outer := fun hm => by
      obtain ⟨o', ho', _⟩ := (K.frames.mem hm).2
      obtain ⟨sl, q⟩ := a _ _ hm ho'
      exact Nat.lt_irrefl _ (lt _ (List.mem_append_right _ (List.mem_append_right _ q)))
    refine ⟨F', fs, led ++ [(D, ob)], (l.up (List.prefix_append _ _)).snoc x, a, b, fun p hp => N' p ?_, ?_, fun p hp => ?_⟩
    · simp only [List.mem_append, List.mem_cons, List.not_mem_nil, or_false] at hp ⊢
      rcases hp with h | (h | h) | h
      · exact .inr (.inl h)
      · exact .inr (.inr (.inl h))
      · exact .inl h
      · exact .inr (.inr (.inr h))
    · rw [← List.append_assoc, List.map_append, List.nodup_append]
      refine ⟨nd, by simp, fun x hx y hy => ?_⟩
      simp only [List.map_cons, List.map_nil, List.mem_singleton] at hy
      obtain ⟨p, hp, rfl⟩ := List.mem_map.mp hx
      rw [hy]
      refine Nat.ne_of_lt (lt p ?_)
      rcases List.mem_append.mp hp with hp | hp
      · exact List.mem_append_left _ hp
      · exact List.mem_append_right _ (List.mem_append_left _ hp)
    · rw [← List.append_assoc] at hp
      rcases List.mem_append.mp hp with hp | hp
      · exact off p hp
      · rw [List.mem_singleton.mp hp]; exact nof
theorem PE.new (P : PE c f m ex ρ Φ Q) {o : O} {D : Addr} {h' : Heap} (hA : N.alloc o H Φ) (hl : ρ.length = H.length) (R' : Rl c f m ex (ρ ++ [D]) (H ++ [o]) h') : Q (.ref D) (f.st h' tk) := by
  unfold N.alloc at hA
  rw [fH_eq] at hA
  refine P _ _ _ _ _ _ hA (List.prefix_append _ _) R' (.ref ?_)
  rw [← hl, List.getElem?_append_right (Nat.le_refl _), Nat.sub_self]
  rfl
/-- a value that tells nothing new of the heap -/
theorem PE.val (P : PE c f m ex ρ Φ Q) {v : V} {x : Value} (hv : Φ v H) (R : Rl c f m ex ρ H h) (r : RV c.val ρ v x) : Q x (f.st h tk) := P v H ρ h tk x hv pre_rfl R r
theorem rv_i {k : Nat} {i : Int} {t : Tok} {j : Int} (e : c.val k + i = j) : RV c.val ρ (.int k i) (.int j t) := e ▸ .int k i t
theorem list_at (R : Rl c f m ex ρ H h) {k : Nat} {xs : List V} (hk : H[k]? = some (.list xs)) {a : Addr} (ha : ρ[k]? = some a) : ∃ ys, h.IsList a (List.toArray ys) ∧ RVs c.val ρ xs ys := by
  obtain ⟨a', es, pre, post, e1, x, N, -⟩ := R.at hk
  rw [ha] at e1; cases e1
  cases x with
  | list r => exact ⟨_, ⟨_, (N (a, _) (List.mem_append_right _ (List.mem_append_left _ (.head _)))).1, rfl, _, rfl⟩, r⟩
theorem tup_at (R : Rl c f m ex ρ H h) {k : Nat} {xs : List V} (hk : H[k]? = some (.tup xs)) {a : Addr} (ha : ρ[k]? = some a) : ∃ ys, IsTup h a (List.toArray ys) ∧ RVs c.val ρ xs ys := by
  obtain ⟨a', es, pre, post, e1, x, N, -⟩ := R.at hk
  rw [ha] at e1; cases e1
  cases x with
  | tup r => exact ⟨_, ⟨_, (N (a, _) (List.mem_append_right _ (List.mem_append_left _ (.head _)))).1, rfl, _, rfl⟩, r⟩
theorem small_iff {i : Int} : small i = true ↔ -1000000 ≤ i ∧ i ≤ 1000000 := by simp [small]
theorem V.int_inv {v : V} {p : Nat × Int} (h : v.int? = some p) : v = .int p.1 p.2 := by
  cases v <;> cases h; rfl
theorem V.pln_inv {v : V} {i : Int} (h : v.pln? = some i) : v = .i i := by
  cases v with
  | int k c =>
    cases k with
    | zero => cases h; rfl
    | succ k => cases h
  | _ => cases h
theorem V.ref_inv {v : V} {a : Nat} (h : v.ref? = some a) : v = .ref a := by
  cases v <;> cases h; rfl
theorem V.str_inv {v : V} {a : Nat} (h : v.str? = some a) : v = .str a := by
  cases v <;> cases h; rfl
theorem V.bool_inv {v : V} {a : Bool} (h : v.bool? = some a) : v = .bool a := by
  cases v <;> cases h; rfl
theorem V.none_inv {v : V} (h : v.isNone = true) : v = .none := by
  cases v <;> first | rfl | cases h
theorem O.list_inv {o : O} {xs : List V} (h : o.list? = some xs) : o = .list xs := by
  cases o <;> cases h; rfl
theorem O.tup_inv {o : O} {xs : List V} (h : o.tup? = some xs) : o = .tup xs := by
  cases o <;> cases h; rfl
theorem O.dict_inv {o : O} {p : Option Nat × List (Nat × V)} (h : o.dict? = some p) : o = .dict p.1 p.2 := by
  cases o <;> cases h; rfl
theorem O.inst_inv {o : O} {p : Nat × List (Nat × V)} (h : o.inst? = some p) : o = .inst p.1 p.2 := by
  cases o <;> cases h; rfl
theorem rv_sym {v : V} {x : Value} {p : Nat × Int} (r : RV c.val ρ v x) (h : v.int? = some p) : ∃ t, x = .int (c.val p.1 + p.2) t := by
  cases V.int_inv h
  cases r with
  | int _ _ t => exact ⟨t, rfl⟩
theorem rv_pln {v : V} {x : Value} {i : Int} (r : RV c.val ρ v x) (h : v.pln? = some i) : ∃ t, x = .int i t := by
  cases V.pln_inv h
  cases r with
  | int _ _ t => exact ⟨t, by rw [c.v0, Int.zero_add]⟩
theorem rv_str {v : V} {x : Value} {k : Nat} (r : RV c.val ρ v x) (h : v.str? = some k) : ∃ t, x = .str (nm k) t ∧ k < tb.length := by
  cases V.str_inv h
  cases r with
  | str _ t h => exact ⟨t, rfl, h⟩
theorem rv_bool {v : V} {x : Value} {b : Bool} (r : RV c.val ρ v x) (h : v.bool? = some b) : x = .bool b := by
  cases V.bool_inv h
  cases r; rfl
theorem rv_ref {v : V} {x : Value} {a : Nat} (r : RV c.val ρ v x) (h : v.ref? = some a) : ∃ ad, x = .ref ad ∧ ρ[a]? = some ad := by
  cases V.ref_inv h
  cases r with
  | ref ha => exact ⟨_, rfl, ha⟩
/-- a value that names an object -/
theorem ob_at {v : V} {x : Value} {o : O} (r : RV c.val ρ v x) (h : obOf H v = some o) : ∃ a ad, v = .ref a ∧ x = .ref ad ∧ ρ[a]? = some ad ∧ H[a]? = some o := by
  obtain ⟨a, h1, h2⟩ := Option.bind_eq_some_iff.mp h
  obtain ⟨ad, e1, e2⟩ := rv_ref r h1
  exact ⟨a, ad, V.ref_inv h1, e1, e2, h2⟩
theorem and_inv {a b : Bool} (h : (a && b) = true) : a = true ∧ b = true := (Bool.and_eq_true a b).mp h
theorem sizeLine_of {k : Nat} (h : k ≤ 1000) : k ≤ sizeLine := by rw [sizeLine_eq]; omega
theorem addk_val {k j n : Nat} (h : addk k j = some n) : c.val n = c.val k + c.val j := by
  cases k with
  | zero => cases h; rw [c.v0, Int.zero_add]
  | succ k =>
    cases j with
    | zero => cases h; rw [c.v0, Int.add_zero]
    | succ j => cases h
theorem subk_val {k j n : Nat} (h : subk k j = some n) : c.val n = c.val k - c.val j := by
  cases j with
  | zero => cases h; rw [c.v0, Int.sub_zero]
  | succ j =>
    obtain ⟨h1, rfl⟩ := gO_inv h
    rw [Nat.eq_of_beq_eq_true h1, c.v0, Int.sub_self]
theorem small_abs {i : Int} (h : small i = true) : -1000000 ≤ i ∧ i ≤ 1000000 := small_iff.mp h
theorem cat_sound (K : FxOK c mean mg mb f) (R : Rl c f m ex ρ H h) {o p : O} {a b : Nat} {ad bd : Addr} (hB : cat o p H Φ) (ea : H[a]? = some o) (eb : H[b]? = some p) (ha : ρ[a]? = some ad) (hb : ρ[b]? = some bd) (P : PE c f m ex ρ Φ Q) :
    wpAny (model prg c.w) f.A (binaryOp .Add (.ref ad) (.ref bd)) Q (fun _ _ => False) (f.st h tk) := by
  obtain ⟨news, N, _, _, gr, _⟩ := R.grow K
  cases o with
  | list xs =>
    obtain ⟨ys, e, hB⟩ := som_inv hB
    cases O.list_inv e
    obtain ⟨hl, hB⟩ := grd_inv hB
    obtain ⟨us, l1, r1⟩ := list_at R ea ha
    obtain ⟨vs, l2, r2⟩ := list_at R eb hb
    refine kmk_add_lit (s := f.st h tk) R.F N l1 l2 rfl (fun D h' F' N' lt => P.new hB R.len (gr _ _ _ _ _ (.list ((r1.append r2).up (List.prefix_append _ _))) F' N' lt)) ?_
    show us.length + vs.length ≤ sizeLine
    rw [r1.length, r2.length]; exact sizeLine_of (Nat.le_of_ble_eq_true hl)
  | tup xs =>
    obtain ⟨ys, e, hB⟩ := som_inv hB
    cases O.tup_inv e
    obtain ⟨hl, hB⟩ := grd_inv hB
    obtain ⟨hl, hn⟩ := and_inv hl
    obtain ⟨n1, n2⟩ := and_inv hn
    obtain ⟨us, l1, r1⟩ := tup_at R ea ha
    obtain ⟨vs, l2, r2⟩ := tup_at R eb hb
    refine kde_addT (s := f.st h tk) R.F N l1 l2 (fun z => ?_) (fun z => ?_) ?_ rfl (fun D h' F' N' lt => P.new hB R.len (gr _ _ _ _ _ (.tup ((r1.append r2).up (List.prefix_append _ _))) F' N' lt))
    · cases (show us = [] from z)
      cases r1
      cases n1
    · cases (show vs = [] from z)
      cases r2
      cases n2
    · show us.length + vs.length ≤ _
      rw [r1.length, r2.length]; exact Nat.le_trans (Nat.le_of_ble_eq_true hl) (by decide)
  | _ => exact hB.elim
theorem arith_sound (R : Rl c f m ex ρ H h) {op : Operator} {i j e : Int} {t u : Tok} (h0 : arith op i j = some e) (hB : Φ (.i e) H) (P : PE c f m ex ρ Φ Q) :
    wpAny (model prg c.w) f.A (binaryOp op (.int i t) (.int j u)) Q (fun _ _ => False) (f.st h tk) := by
  have fin : ∀ tk tk' e', e = e' → Q (.int e' tk') (f.st h tk) := fun tk tk' e' z => P.val hB R (z ▸ rv_int)
  cases op with
  | Mult =>
    obtain ⟨z, q⟩ := gO_inv h0
    obtain ⟨z1, z2⟩ := and_inv z
    have z1 := small_abs z1
    have z2 := small_abs z2
    exact PyProof.Rows.mul_int (s := f.st h tk) (fin _ _ _ q.symm)
  | Mod =>
    obtain ⟨z, q⟩ := gO_inv h0
    exact PyProof.Rows.mod_int (s := f.st h tk) (Int.ne_of_gt (of_decide_eq_true z)) (fin _ _ _ q.symm)
  | FloorDiv =>
    obtain ⟨z, q⟩ := gO_inv h0
    obtain ⟨z, z1⟩ := and_inv z
    obtain ⟨z1, z2⟩ := and_inv z1
    have z1 := small_abs z1
    have z2 := small_abs z2
    exact PyProof.Rows.floordiv_int (s := f.st h tk) (Int.ne_of_gt (of_decide_eq_true z)) (fin _ _ _ q.symm) (.inl (PyProof.noPylong_small (by omega)))
  | Pow =>
    obtain ⟨z, q⟩ := gO_inv h0
    obtain ⟨z1, z2⟩ := and_inv z
    obtain ⟨z1, z3⟩ := and_inv z1
    obtain ⟨z2, z4⟩ := and_inv z2
    have z1 := of_decide_eq_true z1
    have z3 := of_decide_eq_true z3
    have z4 := of_decide_eq_true z4
    exact PyProof.Rows.pow_int_small (s := f.st h tk) (of_decide_eq_true z2) (by omega) (by omega) (fin _ _ _ q.symm)
  | _ => cases h0
theorem binop_sound (K : FxOK c mean mg mb f) (R : Rl c f m ex ρ H h) {op : Operator} {u v : V} {x y : Value} (hB : binop op u v H Φ) (ru : RV c.val ρ u x) (rv : RV c.val ρ v y) (P : PE c f m ex ρ Φ Q) :
    wpAny (model prg c.w) f.A (binaryOp op x y) Q (fun _ _ => False) (f.st h tk) := by
  have rest : (som u.pln? fun c => som v.pln? fun d => som (arith op c d) fun e => Φ (.i e) H) → wpAny (model prg c.w) f.A (binaryOp op x y) Q (fun _ _ => False) (f.st h tk) := fun hB => by
    obtain ⟨i, e1, hB⟩ := som_inv hB
    obtain ⟨j, e2, hB⟩ := som_inv hB
    obtain ⟨e, e3, hB⟩ := som_inv hB
    obtain ⟨t, rfl⟩ := rv_pln ru e1
    obtain ⟨s, rfl⟩ := rv_pln rv e2
    exact arith_sound R e3 hB P
  cases op with
  | Add =>
    cases ru with
    | int k i t =>
      obtain ⟨q, e, hB⟩ := som_inv (show som v.int? _ from hB)
      obtain ⟨n, e2, hB⟩ := som_inv hB
      obtain ⟨s, rfl⟩ := rv_sym rv e
      refine PyProof.Rows.add_int (s := f.st h tk) (P.val hB R (rv_i ?_))
      rw [addk_val e2]; omega
    | @ref a ad ha =>
      obtain ⟨o, ea, hB⟩ := som_inv (show som H[a]? _ from hB)
      obtain ⟨p, eb, hB2⟩ := som_inv hB
      obtain ⟨b, bd, _, rfl, hb, eb⟩ := ob_at rv eb
      exact cat_sound K R hB2 ea eb ha hb P
    | _ => exact hB.elim
  | Sub =>
    obtain ⟨p, e1, hB⟩ := som_inv hB
    obtain ⟨q, e2, hB⟩ := som_inv hB
    obtain ⟨n, e3, hB⟩ := som_inv hB
    obtain ⟨t, rfl⟩ := rv_sym ru e1
    obtain ⟨s, rfl⟩ := rv_sym rv e2
    refine PyProof.Rows.sub_int (s := f.st h tk) (P.val hB R (rv_i ?_))
    rw [subk_val e3]; omega
  | _ => exact rest hB
end
end N
end Mine
end
section
open PySem PySem.W PyProof.Rows PySem.Calls
set_option Elab.async false
set_option maxRecDepth 100000
set_option maxHeartbeats 1000000
namespace Mine
theorem getL_cons {a : PySem.Str} {e : DictEntry} {X : List DictEntry} : getL a (e :: X) = if e.key.isStr a = true then some (some e.val) else match getL a X with | some (some v) => some (some v) | none => none | some none => if e.refKey = true then none else some none := by
  unfold getL
  rw [List.find?_cons]
  cases h : e.key.isStr a with
  | true => simp
  | false =>
    simp only [Bool.false_eq_true, if_false, List.any_cons]
    cases hf : X.find? (fun x => x.key.isStr a) with
    | some y => rfl
    | none =>
      simp only
      by_cases hr : e.refKey = true
      · simp only [hr, Bool.true_or, if_true]
        cases X.any fun x => x.refKey <;> rfl
      · have hr' : e.refKey = false := by simpa using hr
        simp only [hr', Bool.false_or, Bool.false_eq_true, if_false]
        cases X.any fun x => x.refKey <;> rfl
theorem str_key {a b : PySem.Str} {tk : Tok} : Value.isStr (.str b tk) a = decide (b = a) := by
  show (b == a) = _
  rw [Bool.eq_iff_iff]; simp
theorem getL_put {a b : PySem.Str} {h : Int} {tk : Tok} {v : Value} : ∀ {es : List DictEntry}, getL a (putL b h (.str b tk) v es) = if a = b then some (some v) else getL a es
  | [] => by
    simp only [putL, getL_cons, str_key]
    by_cases e : a = b
    · subst e; simp
    · rw [if_neg e, if_neg (by simpa using Ne.symm e)]
      rfl
  | x :: es => by
    simp only [putL]
    by_cases hx : x.key.isStr b = true
    · rw [if_pos hx, getL_cons, getL_cons]
      by_cases e : a = b
      · subst e
        rw [if_pos hx, if_pos rfl]
      · have h1 : x.key.isStr a = false := isStr_other e x hx
        rw [if_neg e, h1]
        rfl
    · rw [if_neg hx, getL_cons, getL_cons, getL_put (es := es)]
      by_cases e : a = b
      · subst e
        rw [if_neg hx, if_pos rfl, if_pos rfl]
      · rw [if_neg e, if_neg e]
theorem putL_len {b : PySem.Str} {h : Int} {k v : Value} : ∀ {es : List DictEntry}, (putL b h k v es).length ≤ es.length + 1
  | [] => by simp [putL]
  | x :: es => by
    simp only [putL]
    split
    · simp
    · have := putL_len (b := b) (h := h) (k := k) (v := v) (es := es)
      simp only [List.length_cons]; omega
theorem putL_any {b : PySem.Str} {h : Int} {k v : Value} : ∀ {es : List DictEntry}, (es.any fun e => e.key.isStr b) = true → (putL b h k v es).length = es.length
  | [], q => by simp at q
  | x :: es, q => by
    simp only [putL]
    split
    · simp
    · rename_i z
      have z' : x.key.isStr b = false := by simpa using z
      simp only [List.any_cons, z', Bool.false_or] at q
      simp only [List.length_cons, putL_any q]
section
variable {prog : Program} {w : World} {A : Around} {E : Value → Shared → Prop} {s : Shared} {K : Frag} {x C dx L : Addr} {h₀ : Heap} {m : PySem.Str → Option Value} {es : List DictEntry} {n : Nat} {name : PySem.Str} {v : Value}
theorem upd_mid {d : Addr} {o o' : Obj} {post : List (Addr × Obj)} (b : ∀ p ∈ post, p.1 ≠ d) : ∀ {pre : List (Addr × Obj)}, (∀ p ∈ pre, p.1 ≠ d) → Upd d o o' (pre ++ (d, o) :: post) (pre ++ (d, o') :: post)
  | [], _ => .head b
  | x :: pre, a => .tail (a x (.head _)) (upd_mid b fun p hp => a p (.tail _ hp))
theorem updF_mid {d : Addr} {o : Obj} {post : List (Addr × Obj)} (b : ∀ p ∈ post, p.1 ≠ d) : ∀ {pre : List (Addr × Obj)}, (∀ p ∈ pre, p.1 ≠ d) → UpdF d o (pre ++ (d, o) :: post) (fun o' => pre ++ (d, o') :: post)
  | [], _ => .head b
  | x :: pre, a => .tail (a x (.head _)) (updF_mid b fun p hp => a p (.tail _ hp))
end
namespace N
noncomputable def noGetO (K : Frag) (o : Option (Option Value)) : Bool := match o with
  | some attr => noGet K attr
  | none => false
theorem noGet_inv {K : Frag} {o : Option (Option Value)} (h : noGetO K o = true) : ∃ attr, o = some attr ∧ noGet K attr = true := by
  cases o with
  | none => cases h
  | some attr => exact ⟨attr, rfl, h⟩
noncomputable def atChk (w : World) (C n : Nat) : Bool := plainGet (hdA.heap_1_39 w.params) C (nm n) && hasDictIn (hdA.heap_1_39 w.params) C && noGetO (hdA.heap_1_39 w.params) (findIn (hdA.heap_1_39 w.params) (.ref C) (nm n)) &&
  findIn (hdA.heap_1_39 w.params) (.ref C) "__setattr__" == some (some (.builtin "object.__setattr__")) && plainOver (hdA.heap_1_39 w.params) C && takerIn (hdA.heap_1_39 w.params) C (nm n) == some none && decide (n < tb.length)
theorem at_chk (w : World) : clsa.all (fun p => atl.all fun n => atChk w p.1 n) = true := by kernel_rfl
theorem at_ok (w : World) {C n : Nat} (h : atOK C n = true) : atChk w C n = true := by
  obtain ⟨h1, hn⟩ := and_inv h
  obtain ⟨i, hi⟩ := Option.isSome_iff_exists.mp h1
  have := List.all_eq_true.mp (at_chk w) _ (lookc_mem hi)
  exact List.all_eq_true.mp this n (hasc_iff.mp hn)
section
variable {n : Nat} {f : Fx} {m : PySem.Str → Option Value} {ex : List (Addr × Obj)} {ρ : List Addr} {H : Hp} {h : Heap} {tk : Nat} {me : ME} {env : Env} {Φ : V → Hp → Prop} {Q : Value → Shared → Prop}
theorem inst_at (R : Rl c f m ex ρ H h) {k C : Nat} {es : List (Nat × V)} (hk : H[k]? = some (.inst C es)) {a : Addr} (ha : ρ[k]? = some a) : ∃ d des n, InstAt h a (instObj C d) C (some (dictOf des n)) ∧ RAt c.val ρ es des := by
  obtain ⟨a', es', pre, post, e1, x, N, -⟩ := R.at hk
  rw [ha] at e1; cases e1
  cases x with
  | @inst _ _ _ d des n r hd => exact ⟨d, des, n, ⟨(N (a, _) (List.mem_append_right _ (List.mem_append_left _ (.head _)))).1, rfl, rfl, (N (d, _) (List.mem_append_right _ (List.mem_append_left _ (.tail _ (.head _))))).1⟩, r⟩
theorem handed_no {v : V} {x : Value} (r : RV c.val ρ v x) (h : noBi v = true) : handedIn x = true := by
  cases r <;> first | rfl | cases h
theorem getattr_sound (K : FxOK c mean mg mb f) (R : Rl c f m ex ρ H h) {u v : V} {x : Value} {k : Nat} (hv : getattr u k H = some v) (ru : RV c.val ρ u x) (hΦ : Φ v H) (P : PE c f m ex ρ Φ Q) :
    wpAny (model prg c.w) f.A (getAttr x (nm k) true) Q (fun _ _ => False) (f.st h tk) := by
  obtain ⟨o, e, v1⟩ := Option.bind_eq_some_iff.mp hv
  obtain ⟨a, ad, _, rfl, ha, e⟩ := ob_at ru e
  obtain ⟨p, e1, v2⟩ := Option.bind_eq_some_iff.mp v1
  cases O.inst_inv e1
  obtain ⟨_, hat, v3⟩ := Option.bind_eq_some_iff.mp v2
  have chk := at_ok c.w (gO_inv hat).1
  obtain ⟨w, hl, v4⟩ := Option.bind_eq_some_iff.mp v3
  obtain ⟨hb, rfl⟩ := gO_inv v4
  obtain ⟨chk, c7⟩ := and_inv chk
  obtain ⟨chk, c6⟩ := and_inv chk
  obtain ⟨chk, c5⟩ := and_inv chk
  obtain ⟨chk, c4⟩ := and_inv chk
  obtain ⟨chk, c3⟩ := and_inv chk
  obtain ⟨c1, c2⟩ := and_inv chk
  obtain ⟨d, des, n, I, r⟩ := inst_at R e ha
  obtain ⟨y, g1, g2⟩ := r.has k w hl
  obtain ⟨attr, hattr, c3⟩ := noGet_inv c3
  exact get_own (s := f.st h tk) R.F K.X I c1 c2 hattr c3 g1 (handed_no g2 hb) (P.val hΦ R g2)
theorem lookc_putc {α : Type} {c d : Nat} {v : α} {es : List (Nat × α)} : lookc c (putc d v es) = if c = d then some v else lookc c es := by
  induction es with
  | nil =>
    rw [putc, show lookc c [(d, v)] = if d = c then some v else none from rfl]
    show _ = if c = d then some v else none
    by_cases e : d = c
    · rw [if_pos e, if_pos e.symm]
    · rw [if_neg e, if_neg (Ne.symm e)]
  | cons p r ih =>
    rw [putc]
    by_cases e : p.1 = d
    · rw [if_pos e, lookc, lookc]
      by_cases e2 : p.1 = c
      · rw [if_pos e2, if_pos (e2.symm.trans e)]
      · rw [if_neg e2, if_neg fun z => e2 (e.trans z.symm), if_neg e2]
    · rw [if_neg e, lookc, lookc]
      by_cases e2 : p.1 = c
      · rw [if_pos e2, if_neg fun z => e (e2.trans z), if_pos e2]
      · rw [if_neg e2, if_neg e2, ih]
theorem putc_some {α : Type} {d : Nat} {v w : α} {es : List (Nat × α)} : lookc d es = some w → (putc d v es).length = es.length := by
  induction es with
  | nil => intro h; cases h
  | cons p r ih =>
    intro h
    rw [lookc] at h
    rw [putc]
    by_cases e : p.1 = d
    · rw [if_pos e]; rfl
    · rw [if_neg e] at h ⊢
      exact congrArg Nat.succ (ih h)
theorem putc_none {α : Type} {d : Nat} {v : α} {es : List (Nat × α)} : lookc d es = none → (putc d v es).length = es.length + 1 := by
  induction es with
  | nil => intro h; rfl
  | cons p r ih =>
    intro h
    rw [lookc] at h
    rw [putc]
    by_cases e : p.1 = d
    · rw [if_pos e] at h; cases h
    · rw [if_neg e] at h ⊢
      exact congrArg Nat.succ (ih h)
theorem putc_keys {α : Type} {d : Nat} {v : α} {es : List (Nat × α)} {k : Nat} (hd : d < k) (h : ∀ p ∈ es, p.1 < k) : ∀ p ∈ putc d v es, p.1 < k := by
  induction es with
  | nil => intro p hp; simp [putc] at hp; rw [hp]; exact hd
  | cons q r ih =>
    obtain ⟨a, y⟩ := q
    intro p hp
    simp only [putc] at hp
    split at hp
    · rcases List.mem_cons.mp hp with rfl | hp
      · exact h (a, y) (.head _)
      · exact h p (.tail _ hp)
    · rcases List.mem_cons.mp hp with rfl | hp
      · exact h (a, y) (.head _)
      · exact ih (fun p hp => h p (.tail _ hp)) p hp
theorem getL_none_len {a : PySem.Str} {es : List DictEntry} {v : Value} (h : getL a es = some (some v)) : (es.any fun e => e.key.isStr a) = true := by
  unfold getL at h
  split at h
  · rename_i e he
    rw [List.any_eq_true]
    exact ⟨e, List.mem_of_find?_eq_some he, List.find?_some (p := fun e : DictEntry => e.key.isStr a) he⟩
  · split at h <;> cases h
theorem setattr_sound (K : FxOK c mean mg mb f) (R : Rl c f m ex ρ H h) {u v : V} {x y : Value} {k : Nat} {Ψ : Hp → Prop} {Q : Unit → Shared → Prop} (hS : setattr u k v H Ψ) (ru : RV c.val ρ u x) (rv : RV c.val ρ v y)
    (P : ∀ H' h' tk', Ψ H' → Rl c f m ex ρ H' h' → Q () (f.st h' tk')) : wpAny (model prg c.w) f.A (setAttr x (nm k) y) Q (fun _ _ => False) (f.st h tk) := by
  obtain ⟨a, e0, hS1⟩ := som_inv hS
  obtain ⟨p, e, hS2⟩ := som_inv hS1
  obtain ⟨o, e, e2⟩ := at_inv e
  obtain ⟨C, es⟩ := p
  cases O.inst_inv e2
  obtain ⟨hat, hS⟩ := grd_inv hS2
  obtain ⟨hle, hat⟩ := and_inv hat
  have hle := Nat.le_of_ble_eq_true hle
  obtain ⟨ad, rfl, ha⟩ := rv_ref ru e0
  have chk := at_ok c.w hat
  obtain ⟨chk, c7⟩ := and_inv chk
  obtain ⟨chk, c6⟩ := and_inv chk
  obtain ⟨chk, c5⟩ := and_inv chk
  obtain ⟨chk, c4⟩ := and_inv chk
  obtain ⟨chk, c3⟩ := and_inv chk
  obtain ⟨c1, c2⟩ := and_inv chk
  have c7 := of_decide_eq_true c7
  have c4 := beq_iff_eq.mp c4
  have c6 := beq_iff_eq.mp c6
  obtain ⟨a', es', pre, post, e1, X, N, nd, ap, up⟩ := R.at e
  rw [ha] at e1; cases e1
  cases X with
  | @inst _ _ _ d des n r hd =>
    have mx : (ad, instObj C d) ∈ pre ++ ([(ad, instObj C d), (d, dictOf des n)] ++ post) := List.mem_append_right _ (List.mem_append_left _ (.head _))
    have md : (d, dictOf des n) ∈ pre ++ ([(ad, instObj C d), (d, dictOf des n)] ++ post) := List.mem_append_right _ (List.mem_append_left _ (.tail _ (.head _)))
    obtain ⟨a1, a2⟩ := ap (d, dictOf des n) (.tail _ (.head _))
    have hls : (getL (nm k) des).isSome = true := by
      cases q : lookc k es with
      | some v' => obtain ⟨y', g1, _⟩ := r.has k v' q; rw [g1]; rfl
      | none => rw [r.hasnt k c7 q]; rfl
    have U : Upd d (dictOf des n) (dictOf (putL (nm k) (PyData.keyHash c.w.params (nm k)) (.str (nm k) (tk + 1)) y des) (putN (nm k) des n)) (pre ++ ([(ad, instObj C d), (d, dictOf des n)] ++ post)) (pre ++ ([(ad, instObj C d), (d, dictOf (putL (nm k) (PyData.keyHash c.w.params (nm k)) (.str (nm k) (tk + 1)) y des) (putN (nm k) des n))] ++ post)) := by
      have := upd_mid (o := dictOf des n) (o' := dictOf (putL (nm k) (PyData.keyHash c.w.params (nm k)) (.str (nm k) (tk + 1)) y des) (putN (nm k) des n)) a2 (pre := pre ++ [(ad, instObj C d)]) fun p hp => by
        rcases List.mem_append.mp hp with hp | hp
        · exact a1 p hp
        · rw [List.mem_singleton.mp hp]; exact hd.symm
      simpa [List.append_assoc] using this
    have hdl := r.len
    refine set_dict (s := f.st h tk) (ox := instObj C d) R.F K.X N (InstAt.of_news N mx md) (by rfl) c4 c5 c6 c2 hls rfl U (by have := putL_len (b := nm k) (h := PyData.keyHash c.w.params (nm k)) (k := .str (nm k) (tk + 1)) (v := y) (es := des); have := r.len; show (putL (nm k) (PyData.keyHash c.w.params (nm k)) (.str (nm k) (tk + 1)) y des).length ≤ 1000; omega) fun h' F' N' => ?_
    unfold seto at hS
    rw [fH_eq] at hS
    refine P _ _ _ hS (up _ _ _ [(ad, instObj C d), (d, dictOf (putL (nm k) (PyData.keyHash c.w.params (nm k)) (.str (nm k) (tk + 1)) y des) (putN (nm k) des n))] (.inst ⟨?_, fun x w hx => ?_, fun x hx hn => ?_, putc_keys c7 r.keys⟩ hd) rfl F' N')
    · cases q : lookc k es with
      | some v' =>
        obtain ⟨y', g1, _⟩ := r.has k v' q
        have := r.len
        have e3 := putL_any (h := PyData.keyHash c.w.params (nm k)) (k := .str (nm k) (tk + 1)) (v := y) (getL_none_len g1)
        rw [putc_some q]
        exact Nat.le_trans (Nat.le_of_eq e3) this
      | none =>
        have := r.len
        rw [putc_none q]
        exact Nat.le_trans putL_len (Nat.succ_le_succ this)
    · rw [lookc_putc] at hx
      rw [getL_put]
      by_cases z : x = k
      · rw [if_pos z] at hx; cases hx
        rw [z, if_pos rfl]
        exact ⟨y, rfl, rv⟩
      · rw [if_neg z] at hx
        obtain ⟨y', g1, g2⟩ := r.has x w hx
        have hx' : x < tb.length := r.keys _ (lookc_mem hx)
        rw [if_neg fun q => z (nm_inj hx' c7 q)]
        exact ⟨y', g1, g2⟩
    · rw [lookc_putc] at hn
      rw [getL_put]
      by_cases z : x = k
      · rw [if_pos z] at hn; cases hn
      · rw [if_neg z] at hn
        rw [if_neg fun q => z (nm_inj hx c7 q)]
        exact r.hasnt x hx hn
end
end N
end Mine
end
section
open PySem PySem.W PyProof.Rows PySem.Calls
set_option Elab.async false
set_option maxRecDepth 100000
set_option maxHeartbeats 1000000
namespace Mine
section
variable {prog : Program} {w : World} {A : Around} {E : Value → Shared → Prop} {s : Shared} {h₀ : Heap} {L : Addr} {m : PySem.Str → Option Value} {news : List (Addr × Obj)}
open PyProof.Rows
theorem cut_places {sl : Addr} {n k : Nat} {u : Tok} {Q : Int × Int × Nat → Shared → Prop} (hs : s.heap.IsSliceOf sl .none (.int (-1) u) .none) (h1 : Builtin.Slice.sliceAdjust none (some (-1)) 1 (n : Int) = (0, (k : Int))) (h2 : Builtin.Slice.slicePlaces 0 (k : Int) 1 = k) (h : Q (0, 1, k) s) :
    wpAny (model prog w) A (Builtin.Slice.sliceApplied (.ref sl) (pure (n : Int))) Q E s := by
  obtain ⟨o, ho, hc, hd⟩ := id hs
  unfold Builtin.Slice.sliceApplied Builtin.Slice.sliceFields
  refine wpAny_bind (wpAny_bind (wpAny_field ho hd (x := .none) rfl (wpAny_bind (wpAny_field ho hd (x := .int (-1) u) rfl (wpAny_bind (wpAny_field ho hd (x := .none) rfl (wpAny_pure ?_)))))))
  refine wpAny_bind (slicePart_none ?_)
  show wpAny _ _ (if ((1 : Int) == 0) = true then _ else _) _ _ s
  rw [if_neg (by decide)]
  refine wpAny_bind (slicePart_none (wpAny_bind (slicePart_int (wpAny_bind (wpAny_pure ?_)))))
  show wpAny _ _ (match Builtin.Slice.sliceAdjust none (some (-1)) 1 (n : Int) with | (lo, hi) => pure (lo, (1 : Int), Builtin.Slice.slicePlaces lo hi 1)) _ _ s
  rw [h1]
  show wpAny _ _ (pure ((0 : Int), (1 : Int), Builtin.Slice.slicePlaces (0 : Int) (k : Int) 1)) _ _ s
  rw [h2]
  exact wpAny_pure h
theorem tuple_cut {t sl : Addr} {items : Array Value} {zs : List Value} {k : Nat} {u : Tok} {Q : Value → Shared → Prop} (ht : IsTup s.heap t items) (hs : s.heap.IsSliceOf sl .none (.int (-1) u) .none)
    (h1 : Builtin.Slice.sliceAdjust none (some (-1)) 1 (items.size : Int) = (0, (k : Int))) (h2 : Builtin.Slice.slicePlaces 0 (k : Int) 1 = k) (h3 : (k == items.size) = false) (h4 : ((List.range k).filterMap fun (j : Nat) => items[((0 : Int) + (j : Int) * 1).toNat]?).toArray = zs.toArray) (hz : zs.length ≤ sizeLine)
    (h : Q (.ref s.heap.objs.size) { s with heap := s.heap.push { cls := .type "tuple", data := .seq zs.toArray } }) : wpAny (model prog w) A (getItem (.ref t) (.ref sl)) Q E s := by
  have hok : sizeOk (.seq zs.toArray) := by
    show zs.toArray.size ≤ sizeLine
    rw [List.size_toArray]; exact hz
  obtain ⟨o, ho, hc, hd⟩ := id hs
  have hT : s.TypeIs (.ref sl) "slice" := ⟨o, ho, hc⟩
  unfold getItem
  try with_reducible refine wpAny_holding ?_
  first | refine wpAny_bind (wpAny_pure ?_) | skip
  refine wpAny_bind (wpAny_sequenceKey ht.typeIs (by decide) ?_)
  refine wpAny_bind (wpAny_callSpecial?_slot (name := PySem.Str.ofString "__getitem__") ht.typeIs slot_tuple_getitem
    (wpAny_call_entry slot_tuple_getitem ht.typeIs entry_tuple_getitem ?_ (args_tuple_getitem _ _)))
  show wpAny _ _ (Builtin.Tuple.tupleItemsOf (.ref t) >>= _) _ _ s
  refine wpAny_bind (tupleItemsOf_ ht ?_)
  refine wpAny_bind (wpAny_typeOf hT ?_)
  rw [if_pos (by decide)]
  refine wpAny_bind (cut_places hs h1 h2 ?_)
  show wpAny _ _ (if ((0 : Int) == 0 && (1 : Int) == 1 && k == items.size) = true then _ else _) _ _ s
  rw [if_neg (by rw [h3]; simp), h4]
  first
    | exact wpAny_bind (m := Builtin.Tuple.tupleExact _) (wpAny_newObj_type (wpAny_pure ⟨_, rfl, wpAny_pure h⟩) hok)
    | exact wpAny_bind (m := Builtin.Tuple.tupleExact _) (wpAny_newObj_type (wpAny_bind (wpAny_pure (wpAny_pure ⟨_, rfl, wpAny_pure h⟩))) hok)
    | exact wpAny_bind (wpAny_bind (m := Builtin.Tuple.tupleExact _) (wpAny_newObj_type (wpAny_pure (wpAny_pure ⟨_, rfl, wpAny_pure h⟩)) hok))
    | exact wpAny_bind (wpAny_bind (m := Builtin.Tuple.tupleExact _) (wpAny_newObj_type (wpAny_pure ⟨_, rfl, wpAny_pure h⟩) hok))
theorem cut_tuple {value slice : PySem.Expr} {t : Addr} {items : Array Value} {zs : List Value} {k : Nat} {u : Tok} {Q : Value → Shared → Prop} (F : Fr h₀ L s.heap m) (N : News h₀ L s.heap news) (ht : IsTup s.heap t items)
    (h1 : Builtin.Slice.sliceAdjust none (some (-1)) 1 (items.size : Int) = (0, (k : Int))) (h2 : Builtin.Slice.slicePlaces 0 (k : Int) 1 = k) (h3 : (k == items.size) = false) (h4 : ((List.range k).filterMap fun (j : Nat) => items[((0 : Int) + (j : Int) * 1).toNat]?).toArray = zs.toArray) (hz : zs.length ≤ sizeLine)
    (h : ∀ D h', Fr h₀ L h' m → News h₀ L h' ((D, { cls := .type "tuple", data := .seq zs.toArray }) :: news) → (∀ p ∈ news, p.1 < D) → Q (.ref D) { s with heap := h' })
    (hs : subscripted slice false (.ref t) (.ref s.heap.objs.size) = operate [.ref s.heap.objs.size, .ref t] (getItem (.ref t) (.ref s.heap.objs.size)) := by with_unfolding_all rfl)
    (hg : ∀ r, letTemporaryGo value (.ref t) r = pure () := by intro _; with_unfolding_all rfl) :
    wpAny (model prog w) A (subscriptTail value slice (.ref t) (.ref s.heap.objs.size)) Q E { s with heap := s.heap.push { cls := .type "slice", data := .fields #[.none, .int (-1) u, .none] } } := by
  have ht' : IsTup (s.heap.push { cls := .type "slice", data := .fields #[.none, .int (-1) u, .none] }) t items := ht.keeps fun _ _ e => Heap.get?_push_of_some _ e
  refine subscriptTail_ops (s := { s with heap := s.heap.push { cls := .type "slice", data := .fields #[.none, .int (-1) u, .none] } }) ht'.typeIs slot_tuple_getitem.lookup
    (tuple_cut ht' (Heap.IsSliceOf.new ..) h1 h2 h3 h4 hz ?_) hs hg
  have N0 := N.grown (h' := s.heap.push { cls := .type "slice", data := .fields #[.none, .int (-1) u, .none] }) fun _ _ e => Heap.get?_push_of_some _ e
  have N1 := News.push (F.push { cls := .type "slice", data := .fields #[.none, .int (-1) u, .none] }) N0 { cls := .type "tuple", data := .seq zs.toArray }
  exact h _ _ ((F.push _).push _) N1 fun p hp => Heap.lt_size (N0 p hp).1
theorem cutL {value slice : PySem.Expr} {t : Addr} {ys : List Value} {u : Tok} {Q : Value → Shared → Prop} (F : Fr h₀ L s.heap m) (N : News h₀ L s.heap news) (ht : IsTup s.heap t (List.toArray ys)) (hl : ys.length = 2 ∨ ys.length = 3)
    (h : ∀ D h', Fr h₀ L h' m → News h₀ L h' ((D, { cls := .type "tuple", data := .seq (List.toArray ys.dropLast) }) :: news) → (∀ p ∈ news, p.1 < D) → Q (.ref D) { s with heap := h' })
    (hs : subscripted slice false (.ref t) (.ref s.heap.objs.size) = operate [.ref s.heap.objs.size, .ref t] (getItem (.ref t) (.ref s.heap.objs.size)))
    (hg : ∀ r, letTemporaryGo value (.ref t) r = pure ()) :
    wpAny (model prog w) A (subscriptTail value slice (.ref t) (.ref s.heap.objs.size)) Q E { s with heap := s.heap.push { cls := .type "slice", data := .fields #[.none, .int (-1) u, .none] } } := by
  rcases ys with _ | ⟨a, _ | ⟨b, _ | ⟨d, _ | ⟨_, _⟩⟩⟩⟩
  · simp at hl
  · simp at hl
  · exact cut_tuple (k := 1) (zs := [a]) F N ht rfl rfl rfl rfl (by rw [sizeLine_eq]; simp) h hs hg
  · exact cut_tuple (k := 2) (zs := [a, b]) F N ht rfl rfl rfl rfl (by rw [sizeLine_eq]; simp) h hs hg
  · simp only [List.length_cons] at hl; omega
end
namespace N
theorem sub_shape {sl : PySem.Expr} {o i : Value} (h : ∀ a b d p, sl ≠ .Slice a b d p) : subscripted sl false o i = operate [o, i] (getItem o i) := by
  cases sl <;> first | rfl | exact absurd rfl (h _ _ _ _)
theorem seq_pos {i : Int} {n : Nat} (h0 : 0 ≤ i) (h1 : i < n) : seqIndex? i n = some i.toNat := by
  unfold seqIndex?
  simp only [if_neg (Int.not_lt.mpr h0)]
  rw [if_pos (by simp; omega)]
theorem seq_neg {i : Int} {n : Nat} (h0 : i < 0) (h1 : 0 ≤ i + n) : seqIndex? i n = some (i + n).toNat := by
  unfold seqIndex?
  simp only [if_pos h0]
  rw [if_pos (by simp; omega)]
section
variable {n : Nat} {f : Fx} {m : PySem.Str → Option Value} {ex : List (Addr × Obj)} {ρ : List Addr} {H : Hp} {h : Heap} {tk : Nat} {me : ME} {env : Env} {Φ : V → Hp → Prop} {Q : Value → Shared → Prop}
theorem not_slice {e : PySem.Expr} {Φ : V → Hp → Prop} (hE : (run orc n).E me (cE e) H Φ) : ∀ a b d p, e ≠ .Slice a b d p := by
  intro a b d p z
  subst z
  cases n with
  | zero => exact hE.elim
  | succ n => cases d <;> exact (show False from hE).elim
theorem res_val {es : List (Nat × V)} {kvs : List (PySem.Str × Value)} (r : REs c.val ρ es kvs) {k : Nat} (hk : k < tb.length) : (∀ v, lookc k es = some v → ∃ x, valueAt kvs (nm k) = some x ∧ RV c.val ρ v x) ∧ (lookc k es = none → valueAt kvs (nm k) = none) := by
  induction r with
  | nil => exact ⟨fun v e => (by cases e), fun _ => rfl⟩
  | @cons a v x es xs ha rv _ ih =>
    rw [lookc]
    by_cases e : a = k
    · subst e
      rw [if_pos rfl]
      refine ⟨fun w q => ?_, fun q => (by cases q)⟩
      cases q
      exact ⟨x, by simp [valueAt], rv⟩
    · have hne : nm a ≠ nm k := fun z => e (nm_inj ha hk z)
      have hv : valueAt ((nm a, x) :: xs) (nm k) = valueAt xs (nm k) := by
        unfold valueAt
        rw [List.find?_cons_of_neg]
        simpa using hne
      rw [if_neg e, hv]
      exact ih
theorem dict_at (R : Rl c f m ex ρ H h) {k : Nat} {es : List (Nat × V)} {st : Option Nat} (hk : H[k]? = some (.dict st es)) {a : Addr} (ha : ρ[k]? = some a) : ∃ kvs, h.DictOf (PySem.strKind prg c.w) a kvs ∧ REs c.val ρ es kvs ∧ (a == sysModules) = false := by
  obtain ⟨a', es', pre, post, e1, x, N, -⟩ := R.at hk
  rw [ha] at e1; cases e1
  cases x with
  | dict d r lo _ => exact ⟨_, Heap.dictOf_iff.mpr ⟨_, (N (a, _) (List.mem_append_right _ (List.mem_append_left _ (.head _)))).1, d⟩, r, lo⟩
theorem at_list {xs : List V} {ys : List Value} (r : RVs c.val ρ xs ys) {i : Int} {v : V} (h : at? xs i = some v) : ∃ x, RV c.val ρ v x ∧ ((0 ≤ i ∧ i < 1000 ∧ ys[i.toNat]? = some x) ∨ (i < 0 ∧ ys.length ≤ 1000 ∧ 0 ≤ i + ys.length ∧ ys[(i + ys.length).toNat]? = some x)) := by
  unfold at? at h
  split at h
  · rename_i h0
    obtain ⟨x, e, rv⟩ := r.get h
    exact ⟨x, rv, .inl ⟨h0.1, h0.2, e⟩⟩
  · split at h
    · rename_i h1
      obtain ⟨x, e, rv⟩ := r.get h
      exact ⟨x, rv, .inr ⟨h1.1, by rw [r.length]; exact h1.2.1, by rw [r.length]; exact h1.2.2, by rw [r.length]; exact e⟩⟩
    · cases h
theorem tmp_str {v : PySem.Expr} {s : PySem.Str} {t : Tok} {r : Value} : letTemporaryGo v (.str s t) r = pure () := by cases v <;> rfl
theorem seq_sound {xs : List V} {ys : List Value} {a : Addr} {u w : V} {y : Value} {value sl : PySem.Expr} {l : Bool} (R : Rl c f m ex ρ H h) (hl : if l = true then h.IsList a ys.toArray else IsTup h a ys.toArray) (r : RVs c.val ρ xs ys) (hs : ∀ a b d p, sl ≠ .Slice a b d p) (rv : RV c.val ρ u y) (hv : u.pln?.bind (at? xs) = some w) (hΦ : Φ w H) (P : PE c f m ex ρ Φ Q) :
    wpAny (model prg c.w) f.A (subscriptTail value sl (.ref a) y) Q (fun _ _ => False) (f.st h tk) := by
  obtain ⟨i, e1, e2⟩ := Option.bind_eq_some_iff.mp hv
  obtain ⟨t, rfl⟩ := rv_pln rv e1
  obtain ⟨z, rz, q⟩ := at_list r e2
  have hsz : ys.toArray.size = ys.length := List.size_toArray
  cases l with
  | true =>
    rw [if_pos rfl] at hl
    refine tail_any (s := f.st h tk) hl.typeIs slot_list_getitem.lookup ?_ (sub_shape hs)
    rcases q with ⟨h0, h1, q⟩ | ⟨h0, h1, h2, q⟩
    · exact wpAny_getItem_list (s := f.st h tk) hl h0 (by omega) (by simpa using q) (P.val hΦ R rz)
    · exact wpAny_getItem_list_neg (s := f.st h tk) hl h0 (by rw [hsz]; omega) (by omega) (by rw [hsz]; simpa using q) (P.val hΦ R rz)
  | false =>
    rw [if_neg (by decide)] at hl
    rcases q with ⟨h0, h1, q⟩ | ⟨h0, h1, h2, q⟩
    · have hlt := (List.getElem?_eq_some_iff.mp q).1
      exact item_tupleT (s := f.st h tk) (j := i.toNat) hl (by omega) (by omega) (seq_pos h0 (by omega)) q (P.val hΦ R rz) (sub_shape hs)
    · have hlt := (List.getElem?_eq_some_iff.mp q).1
      exact item_tupleT (s := f.st h tk) (j := (i + ys.length).toNat) hl (by omega) (by omega) (seq_neg h0 h2) q (P.val hΦ R rz) (sub_shape hs)
theorem fg_inv {k : Nat} {i : Int} {w : V} (h : fgAt k i = some w) : k = 25 ∧ (i = 0 ∧ w = .str 6 ∨ i = 1 ∧ w = .str 7) := by
  obtain ⟨_, h1, h2⟩ := Option.bind_eq_some_iff.mp h
  refine ⟨Nat.eq_of_beq_eq_true (gO_inv h1).1, ?_⟩
  cases e : decide (i = 0) with
  | true => rw [e] at h2; cases h2; exact .inl ⟨of_decide_eq_true e, rfl⟩
  | false =>
    rw [e] at h2
    obtain ⟨q, rfl⟩ := gO_inv (show gO (decide (i = 1)) (V.str 7) = some w from h2)
    exact .inr ⟨of_decide_eq_true q, rfl⟩
theorem getitem_sound (R : Rl c f m ex ρ H h) {u v w : V} {x y : Value} {value sl : PySem.Expr} (hv : getitem u v H = some w) (hs : ∀ a b d p, sl ≠ .Slice a b d p) (ru : RV c.val ρ u x) (rv : RV c.val ρ v y) (hΦ : Φ w H) (P : PE c f m ex ρ Φ Q) :
    wpAny (model prg c.w) f.A (subscriptTail value sl x y) Q (fun _ _ => False) (f.st h tk) := by
  cases ru with
  | @ref a ad ha =>
    obtain ⟨o, e, h1⟩ := Option.bind_eq_some_iff.mp (show H[a]?.bind _ = some w from hv)
    cases o with
    | list xs =>
      obtain ⟨ys, hl, r⟩ := list_at R e ha
      exact seq_sound (l := true) R hl r hs rv h1 hΦ P
    | tup xs =>
      obtain ⟨ys, hl, r⟩ := tup_at R e ha
      exact seq_sound (l := false) R hl r hs rv h1 hΦ P
    | dict st es =>
      obtain ⟨k, e1, e2⟩ := Option.bind_eq_some_iff.mp (show v.str?.bind _ = some w from h1)
      obtain ⟨t, rfl, hk⟩ := rv_str rv e1
      obtain ⟨kvs, hd, r, lo⟩ := dict_at R e ha
      obtain ⟨z, e2, rz⟩ := (res_val r hk).1 w e2
      exact tail_any (s := f.st h tk) hd.typeIs slot_dict_getitem.lookup (wpAny_getItem_of (s := f.st h tk) (knd := PySem.strKind prg c.w) (strKind_is _ _ _ _) hd.mapOf e2 (P.val hΦ R rz)) (sub_shape hs)
    | _ => cases h1
  | str k t hk =>
    obtain ⟨i, e1, e2⟩ := Option.bind_eq_some_iff.mp (show v.pln?.bind _ = some w from hv)
    obtain ⟨u, rfl⟩ := rv_pln rv e1
    obtain ⟨rfl, ⟨rfl, rfl⟩ | ⟨rfl, rfl⟩⟩ := fg_inv e2
    · exact item_str (s := f.st h tk) (by decide) (by decide) (by decide) (fun _ => P.val hΦ R (.str 6 _ (by decide))) (sub_shape hs) (fun _ => tmp_str)
    · exact item_str (s := f.st h tk) (by decide) (by decide) (by decide) (fun _ => P.val hΦ R (.str 7 _ (by decide))) (sub_shape hs) (fun _ => tmp_str)
  | _ => cases hv
theorem clamp_part {len : Nat} {lo : V} {i d : Nat} {vl : Value} (h : clamp len lo d = some i) (r : RV c.val ρ lo vl) : ∃ o, IsPart vl o ∧ i = (o.map fun (x : Int) => if x < 0 then len - (-x).toNat else min x.toNat len).getD d := by
  cases r with
  | none => cases h; exact ⟨none, .none, rfl⟩
  | int k x t =>
    obtain ⟨y, h1, rfl⟩ := Option.map_eq_some_iff.mp (show (z0 k x).map _ = some i from h)
    cases k with
    | zero => cases h1; exact ⟨some x, by rw [c.v0, Int.zero_add]; exact .int x t, rfl⟩
    | succ k => cases h1
  | _ => cases h
theorem slice_list (K : FxOK c mean mg mb f) (R : Rl c f m ex ρ H h) {xs : List V} {ys : List Value} {ad : Addr} {lo hi : V} {vl vu : Value} {nx : PySem.Str} {np : Pos} {a b : Option PySem.Expr} {sp : Pos} (h1 : sliceL xs lo hi H Φ) (hl : h.IsList ad ys.toArray) (r : RVs c.val ρ xs ys)
    (rl : RV c.val ρ lo vl) (rh : RV c.val ρ hi vu) (P : PE c f m ex ρ Φ Q) :
    wpAny (model prg c.w) f.A (subscriptTail (.Name nx np) (.Slice a b none sp) (.ref ad) (.ref h.objs.size)) Q (fun _ _ => False) (f.st (h.push { cls := .type "slice", data := .fields #[vl, vu, .none] }) tk) := by
  obtain ⟨news, N, _, _, gr, _⟩ := R.grow K
  obtain ⟨i, c1, h2⟩ := som_inv (show som (clamp xs.length lo 0) _ from h1)
  obtain ⟨j, c2, h3⟩ := som_inv h2
  obtain ⟨hz, hS⟩ := grd_inv h3
  obtain ⟨o1, p1, q1⟩ := clamp_part c1 rl
  obtain ⟨o2, p2, q2⟩ := clamp_part c2 rh
  refine kms_slice_lit (s := f.st h tk) R.F N hl p1 p2 rfl (fun D h' F' N' lt => P.new hS R.len (gr _ _ _ _ _ (.list ?_) F' N' lt)) rfl (fun _ => rfl) (by rw [List.size_toArray, r.length]; exact sizeLine_of (Nat.le_of_ble_eq_true hz))
  have e1 : kms_lo o1 ys.length = i := by
    rw [r.length]
    cases o1 <;> exact q1.symm
  have e2 : kms_hi o2 ys.length = j := by
    rw [r.length]
    cases o2 <;> exact q2.symm
  unfold kms_pick
  rw [e1, e2]
  exact ((r.drop i).take (j - i)).up (List.prefix_append _ _)
theorem slice_sound (K : FxOK c mean mg mb f) (R : Rl c f m ex ρ H h) {u lo hi : V} {x vl vu : Value} {nx : PySem.Str} {np : Pos} {a b : Option PySem.Expr} {sp : Pos} (hS : slice u lo hi H Φ) (ru : RV c.val ρ u x)
    (rl : RV c.val ρ lo vl) (rh : RV c.val ρ hi vu) (P : PE c f m ex ρ Φ Q) :
    wpAny (model prg c.w) f.A (subscriptTail (.Name nx np) (.Slice a b none sp) x (.ref h.objs.size)) Q (fun _ _ => False) (f.st (h.push { cls := .type "slice", data := .fields #[vl, vu, .none] }) tk) := by
  obtain ⟨o, e, h1⟩ := som_inv hS
  obtain ⟨k, ad, _, rfl, ha, e⟩ := ob_at ru e
  obtain ⟨news, N, _, _, gr, _⟩ := R.grow K
  cases o with
  | list xs =>
    obtain ⟨ys, hl, r⟩ := list_at R e ha
    exact slice_list K R h1 hl r rl rh P
  | rolls rs =>
    obtain ⟨xs, h0, h1⟩ := som_inv (show som (old? rs) _ from h1)
    obtain ⟨a', es, pre, post, e1, X, N', -⟩ := R.at e
    rw [ha] at e1; cases e1
    cases X with
    | rolls X =>
    obtain ⟨o, ys, n, rfl, oc, od, r⟩ := c.rl _ _ _ _ X h0
    exact slice_list K R h1 ⟨_, (N' _ (List.mem_append_right _ (List.mem_append_left _ (.head _)))).1, oc, n, od⟩ (r ρ) rl rh P
  | tup xs =>
    obtain ⟨i, c1, h2⟩ := som_inv (show som hi.pln? _ from h1)
    obtain ⟨hz, hA⟩ := grd_inv h2
    obtain ⟨n1, hz⟩ := and_inv hz
    obtain ⟨n2, hz⟩ := and_inv hz
    obtain ⟨t, rfl⟩ := rv_pln rh c1
    cases of_decide_eq_true n2
    cases V.none_inv n1
    cases rl
    obtain ⟨ys, hl, r⟩ := tup_at R e ha
    refine cutL (s := f.st h tk) R.F N hl ?_ (fun D h' F' N' lt => P.new hA R.len (gr _ _ _ _ _ (.tup (r.dropLast.up (List.prefix_append _ _))) F' N' lt)) rfl (fun _ => rfl)
    rw [r.length]
    exact ((Bool.or_eq_true _ _).mp hz).imp Nat.eq_of_beq_eq_true Nat.eq_of_beq_eq_true
  | _ => exact h1.elim
theorem res_put {es : List (Nat × V)} {kvs : List (PySem.Str × Value)} (r : REs c.val ρ es kvs) {k : Nat} (hk : k < tb.length) {v : V} {x : Value} (rv : RV c.val ρ v x) (nd : (kvs.map (·.1)).Nodup) : REs c.val ρ (putc k v es) (stored kvs (nm k) x) := by
  induction r with
  | nil => exact .cons hk rv .nil
  | @cons a u y es xs ha ru r' ih =>
    rw [List.map_cons, List.nodup_cons] at nd
    rw [putc]
    by_cases e : a = k
    · subst e
      rw [if_pos rfl]
      have : stored ((nm a, y) :: xs) (nm a) x = (nm a, x) :: xs := by
        unfold stored
        rw [if_pos (by simp)]
        simp only [List.map_cons, if_true]
        congr 1
        conv => rhs; rw [← List.map_id xs]
        refine List.map_congr_left fun p hp => ?_
        have hp1 : p.1 ≠ nm a := fun (z : p.1 = nm a) => nd.1 (List.mem_map.mpr ⟨p, hp, z⟩)
        rw [if_neg hp1]
        rfl
      rw [this]
      exact .cons ha rv r'
    · rw [if_neg e]
      have hne : nm a ≠ nm k := fun z => e (nm_inj ha hk z)
      have : stored ((nm a, y) :: xs) (nm k) x = (nm a, y) :: stored xs (nm k) x := by
        unfold stored
        simp only [List.any_cons, decide_eq_false hne, Bool.false_or, List.map_cons, if_neg hne]
        split <;> rfl
      rw [this]
      exact .cons ha ru (ih nd.2)
theorem res_len {es : List (Nat × V)} {kvs : List (PySem.Str × Value)} (r : REs c.val ρ es kvs) : kvs.length = es.length := by
  induction r with
  | nil => rfl
  | cons _ _ _ ih => exact congrArg Nat.succ ih
theorem setitem_sound (R : Rl c f m ex ρ H h) {u v w : V} {x y z : Value} {Ψ : Hp → Prop} {Q : Unit → Shared → Prop} (hS : setitem u v w H Ψ) (ru : RV c.val ρ u x) (rv : RV c.val ρ v y) (rw' : RV c.val ρ w z)
    (P : ∀ H' h' tk', Ψ H' → Rl c f m ex ρ H' h' → Q () (f.st h' tk')) : wpAny (model prg c.w) f.A (setItem x y z) Q (fun _ _ => False) (f.st h tk) := by
  obtain ⟨a, e0, h1⟩ := som_inv hS
  obtain ⟨o, e, h2⟩ := som_inv h1
  obtain ⟨ad, rfl, ha⟩ := rv_ref ru e0
  obtain ⟨a', es', pre, post, e1, X, N, nd, ap, up⟩ := R.at e
  rw [ha] at e1; cases e1
  cases X with
  | @list xs ys _ n r =>
    obtain ⟨i, e2, h3⟩ := som_inv (show som v.pln? _ from h2)
    obtain ⟨t, rfl⟩ := rv_pln rv e2
    obtain ⟨hz, hS⟩ := grd_inv h3
    obtain ⟨z0, hz⟩ := and_inv hz
    obtain ⟨z1, z2⟩ := and_inv hz
    have z0 := of_decide_eq_true z0
    have z1 := of_decide_eq_true z1
    have z2 := Nat.le_of_ble_eq_true z2
    unfold seto at hS
    rw [fH_eq] at hS
    have zz := N (ad, listOf ys.toArray n) (List.mem_append_right _ (List.mem_append_left _ (.head _)))
    obtain ⟨a1, a2⟩ := ap (ad, listOf ys.toArray n) (.head _)
    have hl := r.length
    refine ki_setAt (s := f.st h tk) zz.1 z0 (by omega) (by rw [List.size_toArray]; omega) (P _ _ _ hS (up _ _ _ [(ad, listOf (ys.set i.toNat z).toArray n)] (.list (r.set rw' _)) rfl (R.F.change (Heap.SameBut.update ..) zz.2.1 zz.2.2) ?_))
    refine ki_turn _ N a1 a2 ?_ ?_
    · show ys.toArray.setIfInBounds i.toNat z = (ys.set i.toNat z).toArray
      apply Array.toList_inj.mp
      simp
    · simp
  | @dict st es kvs _ o d r lo _ =>
    obtain ⟨k, e2, h3⟩ := som_inv (show som v.str? _ from h2)
    obtain ⟨t, rfl, hk⟩ := rv_str rv e2
    obtain ⟨hz, hS⟩ := grd_inv h3
    have hz := Nat.le_of_ble_eq_true hz
    unfold seto at hS
    rw [fH_eq] at hS
    obtain ⟨a1, a2⟩ := ap (ad, o) (.head _)
    have ndk : (kvs.map (·.1)).Nodup := by obtain ⟨_, _, _, _, _, _, q⟩ := d; exact q
    refine kda_set (s := f.st h tk) (knd := PySem.strKind prg c.w) R.F N (updF_mid a2 a1) d (strKind_is _ _ _ _) (by rw [sizeLine_eq, res_len r]; omega) fun h' o' F' N' d' => ?_
    exact P _ _ _ hS (up _ _ _ [(ad, o')] (.dict d' (res_put r hk rw' ndk) lo fun _ z => nomatch z) rfl F' N')
  | _ => exact h2.elim
end
end N
end Mine
end
section
open PySem PySem.W PyProof.Rows PySem.Calls
set_option Elab.async false
set_option maxRecDepth 100000
set_option maxHeartbeats 1000000
namespace Mine
theorem list_eq_nil {prog : Program} {w : World} {A : Around} {E : Value → Shared → Prop} {s : Shared} {a b : Addr} {ys : List Value} {Q : Value → Shared → Prop} (hl : s.heap.IsList a ys.toArray) (hb : s.heap.IsList b #[]) (hu : A.units < cLine) (h : Q (.bool ys.isEmpty) s) : wpAny (model prog w) A (compareOp .Eq (.ref a) (.ref b)) Q E s := by
  cases ys with
  | nil => exact SeqAt.eq_listAt (e := fun _ => true) hl hb rfl hu (fun j h1 _ => absurd h1 (Nat.not_lt_zero j)) h
  | cons y r => exact SeqAt.eq_list_lengthsAt hl hb rfl hu h
theorem list_eq_nil2 {prog : Program} {w : World} {A : Around} {E : Value → Shared → Prop} {s : Shared} {a b : Addr} {ys : List Value} {Q : Value → Shared → Prop} (hl : s.heap.IsList a #[]) (hb : s.heap.IsList b ys.toArray) (hu : A.units < cLine) (h : Q (.bool ys.isEmpty) s) : wpAny (model prog w) A (compareOp .Eq (.ref a) (.ref b)) Q E s := by
  cases ys with
  | nil => exact SeqAt.eq_listAt (e := fun _ => true) hl hb rfl hu (fun j h1 _ => absurd h1 (Nat.not_lt_zero j)) h
  | cons y r => exact SeqAt.eq_list_lengthsAt hl hb rfl hu h
theorem list_ne_nil {prog : Program} {w : World} {A : Around} {E : Value → Shared → Prop} {s : Shared} {a b : Addr} {ys : List Value} {Q : Value → Shared → Prop} (hl : s.heap.IsList a ys.toArray) (hb : s.heap.IsList b #[]) (hu : A.units < cLine) (h : Q (.bool !ys.isEmpty) s) : wpAny (model prog w) A (compareOp .NotEq (.ref a) (.ref b)) Q E s := by
  cases ys with
  | nil => exact PySem.SeqAt.RcNeAt.lists (e := fun _ => true) hl hb rfl hu (fun j h1 _ => absurd h1 (Nat.not_lt_zero j)) prog w E Q h
  | cons y r => exact PySem.SeqAt.RcNeAt.lists_lengths hl hb rfl hu prog w E Q h
theorem list_ne_nil2 {prog : Program} {w : World} {A : Around} {E : Value → Shared → Prop} {s : Shared} {a b : Addr} {ys : List Value} {Q : Value → Shared → Prop} (hl : s.heap.IsList a #[]) (hb : s.heap.IsList b ys.toArray) (hu : A.units < cLine) (h : Q (.bool !ys.isEmpty) s) : wpAny (model prog w) A (compareOp .NotEq (.ref a) (.ref b)) Q E s := by
  cases ys with
  | nil => exact PySem.SeqAt.RcNeAt.lists (e := fun _ => true) hl hb rfl hu (fun j h1 _ => absurd h1 (Nat.not_lt_zero j)) prog w E Q h
  | cons y r => exact PySem.SeqAt.RcNeAt.lists_lengths hl hb rfl hu prog w E Q h
namespace N
section
variable (val : Nat → Int)
mutual
noncomputable def mp : MD → PyData
  | .bool b => .bool b
  | .int k c => .int (val k + c)
  | .str c => .str (nm c)
  | .list xs => .list (mps xs)
  | .tup xs => .tuple (mps xs)
noncomputable def mps : List MD → List PyData
  | [] => []
  | x :: xs => mp x :: mps xs
end
end
theorem str_ok : tb.all (fun s => PyData.strOk (PySem.Str.ofString s)) = true := by decide +kernel
theorem nm_ok {x : Nat} (hx : x < tb.length) : PyData.strOk (nm x) = true := by
  have := List.all_eq_true.mp str_ok tb[x] (List.getElem_mem hx)
  unfold nm
  rw [List.getD_eq_getElem?_getD, List.getElem?_eq_getElem hx]
  exact this
section
variable {n : Nat} {f : Fx} {m : PySem.Str → Option Value} {ex : List (Addr × Obj)} {ρ : List Addr} {H : Hp} {h : Heap} {tk : Nat} {me : ME} {env : Env} {Φ : V → Hp → Prop} {Q : Value → Shared → Prop}
/-- a datum, readable, of small depth -/
structure RD (h : Heap) (x : Value) (d : MD) (k : Nat) : Prop where
  rd : ∃ as, Reads h x (mp c.val d) as
  ok : (mp c.val d).canLay0 = true
  dp : (mp c.val d).depth ≤ k
structure RDs (h : Heap) (xs : List Value) (ds : List MD) (k : Nat) : Prop where
  rd : ∃ as, ReadsAll h xs (mps c.val ds) as
  ok : PyData.canLayAll0 (mps c.val ds) = true
  dp : PyData.depthAll (mps c.val ds) ≤ k
theorem mds_reads {g : V → Option MD} {k : Nat} (hg : ∀ v d x, g v = some d → RV c.val ρ v x → RD h x d k) {vs : List V} {xs : List Value} (r : RVs c.val ρ vs xs) : ∀ {ds : List MD}, allO g vs = some ds → RDs h xs ds k := by
  induction r with
  | nil =>
    intro ds e
    cases e
    exact ⟨⟨_, .nil⟩, rfl, Nat.zero_le _⟩
  | cons r rs ih =>
    intro ds e
    obtain ⟨d, e1, e2⟩ := Option.bind_eq_some_iff.mp e
    obtain ⟨ds', e3, rfl⟩ := Option.map_eq_some_iff.mp e2
    obtain ⟨⟨as, a1⟩, a2, a3⟩ := hg _ _ _ e1 r
    obtain ⟨⟨bs, b1⟩, b2, b3⟩ := ih e3
    refine ⟨⟨_, .cons a1 b1⟩, ?_, Nat.max_le.mpr ⟨a3, b3⟩⟩
    show (PyData.canLay0 _ && PyData.canLayAll0 _) = true
    rw [a2, b2]; rfl
theorem md1_reads {k : Nat} {v : V} {d : MD} {x : Value} (e : md1 v = some d) (r : RV c.val ρ v x) : RD h x d k := by
  cases r with
  | bool b => cases e; exact ⟨⟨_, .bool _⟩, rfl, Nat.zero_le _⟩
  | int j i t => cases e; exact ⟨⟨_, .int _ _⟩, rfl, Nat.zero_le _⟩
  | str j t hk => cases e; exact ⟨⟨_, .str _ _⟩, nm_ok hk, Nat.zero_le _⟩
  | _ => cases e
theorem md_reads (R : Rl c f m ex ρ H h) : ∀ (n : Nat) {v : V} {d : MD} {x : Value}, md n H v = some d → RV c.val ρ v x → RD h x d n := by
  intro n
  induction n with
  | zero => intro v d x e r; exact md1_reads e r
  | succ n ih =>
    intro v d x e r
    rw [md] at e
    cases q : obOf H v with
    | none => rw [q] at e; exact md1_reads e r
    | some o =>
      rw [q] at e
      obtain ⟨a, ad, _, rfl, ha, hk⟩ := ob_at r q
      cases o with
      | list xs =>
        obtain ⟨ds, e1, rfl⟩ := Option.map_eq_some_iff.mp (show (allO (md n H) xs).map _ = some d from e)
        obtain ⟨ys, ⟨o, ho, hc, k, hd⟩, rr⟩ := list_at R hk ha
        obtain ⟨⟨as, a1⟩, a2, a3⟩ := mds_reads (fun v d x => ih) rr e1
        exact ⟨⟨_, .list ho hc hd a1⟩, a2, Nat.succ_le_succ a3⟩
      | tup xs =>
        obtain ⟨ds, e1, rfl⟩ := Option.map_eq_some_iff.mp (show (allO (md n H) xs).map _ = some d from e)
        obtain ⟨ys, ⟨o, ho, hc, k, hd⟩, rr⟩ := tup_at R hk ha
        obtain ⟨⟨as, a1⟩, a2, a3⟩ := mds_reads (fun v d x => ih) rr e1
        exact ⟨⟨_, .tuple ho hc hd a1⟩, a2, Nat.succ_le_succ a3⟩
      | _ => cases e
theorem tb_len : 191 ≤ tb.length := by decide
theorem meqs_eqv {val : Nat → Int} {g : MD → MD → Option Bool} (hg : ∀ d e r, g d e = some r → PyData.eqv (mp val d) (mp val e) = r) {ds : List MD} : ∀ {es : List MD} {r : Bool}, meqs g ds es = some r → PyData.eqvAll (mps val ds) (mps val es) = r := by
  induction ds with
  | nil =>
    intro es r h
    cases es <;> cases h <;> rfl
  | cons d ds ih =>
    intro es r h
    cases es with
    | nil => cases h; rfl
    | cons e es =>
      obtain ⟨b, h1, h2⟩ := Option.bind_eq_some_iff.mp (show (g d e).bind _ = some r from h)
      have h1 := hg _ _ _ h1
      show (PyData.eqv (mp val d) (mp val e) && PyData.eqvAll (mps val ds) (mps val es)) = r
      rw [h1]
      cases b with
      | true => exact ih h2
      | false => cases h2; rfl
theorem meq0_eqv {val : Nat → Int} {d e : MD} {r : Bool} (h : meq0 d e = some r) : PyData.eqv (mp val d) (mp val e) = r := by
  cases d with
  | bool a =>
    cases e <;> cases h; rfl
  | int k a =>
    cases e with
    | int j b =>
      obtain ⟨q, rfl⟩ := gO_inv (show gO (Nat.beq k j) (decide (a = b)) = some r from h)
      cases Nat.eq_of_beq_eq_true q
      show ((val k + a) == (val k + b)) = _
      rw [Bool.eq_iff_iff, beq_iff_eq, decide_eq_true_eq]
      omega
    | str _ => cases h; rfl
    | _ => cases h
  | str a =>
    cases e with
    | str b =>
      obtain ⟨q, rfl⟩ := gO_inv (show gO (Nat.ble a 190 && Nat.ble b 190) (Nat.beq a b) = some r from h)
      obtain ⟨q1, q2⟩ := and_inv q
      have q1 := Nat.lt_of_lt_of_le (Nat.lt_succ_of_le (Nat.le_of_ble_eq_true q1)) tb_len
      have q2 := Nat.lt_of_lt_of_le (Nat.lt_succ_of_le (Nat.le_of_ble_eq_true q2)) tb_len
      show (nm a == nm b) = Nat.beq a b
      rw [Bool.eq_iff_iff, beq_iff_eq]
      exact ⟨fun z => nm_inj q1 q2 z ▸ Nat.beq_refl a, fun z => by rw [Nat.eq_of_beq_eq_true z]⟩
    | int _ _ => cases h; rfl
    | _ => cases h
  | _ => cases h
theorem meq_eqv {val : Nat → Int} : ∀ (n : Nat) (d e : MD) (r : Bool), meq n d e = some r → PyData.eqv (mp val d) (mp val e) = r := by
  intro n
  induction n with
  | zero => intro d e r h; exact meq0_eqv h
  | succ n ih =>
    intro d e r h
    cases d with
    | list xs =>
      cases e with
      | list ys => exact meqs_eqv ih h
      | _ => cases h
    | tup xs =>
      cases e with
      | tup ys => exact meqs_eqv ih h
      | _ => cases h
    | _ => exact meq0_eqv h
end
end N
end Mine
end
section
open PySem PySem.W PyProof.Rows PySem.Calls
set_option Elab.async false
set_option maxRecDepth 100000
set_option maxHeartbeats 1000000
namespace Mine
namespace N
section
variable {n : Nat} {f : Fx} {m : PySem.Str → Option Value} {ex : List (Addr × Obj)} {ρ : List Addr} {H : Hp} {h : Heap} {tk : Nat} {me : ME} {env : Env} {Φ : V → Hp → Prop} {Q : Value → Shared → Prop}
theorem rvs_isEmpty {xs : List V} {ys : List Value} (r : RVs c.val ρ xs ys) : ys.isEmpty = xs.isEmpty := by cases r <;> rfl
theorem shaped_of {d : PyData} {k : Nat} (h1 : d.canLay0 = true) (h2 : d.depth ≤ k) (hk : k ≤ 64) : SeqAt.shaped d = true := by
  unfold SeqAt.shaped
  rw [h1, Bool.true_and]
  exact decide_eq_true (Nat.le_trans h2 hk)
theorem deqs_hits {A : Around} {s : Shared} {fs : List (Nat × V)} {kb : List (PySem.Str × Value)} (rb : REs c.val ρ fs kb) {es : List (Nat × V)} {ka : List (PySem.Str × Value)} (ra : REs c.val ρ es ka) : ∀ {r : Bool}, deqs fs es = some r → KeqHits A s kb ka r := by
  induction ra with
  | nil => intro r h; cases h; exact .nil
  | @cons k v x es ka hk rv rs ih =>
    intro r h
    obtain ⟨p, e1, h1⟩ := Option.bind_eq_some_iff.mp (show v.int?.bind _ = some r from h)
    obtain ⟨t, rfl⟩ := rv_sym rv e1
    cases q : lookc k fs with
    | none =>
      rw [q] at h1
      cases h1
      exact .miss ((res_val rb hk).2 q)
    | some w =>
      rw [q] at h1
      obtain ⟨p2, e2, h2⟩ := Option.bind_eq_some_iff.mp (show w.int?.bind _ = some r from h1)
      obtain ⟨_, e3, h3⟩ := Option.bind_eq_some_iff.mp h2
      obtain ⟨e3, e4⟩ := and_inv (gO_inv e3).1
      obtain ⟨z, e5, rz⟩ := (res_val rb hk).1 _ q
      obtain ⟨t2, rfl⟩ := rv_sym rz e2
      have := KeqHits.hit (A := A) (s := s) e5 (keq_flat (v := .int (c.val p.1 + p.2) t) (d := .int (c.val p.1 + p.2)) (e := .int (c.val p2.1 + p2.2)) (fun h => Reads.int _ t) (fun h => Reads.int _ t2)) (ih h3)
      rw [← Nat.eq_of_beq_eq_true e3, ← of_decide_eq_true e4] at this
      simpa [PyData.eqv] using this
noncomputable def Both (f : Fx) (h : Heap) (tk : Nat) (x y : Value) (r : Bool) : Prop :=
    (∀ Q : Value → Shared → Prop, (∀ tk', Q (.bool r) (f.st h tk')) → wpAny (model prg c.w) f.A (compareOp .Eq x y) Q (fun _ _ => False) (f.st h tk)) ∧
    (∀ Q : Value → Shared → Prop, (∀ tk', Q (.bool !r) (f.st h tk')) → wpAny (model prg c.w) f.A (compareOp .NotEq x y) Q (fun _ _ => False) (f.st h tk))
theorem both_of (hu : f.un + 66 < cLine) {x y : Value} {r : Bool} {d e : PyData} {as bs : List Addr} (a : Reads h x d as) (b : Reads h y e bs) (s1 : SeqAt.shaped d = true) (s2 : SeqAt.shaped e = true) (q : PyData.eqv d e = r) : Both f h tk x y r :=
    ⟨fun Q q' => eq_dataH (s := f.st h tk) a b s1 s2 (by show f.un + 64 < cLine; omega) (q ▸ q' tk), fun Q q' => ne_dataH (s := f.st h tk) a b s1 s2 (by show f.un + 64 < cLine; omega) (q ▸ q' tk)⟩
theorem RD.shaped {x : Value} {d : MD} {k : Nat} (r : RD h x d k) (hk : k ≤ 64) : SeqAt.shaped (mp c.val d) = true := shaped_of r.ok r.dp hk
theorem veqO_sound (R : Rl c f m ex ρ H h) (hu : f.un + 66 < cLine) {o p : O} {a b : Nat} {ad bd : Addr} {r : Bool} (hv : veqO H o p = some r) (ea : H[a]? = some o) (eb : H[b]? = some p) (ha : ρ[a]? = some ad) (hb : ρ[b]? = some bd) : Both f h tk (.ref ad) (.ref bd) r := by
  have hu0 : f.un < cLine := Nat.lt_of_le_of_lt (Nat.le_add_right _ _) hu
  cases o with
  | list xs =>
    obtain ⟨ys, e, h1⟩ := Option.bind_eq_some_iff.mp (show p.list?.bind _ = some r from hv)
    cases O.list_inv e
    obtain ⟨us, l1, r1⟩ := list_at R ea ha
    obtain ⟨vs, l2, r2⟩ := list_at R eb hb
    cases q1 : xs.isEmpty with
    | true =>
      rw [q1] at h1
      cases h1
      cases List.isEmpty_iff.mp q1
      cases r1
      rw [Bool.true_and, ← rvs_isEmpty r2]
      exact ⟨fun Q q => list_eq_nil2 (s := f.st h tk) l1 l2 hu0 (q tk), fun Q q => list_ne_nil2 (s := f.st h tk) l1 l2 hu0 (q tk)⟩
    | false =>
      rw [q1] at h1
      cases q2 : ys.isEmpty with
      | true =>
        rw [q2] at h1
        cases h1
        cases List.isEmpty_iff.mp q2
        cases r2
        have q3 : false = us.isEmpty := by rw [rvs_isEmpty r1, q1]
        rw [Bool.false_and, q3]
        exact ⟨fun Q q => list_eq_nil (s := f.st h tk) l1 l2 hu0 (q tk), fun Q q => list_ne_nil (s := f.st h tk) l1 l2 hu0 (q tk)⟩
      | false =>
        rw [q2] at h1
        obtain ⟨ds, m1, h2⟩ := Option.bind_eq_some_iff.mp (show (allO (md 3 H) xs).bind _ = some r from h1)
        obtain ⟨es, m2, h3⟩ := Option.bind_eq_some_iff.mp h2
        obtain ⟨⟨as, a1⟩, a2, a3⟩ := mds_reads (fun v d x => md_reads R 3) r1 m1
        obtain ⟨⟨bs, b1⟩, b2, b3⟩ := mds_reads (fun v d x => md_reads R 3) r2 m2
        obtain ⟨o, ho, hc, k, hd⟩ := l1
        obtain ⟨o', ho', hc', k', hd'⟩ := l2
        exact both_of hu (.list ho hc hd a1) (.list ho' hc' hd' b1) (shaped_of (k := 4) a2 (Nat.succ_le_succ a3) (by decide)) (shaped_of (k := 4) b2 (Nat.succ_le_succ b3) (by decide)) (meqs_eqv (meq_eqv 4) h3)
  | dict st es =>
    obtain ⟨⟨_, fs⟩, e, h1⟩ := Option.bind_eq_some_iff.mp (show p.dict?.bind _ = some r from hv)
    cases O.dict_inv e
    obtain ⟨ka, d1, r1, lo1⟩ := dict_at R ea ha
    obtain ⟨kb, d2, r2, lo2⟩ := dict_at R eb hb
    cases q : Nat.beq es.length fs.length with
    | true =>
      rw [q] at h1
      have hl' : (ka.length == kb.length) = true := by rw [res_len r1, res_len r2]; exact beq_iff_eq.mpr (Nat.eq_of_beq_eq_true q)
      exact ⟨fun Q q => keq_eq (s := f.st h tk) lo1 lo2 d1 d2 hu0 (fun _ => deqs_hits r2 r1 h1) (by rw [hl', Bool.true_and]; exact q tk),
        fun Q q => keq_ne (s := f.st h tk) lo1 lo2 d1 d2 hu0 (fun _ => deqs_hits r2 r1 h1) (by rw [hl', Bool.true_and]; exact q tk)⟩
    | false =>
      rw [q] at h1
      cases h1
      have hl' : ka.length ≠ kb.length := by rw [res_len r1, res_len r2]; exact Nat.ne_of_beq_eq_false q
      have hb : (ka.length == kb.length && false) = false := Bool.and_false _
      exact ⟨fun Q q => keq_eq (s := f.st h tk) (r := false) lo1 lo2 d1 d2 hu0 (fun z => absurd z hl') (by rw [hb]; exact q tk),
        fun Q q => keq_ne (s := f.st h tk) (r := false) lo1 lo2 d1 d2 hu0 (fun z => absurd z hl') (by rw [hb]; exact q tk)⟩
  | _ => cases hv
theorem veq_sound (R : Rl c f m ex ρ H h) (hu : f.un + 66 < cLine) {u v : V} {x y : Value} {r : Bool} (hv : veq H u v = some r) (ru : RV c.val ρ u x) (rv : RV c.val ρ v y) : Both f h tk x y r := by
  unfold veq at hv
  cases q : md1 u with
  | some d =>
    rw [q] at hv
    obtain ⟨e, h1, h2⟩ := Option.bind_eq_some_iff.mp hv
    have r1 : RD h x d 0 := md1_reads q ru
    have r2 : RD h y e 0 := md1_reads h1 rv
    obtain ⟨as, a1⟩ := r1.rd
    obtain ⟨bs, b1⟩ := r2.rd
    exact both_of hu a1 b1 (r1.shaped (by decide)) (r2.shaped (by decide)) (meq0_eqv h2)
  | none =>
    rw [q] at hv
    obtain ⟨o, e1, h1⟩ := Option.bind_eq_some_iff.mp hv
    obtain ⟨p, e2, h2⟩ := Option.bind_eq_some_iff.mp h1
    obtain ⟨a, ad, _, rfl, ha, ea⟩ := ob_at ru e1
    obtain ⟨b, bd, _, rfl, hb, eb⟩ := ob_at rv e2
    exact veqO_sound R hu h2 ea eb ha hb
theorem mfind_any {val : Nat → Int} {d : MD} {es : List MD} : ∀ {i : Nat} {r : Option Nat}, mfind d es i = some r → (mps val es).any (fun y => PyData.eqv y (mp val d)) = r.isSome := by
  induction es with
  | nil => intro i r h; cases h; rfl
  | cons e es ih =>
    intro i r h
    obtain ⟨b, h1, h2⟩ := Option.bind_eq_some_iff.mp (show (meq 4 e d).bind _ = some r from h)
    show (PyData.eqv (mp val e) (mp val d) || _) = _
    rw [meq_eqv 4 _ _ _ h1]
    cases b with
    | true => cases h2; rfl
    | false => exact ih h2
theorem vin_sound (R : Rl c f m ex ρ H h) (hu : f.un + 66 < cLine) {u v : V} {x y : Value} {r : Bool} (hv : vin H u v = some r) (ru : RV c.val ρ u x) (rv : RV c.val ρ v y) :
    (∀ Q : Value → Shared → Prop, (∀ tk', Q (.bool r) (f.st h tk')) → wpAny (model prg c.w) f.A (compareOp .In x y) Q (fun _ _ => False) (f.st h tk)) ∧
    (∀ Q : Value → Shared → Prop, (∀ tk', Q (.bool !r) (f.st h tk')) → wpAny (model prg c.w) f.A (compareOp .NotIn x y) Q (fun _ _ => False) (f.st h tk)) := by
  obtain ⟨o, e, h1⟩ := Option.bind_eq_some_iff.mp hv
  obtain ⟨b, bd, _, rfl, hb, e⟩ := ob_at rv e
  cases o with
  | dict st es =>
    obtain ⟨k, e1, e2⟩ := Option.map_eq_some_iff.mp (show u.str?.map _ = some r from h1)
    obtain ⟨t, rfl, hk⟩ := rv_str ru e1
    obtain ⟨kb, d2, r2, lo2⟩ := dict_at R e hb
    have e3 : (valueAt kb (nm k)).isSome = r := by
      rw [← e2]
      cases q : lookc k es with
      | some v' => obtain ⟨z, e4, _⟩ := (res_val r2 hk).1 _ q; rw [e4]; rfl
      | none => rw [(res_val r2 hk).2 q]; rfl
    exact ⟨fun Q q => wpAny_in_of (s := f.st h tk) (knd := PySem.strKind prg c.w) (strKind_is _ _ _ _) lo2 d2.mapOf (by rw [e3]; exact q (tk + 1)), fun Q q => wpAny_notIn_of (s := f.st h tk) (knd := PySem.strKind prg c.w) (strKind_is _ _ _ _) lo2 d2.mapOf (by rw [e3]; exact q (tk + 1))⟩
  | list ys =>
    obtain ⟨d, q1, h2⟩ := Option.bind_eq_some_iff.mp (show (md 3 H u).bind _ = some r from h1)
    obtain ⟨es, q2, h3⟩ := Option.bind_eq_some_iff.mp h2
    obtain ⟨o, e5, e6⟩ := Option.map_eq_some_iff.mp h3
    obtain ⟨vs, l2, r2⟩ := list_at R e hb
    obtain ⟨⟨as, a1⟩, a2, a3⟩ := md_reads R 3 q1 ru
    obtain ⟨⟨bs, b1⟩, b2, b3⟩ := mds_reads (fun v d x => md_reads R 3) r2 q2
    obtain ⟨o', ho', hc', k', hd'⟩ := l2
    have rl : Reads h (.ref bd) (.list (mps c.val es)) (bd :: bs) := .list ho' hc' hd' b1
    have e7 := (mfind_any (val := c.val) e5).trans e6
    have hroom : f.A.units + 1 + min (PyData.depthAll (mps c.val es)) (mp c.val d).depth < cLine := by
      have := Nat.min_le_left (PyData.depthAll (mps c.val es)) (mp c.val d).depth
      show f.un + 1 + _ < cLine
      omega
    exact ⟨fun Q q => SeqAt.in_list_reads (s := f.st h tk) rl a1 b2 a2 hroom (by rw [e7]; exact q tk), fun Q q => SeqAt.notIn_list_reads (s := f.st h tk) rl a1 b2 a2 hroom (by rw [e7]; exact q tk)⟩
  | _ => cases h1
theorem ord_inv {u v : V} {x y : Value} {g : Int → Int → Bool} {r : Bool} (h : ord u v g = some r) (ru : RV c.val ρ u x) (rv : RV c.val ρ v y) : ∃ k i j t s, x = .int (c.val k + i) t ∧ y = .int (c.val k + j) s ∧ r = g i j := by
  obtain ⟨p, e1, h1⟩ := Option.bind_eq_some_iff.mp h
  obtain ⟨q, e2, h2⟩ := Option.bind_eq_some_iff.mp h1
  obtain ⟨e3, rfl⟩ := gO_inv h2
  obtain ⟨t, rfl⟩ := rv_sym ru e1
  obtain ⟨s, rfl⟩ := rv_sym rv e2
  exact ⟨p.1, p.2, q.2, t, s, rfl, by rw [Nat.eq_of_beq_eq_true e3], rfl⟩
theorem isN_sound {u v : V} {x y : Value} {r : Bool} (h : isN u v = some r) (ru : RV c.val ρ u x) (rv : RV c.val ρ v y) : y = .none ∧ (x == .none) = r := by
  obtain ⟨_, e, h1⟩ := Option.bind_eq_some_iff.mp h
  cases V.none_inv (gO_inv e).1
  cases rv
  refine ⟨rfl, ?_⟩
  cases ru <;> cases h1 <;> rfl
theorem dec_add {k : Nat} {P : Int → Int → Prop} [∀ i j, Decidable (P i j)] {i j : Int} (h : P (c.val k + i) (c.val k + j) ↔ P i j) : decide (P (c.val k + i) (c.val k + j)) = decide (P i j) := by
  rw [Bool.eq_iff_iff, decide_eq_true_eq, decide_eq_true_eq]; exact h
theorem cmp_sound (R : Rl c f m ex ρ H h) (hu : f.un + 66 < cLine) {op : CmpOp} {u v : V} {x y : Value} {r : Bool} (hv : cmpop H op u v = some r) (ru : RV c.val ρ u x) (rv : RV c.val ρ v y)
    (q : ∀ tk', Q (.bool r) (f.st h tk')) : wpAny (model prg c.w) f.A (compareOp op x y) Q (fun _ _ => False) (f.st h tk) := by
  cases op with
  | Eq => exact (veq_sound R hu hv ru rv).1 Q q
  | NotEq =>
    obtain ⟨s, e, rfl⟩ := Option.map_eq_some_iff.mp hv
    exact (veq_sound R hu e ru rv).2 Q q
  | In => exact (vin_sound R hu hv ru rv).1 Q q
  | NotIn =>
    obtain ⟨s, e, rfl⟩ := Option.map_eq_some_iff.mp hv
    exact (vin_sound R hu e ru rv).2 Q q
  | Lt =>
    obtain ⟨k, i, j, t, s, rfl, rfl, rfl⟩ := ord_inv (g := fun c d => decide (c < d)) hv ru rv
    exact PyProof.Rows.lt_int (s := f.st h tk) (by rw [dec_add (P := fun i j => i < j) (by omega)]; exact q tk)
  | LtE =>
    obtain ⟨k, i, j, t, s, rfl, rfl, rfl⟩ := ord_inv (g := fun c d => decide (c ≤ d)) hv ru rv
    exact PyProof.Rows.le_int (s := f.st h tk) (by rw [dec_add (P := fun i j => i ≤ j) (by omega)]; exact q tk)
  | Gt =>
    obtain ⟨k, i, j, t, s, rfl, rfl, rfl⟩ := ord_inv (g := fun c d => decide (d < c)) hv ru rv
    exact PyProof.Rows.gt_int (s := f.st h tk) (by rw [dec_add (P := fun i j => j < i) (by omega)]; exact q tk)
  | Is =>
    obtain ⟨rfl, e⟩ := isN_sound hv ru rv
    exact PySem.is_none (s := f.st h tk) (by rw [e]; exact q tk)
  | IsNot =>
    obtain ⟨s, e1, e2⟩ := Option.map_eq_some_iff.mp hv
    obtain ⟨rfl, e⟩ := isN_sound e1 ru rv
    exact PySem.isNot_none (s := f.st h tk) (by show Q (.bool (!(x == .none))) _; rw [e, e2]; exact q tk)
  | GtE => cases hv
end
end N
end Mine
end
section
open PySem PySem.W PyProof.Rows PySem.Calls
set_option Elab.async false
set_option maxRecDepth 100000
set_option maxHeartbeats 1000000
namespace Mine
section
variable {prog : Program} {w : World} {A : Around} {E : Value → Shared → Prop} {s : Shared} {h₀ : Heap} {L D : Addr} {m : PySem.Str → Option Value} {news : List (Addr × Obj)} {n : Nat}
theorem sort_strs {vs : List Value} {ss : List PySem.Str} {Q : Value → Shared → Prop} (F : Fr h₀ L s.heap m) (N : News h₀ L s.heap ((D, listOf vs.toArray n) :: news)) (ap : ∀ p ∈ news, p.1 ≠ D)
    (hS : StrsAre vs ss) (h64 : vs.length < 64)
    (h : ∀ h' (out : List Value) ss' e, Fr h₀ L h' m → News h₀ L h' ((D, listOf out.toArray e) :: news) → StrsAre out ss' → ss'.Perm ss → sortedS ss' = true → Q .none { s with heap := h' }) :
    wpAny (model prog w) A (call (.builtin "list.sort") [.ref D]) Q E s := by
  have z := N _ (.head _)
  refine wpAny_call_entry PyProof.Rows.slot_list_sort ⟨_, z.1, rfl⟩ PyProof.Rows.entry_list_sort (list_sort_treeK (n := n) (vs := vs) strKind_oneLt z.1 hS.keysOf (fun v₁ v₂ rest e => keyKind_strs (by rw [← e]; exact hS)) h64 fun st' hp hs => ⟨.none, rfl, ?_⟩) (PyProof.Rows.args_list_sort _)
  obtain ⟨ss', h1, h2, h3⟩ := sorted_out_str hS hp hs
  have F1 : Fr h₀ L (s.heap.update D (Obj.mapSeq fun _ => (#[] : Array Value))) m := F.change (Heap.SameBut.update ..) z.2.1 z.2.2
  have N1 := ki_turn (pre := []) (fun _ => (#[] : Array Value)) (its' := #[]) N (fun p hp => by cases hp) ap rfl rfl
  have N2 := News.grown N1 fun _ _ e => Heap.get?_push_of_some (seqObj "tuple" vs.toArray 0) e
  have N3 := News.grown N2 fun _ _ e => Heap.get?_push_of_some (seqObj "list" #[] 0) e
  generalize hout : (arrOf st').map (·.2) = out at *
  have N4 := ki_turn (pre := []) (fun _ => out) (its' := out) N3 (fun p hp => by cases hp) ap rfl rfl
  have F4 : Fr h₀ L ((((s.heap.update D (Obj.mapSeq fun _ => (#[] : Array Value))).push (seqObj "tuple" vs.toArray 0)).push (seqObj "list" #[] 0)).update D (Obj.mapSeq fun _ => out)) m :=
    ((F1.push (seqObj "tuple" vs.toArray 0)).push (seqObj "list" #[] 0)).change (Heap.SameBut.update ..) z.2.1 z.2.2
  exact h _ out.toList ss' _ F4 (by rw [Array.toArray_toList]; exact N4) h1 h2 h3
end
namespace N
theorem cod_small : (List.range 8).all (fun c => cod (nm c) == c) = true := by decide +kernel
theorem lt_small : (List.range 8).all (fun i => (List.range 8).all fun j => !(decide (1 ≤ i) && decide (1 ≤ j)) || (PySem.Spec.ltCps (nm i).cps.toList (nm j).cps.toList == decide (i < j))) = true := by decide +kernel
theorem cod_at {c : Nat} (h : c < 8) : cod (nm c) = c := by
  have := List.all_eq_true.mp cod_small c (List.mem_range.mpr h)
  exact beq_iff_eq.mp this
theorem lt_at {i j : Nat} (hi : 1 ≤ i ∧ i < 8) (hj : 1 ≤ j ∧ j < 8) : PySem.Spec.ltCps (nm i).cps.toList (nm j).cps.toList = decide (i < j) := by
  have := List.all_eq_true.mp (List.all_eq_true.mp lt_small i (List.mem_range.mpr hi.2)) j (List.mem_range.mpr hj.2)
  simpa [hi.1, hj.1] using this
theorem rising_nat {l : List Nat} : ∀ {p : Nat}, (∀ x ∈ p :: l, 1 ≤ x ∧ x < 8) → risingS (nm p) (l.map nm) = true → (p :: l).Pairwise (· ≤ ·) := by
  induction l with
  | nil => intro p _ _; exact List.pairwise_singleton _ _
  | cons x r ih =>
    intro p hl h
    obtain ⟨h1, h2⟩ := and_inv (show (!(PySem.Spec.ltCps (nm x).cps.toList (nm p).cps.toList) && risingS (nm x) (r.map nm)) = true from h)
    have ih := ih (fun y hy => hl y (.tail _ hy)) h2
    have e := lt_at (hl x (.tail _ (.head _))) (hl p (.head _))
    rw [Bool.not_eq_true'] at h1
    rw [h1] at e
    have hpx : p ≤ x := Nat.not_lt.mp (of_decide_eq_false e.symm)
    refine List.pairwise_cons.mpr ⟨fun y hy => ?_, ih⟩
    rcases List.mem_cons.mp hy with rfl | hy
    · exact hpx
    · exact Nat.le_trans hpx (List.rel_of_pairwise_cons ih hy)
theorem sorted_nat {l : List Nat} (hl : ∀ x ∈ l, 1 ≤ x ∧ x < 8) (h : sortedS (l.map nm) = true) : l.Pairwise (· ≤ ·) := by
  cases l with
  | nil => exact .nil
  | cons p l => exact rising_nat hl h
theorem sorted_same {l : List Nat} {ss : List PySem.Str} (hl : ∀ x ∈ l, 1 ≤ x ∧ x < 8) (hs : l.Pairwise (· ≤ ·)) (hp : ss.Perm (l.map nm)) (h : sortedS ss = true) : ss = l.map nm := by
  have e1 : (ss.map cod).map nm = ss := by
    rw [List.map_map]
    conv => rhs; rw [← List.map_id ss]
    refine List.map_congr_left fun x hx => ?_
    obtain ⟨c, hc, rfl⟩ := List.mem_map.mp (hp.mem_iff.mp hx)
    show nm (cod (nm c)) = nm c
    rw [cod_at (hl c hc).2]
  have e2 : (ss.map cod).Perm l := by
    have := hp.map cod
    rw [List.map_map] at this
    have e : l.map (cod ∘ nm) = l := by
      conv => rhs; rw [← List.map_id l]
      exact List.map_congr_left fun c hc => cod_at (hl c hc).2
    rwa [e] at this
  have hl' : ∀ x ∈ ss.map cod, 1 ≤ x ∧ x < 8 := fun x hx => hl x (e2.mem_iff.mp hx)
  have e3 : ss.map cod = l := e2.eq_of_pairwise (fun a b _ _ h1 h2 => Nat.le_antisymm h1 h2) (sorted_nat hl' (by rw [e1]; exact h)) hs
  rw [← e1, e3]
theorem risb_codes {l : List Nat} : ∀ {c : Nat}, risb c l = true → (∀ x ∈ l, c < x ∧ x < 8) ∧ l.Pairwise (· < ·) := by
  induction l with
  | nil => intro c _; exact ⟨fun _ h => (nomatch h), .nil⟩
  | cons d r ih =>
    intro c h
    obtain ⟨h1, h3⟩ := and_inv (show (Nat.blt c d && Nat.ble d 7 && risb d r) = true from h)
    obtain ⟨h1, h2⟩ := and_inv h1
    have h1 : c < d := Nat.le_of_ble_eq_true h1
    have h2 := Nat.lt_succ_of_le (Nat.le_of_ble_eq_true h2)
    obtain ⟨i1, i2⟩ := ih h3
    refine ⟨fun x hx => ?_, List.pairwise_cons.mpr ⟨fun y hy => (i1 y hy).1, i2⟩⟩
    rcases List.mem_cons.mp hx with rfl | hx
    · exact ⟨h1, h2⟩
    · exact ⟨Nat.lt_trans h1 (i1 x hx).1, (i1 x hx).2⟩
theorem strs_of {xs : List V} : ∀ {cs : List Nat}, allO V.str? xs = some cs → xs = cs.map .str := by
  induction xs with
  | nil => intro cs h; cases h; rfl
  | cons x xs ih =>
    intro cs h
    obtain ⟨k, e1, e2⟩ := Option.bind_eq_some_iff.mp (show x.str?.bind _ = some cs from h)
    obtain ⟨ks, e3, rfl⟩ := Option.map_eq_some_iff.mp e2
    rw [V.str_inv e1, ih e3]; rfl
section
variable {n : Nat} {f : Fx} {m : PySem.Str → Option Value} {ex : List (Addr × Obj)} {ρ : List Addr} {H : Hp} {h : Heap} {tk : Nat} {me : ME} {env : Env} {Φ : V → Hp → Prop} {Q : Value → Shared → Prop}
theorem rvs_strs {l : List Nat} : ∀ {xs : List Value}, RVs c.val ρ (l.map .str) xs → StrsAre xs (l.map nm) := by
  induction l with
  | nil => intro xs r; cases r; exact .nil
  | cons a l ih =>
    intro xs r
    cases r with
    | cons r rs =>
      cases r with
      | str _ t _ => exact .cons _ t (ih rs)
theorem strs_rvs {l : List Nat} : ∀ {xs : List Value}, (∀ x ∈ l, x < tb.length) → StrsAre xs (l.map nm) → RVs c.val ρ (l.map .str) xs := by
  induction l with
  | nil => intro xs _ h; cases h; exact .nil
  | cons a l ih =>
    intro xs hl h
    cases h with
    | cons _ t h => exact .cons (.str a t (hl a (.head _))) (ih (fun x hx => hl x (.tail _ hx)) h)
theorem keys_rvs {es : List (Nat × V)} {kvs : List (PySem.Str × Value)} (r : REs c.val ρ es kvs) : ∀ {vs : List Value}, vs.length = kvs.length → (∀ (j : Nat) v, vs[j]? = some v → ∃ k x, kvs[j]? = some (k, x) ∧ (PySem.strKind prg c.w).is k v = true) → RVs c.val ρ (keysV es) vs := by
  induction r with
  | nil =>
    intro vs hl _
    cases vs with
    | nil => exact .nil
    | cons => cases hl
  | cons hk _ _ ih =>
    intro vs hl h
    cases vs with
    | nil => cases hl
    | cons v vs =>
      obtain ⟨k, x, e, q⟩ := h 0 v rfl
      simp only [List.getElem?_cons_zero, Option.some.injEq, Prod.mk.injEq] at e
      obtain ⟨rfl, rfl⟩ := e
      obtain ⟨t, rfl⟩ := Value.isStrOf_shape q
      exact .cons (.str _ t hk) (ih (by simpa using hl) fun j v e => h (j + 1) v (by simpa using e))
theorem notModules (K : FxOK c mean mg mb f) (F : Fr f.gz f.L h m) : (h.objs.size == sysModules) = false := F.notModules (modules_low K.T.nolimit)
noncomputable def isChk (w : World) (D : Nat) : Bool := plainGet (hdA.heap_1_39 w.params) D "__class__" && hasDictIn (hdA.heap_1_39 w.params) D && findIn (hdA.heap_1_39 w.params) (.ref D) "__class__" == some (some (.builtin "object.__class__")) &&
  specialIn (hdA.heap_1_39 w.params) (.builtin "object.__class__") "__get__" == some (some (.builtin "getset_descriptor.__get__")) && takesIn (hdA.heap_1_39 w.params) (.builtin "object.__class__") == some true && mroIn (hdA.heap_1_39 w.params) D (.type "object") == some true &&
  icls.all fun C => kitOne (hdA.heap_1_39 w.params) (.ref D) (.ref C) == some (decide (D = C))
theorem is_chk (w : World) : clss.all (fun p => isChk w p.1) = true := by kernel_rfl
theorem is_chk2 (w : World) : icls.all (fun C => kitOne (hdA.heap_1_39 w.params) (.type "int") (.ref C) == some false && kitOne (hdA.heap_1_39 w.params) (.type "NoneType") (.ref C) == some false) = true := by kernel_rfl
theorem isTup_sound {u : V} {x : Value} {b : Bool} (R : Rl c f m ex ρ H h) (hv : isTup u H = some b) (ru : RV c.val ρ u x) :
    ((∀ tk', Q (.bool !b) (f.st h tk')) → wpAny (model prg c.w) f.A (call (.builtin "isinstance") [x, .type "int"]) Q (fun _ _ => False) (f.st h tk)) ∧ ((∀ tk', Q (.bool b) (f.st h tk')) → wpAny (model prg c.w) f.A (call (.builtin "isinstance") [x, .type "tuple"]) Q (fun _ _ => False) (f.st h tk)) := by
  cases ru with
  | int k i t => cases hv; exact ⟨fun q => IsiPair.int_int (s := f.st h tk) (q _), fun q => IsiPair.int_tuple (s := f.st h tk) (q _)⟩
  | ref ha =>
    obtain ⟨xs, e, e2⟩ := Option.map_eq_some_iff.mp (show (H[_]?.bind O.tup?).map _ = some b from hv)
    cases e2
    obtain ⟨o, e, e1⟩ := at_inv e
    cases O.tup_inv e1
    obtain ⟨ys, ⟨o, ho, hc, -⟩, r⟩ := tup_at R e ha
    exact ⟨fun q => IsiPair.tuple_int (s := f.st h tk) ho hc (q _), fun q => IsiPair.tuple_tuple (s := f.st h tk) ho hc (q _)⟩
  | _ => cases hv
theorem isi_sound (K : FxOK c mean mg mb f) (R : Rl c f m ex ρ H h) {u v : V} {x y : Value} {b : Bool} (hv : isi u v H = some b) (ru : RV c.val ρ u x) (rv : RV c.val ρ v y) (hΦ : Φ (.bool b) H) (P : PE c f m ex ρ Φ Q) :
    wpAny (model prg c.w) f.A (call (.builtin "isinstance") [x, y]) Q (fun _ _ => False) (f.st h tk) := by
  have fin : ∀ {b' : Bool} tk', b' = b → Q (.bool b') (f.st h tk') := fun tk' e => P.val (tk := tk') hΦ R (e ▸ .bool _)
  have X' := K.X.keeps R.F.keep
  cases rv with
  | bi k =>
    cases k with
    | int =>
      obtain ⟨d, e, e2⟩ := Option.map_eq_some_iff.mp (show (isTup u H).map _ = some b from hv)
      exact (isTup_sound R e ru).1 fun _ => fin _ e2
    | tuple => exact (isTup_sound R (show isTup u H = some b from hv) ru).2 fun _ => fin _ rfl
    | _ => cases hv
  | fn C =>
    cases ru with
    | @ref a ad ha =>
      obtain ⟨p, e, h1⟩ := Option.bind_eq_some_iff.mp (show (H[a]?.bind O.inst?).bind _ = some b from hv)
      obtain ⟨o, e, e1⟩ := at_inv e
      obtain ⟨D, es⟩ := p
      cases O.inst_inv e1
      obtain ⟨q, e2⟩ := gO_inv h1
      obtain ⟨q, hC⟩ := and_inv q
      obtain ⟨i, hi⟩ := Option.isSome_iff_exists.mp q
      have chk := List.all_eq_true.mp (is_chk c.w) _ (lookc_mem hi)
      obtain ⟨chk, c7⟩ := and_inv chk
      obtain ⟨chk, c6⟩ := and_inv chk
      obtain ⟨chk, c5⟩ := and_inv chk
      obtain ⟨chk, c4⟩ := and_inv chk
      obtain ⟨chk, c3⟩ := and_inv chk
      obtain ⟨c1, c2⟩ := and_inv chk
      have c8 := beq_iff_eq.mp (List.all_eq_true.mp c7 _ (hasc_iff.mp hC))
      obtain ⟨d, des, n, I, -⟩ := inst_at R e ha
      refine kia_one (s := f.st h tk) (kitx_own c1 c2 (beq_iff_eq.mp c3) (beq_iff_eq.mp c4) (beq_iff_eq.mp c5) (beq_iff_eq.mp c6)) X' I c8 (by intro z; cases z) fun tk' => fin tk' ?_
      rw [← e2, Bool.eq_iff_iff, decide_eq_true_eq]
      exact ⟨fun z => z ▸ Nat.beq_refl D, Nat.eq_of_beq_eq_true⟩
    | int k i t =>
      obtain ⟨q, e⟩ := gO_inv (show gO (hasc C icls) false = some b from hv)
      have c8 := List.all_eq_true.mp (is_chk2 c.w) _ (hasc_iff.mp q)
      exact kia_one (s := f.st h tk) kitx_int X' trivial (beq_iff_eq.mp (and_inv c8).1) (by intro z; cases z) fun tk' => fin tk' e
    | none =>
      obtain ⟨q, e⟩ := gO_inv (show gO (hasc C icls) false = some b from hv)
      have c8 := List.all_eq_true.mp (is_chk2 c.w) _ (hasc_iff.mp q)
      exact kia_one (s := f.st h tk) kitx_none X' trivial (beq_iff_eq.mp (and_inv c8).2) (by intro z; cases z) fun tk' => fin tk' e
    | _ => cases hv
  | _ => cases hv
end
end N
end Mine
end
section
open PySem PySem.W PyProof.Rows PySem.Calls
set_option Elab.async false
set_option maxRecDepth 100000
set_option maxHeartbeats 1000000
namespace Mine
theorem lk_list_keys : typeLookup (.type "list") "keys" = pure none := by rw [typeLookup_type, builtinLookup_eq_fast]; kernel_rfl
section
variable {prog : Program} {w : World} {A : Around} {E : Value → Shared → Prop} {s : Shared}
theorem by_keys {a : Addr} {xs : Array Value} {k : Nat} {sl : Array (Option Value)} {hp : Heap} {g : Array GenState} {d : Drawn} {tk : Nat} {os : OsState} {u : Tok} {Q : Value → Shared → Prop}
    (hx : hp.get? a = some { cls := .type "list", dict := none, data := .seq xs k, slots := sl }) (hA : A.handled = none)
    (h : ∀ h' tk e, Heap.NewExcOf hp h' e "AttributeError" → E (.ref e) ⟨h', g, d, tk, os⟩) :
    wpAny (model prog w) A (getAttrBy (.ref a) (.str "keys" u) false) Q E ⟨hp, g, d, tk, os⟩ := by
  have hT : ∀ tk', (⟨hp, g, d, tk', os⟩ : Shared).TypeIs (.ref a) "list" := fun _ => ⟨_, hx, rfl⟩
  have f1 := sub_AttributeError
  have f3 := F.slot_list_getattribute.lookup
  have f4 := F.slot_list_getattribute.bind (.ref a)
  have f5 := am_list_getattr_none
  have hmiss := lk_list_keys
  unfold getAttrBy
  repeat (any_goals (first | assumption | exact hT _ | ((with_reducible show wpAny _ _ (call (Value.builtin "list.__getattribute__") _ _) _ _ _); refine call_meets F.slot_list_getattribute (hT _) am_entry_list_getattribute (F.args_list_getattribute_2 _ _) (meets_getattribute_miss_list a xs k sl "keys" _ hmiss (by decide +kernel)) ⟨hx, hA, fun h' tk' e hx' => ?_⟩) | wp_step))
  obtain ⟨t', u', he⟩ := hx'.there
  show wpAny _ _ (getattributeRaised _ _ _ _ _ _ _) _ _ _
  unfold getattributeRaised
  repeat (any_goals (first | assumption | wp_step))
  exact h _ _ _ hx'.of
theorem no_keys {a : Addr} {xs : Array Value} {k : Nat} {sl : Array (Option Value)} {Q : Option Value → Shared → Prop} (hx : s.heap.get? a = some { cls := .type "list", dict := none, data := .seq xs k, slots := sl }) (hA : A.handled = none)
    (h : ∀ h' tk, (∀ b o, s.heap.get? b = some o → h'.get? b = some o) → Q none { s with heap := h', toks := tk }) : wpAny (model prog w) A (getAttr? (.ref a) "keys") Q E s := by
  obtain ⟨hp, g, d, tk, os⟩ := s
  unfold getAttr? getAttrBy?
  refine wpAny_bind (wpAny_mkText ?_)
  refine wpAny_bind (wpAny_attempt ?_)
  refine by_keys hx hA fun h' tk' e hx' => ?_
  obtain ⟨ob, vs, e1, e2, e3, e4⟩ := hx'.there
  have f1 := sub_AttributeError
  have hT : (⟨h', g, d, tk', os⟩ : Shared).TypeIs (.ref e) "AttributeError" := ⟨ob, e1, e2⟩
  refine wpAny_bind (wpAny_isInstance hT f1 ?_)
  rw [if_pos rfl]
  exact wpAny_pure (h h' tk' hx'.keeps)
end
end Mine
end
section
open PySem PySem.W PyProof.Rows PySem.Calls
set_option Elab.async false
set_option maxRecDepth 100000
set_option maxHeartbeats 1000000
namespace Mine
theorem entry_dup : entryFor table "dict.update.loop" = some Builtin.«dict.update.loop» := entryFor_of_tree (by kernel_rfl)
theorem plain_dup : plainId "dict.update.loop" = true := by decide +kernel
namespace N
section
variable {n : Nat} {f : Fx} {m : PySem.Str → Option Value} {ex : List (Addr × Obj)} {ρ : List Addr} {H : Hp} {h : Heap} {tk : Nat} {me : ME} {env : Env} {Φ : V → Hp → Prop} {Q : Value → Shared → Prop}
/-- pairs, laid -/
inductive PM (ρ : List Addr) (h : Heap) : List Value → List (Nat × V) → Prop
  | nil : PM ρ h [] []
  | cons {t : Addr} {k : Nat} {u : Tok} {v : V} {x : Value} {xs : List Value} {ps : List (Nat × V)} : IsTup h t (List.toArray [.str (nm k) u, x]) → k < tb.length → RV c.val ρ v x → PM ρ h xs ps → PM ρ h (.ref t :: xs) ((k, v) :: ps)
theorem PM.keeps {h h' : Heap} {xs : List Value} {ps : List (Nat × V)} (r : PM ρ h xs ps) (hk : ∀ b o, (∃ its, IsTup h b its) → h.get? b = some o → h'.get? b = some o) : PM ρ h' xs ps := by
  induction r with
  | nil => exact .nil
  | @cons t k u v x xs ps a b d _ ih =>
    refine .cons (u := u) ?_ b d ih
    obtain ⟨o, e, q⟩ := a
    exact ⟨o, hk _ _ ⟨_, ⟨o, e, q⟩⟩ e, q⟩
theorem dup_loop {A : Around} (hh : A.handled = none) {I l D : Addr} {items : Array Value} (hDI : D ≠ I) (hDl : D ≠ l) (hIl : I ≠ l) {R : Result → Shared → Prop} : ∀ (rest : List Value) (ps mes : List (Nat × V)) (acc : List (PySem.Str × Value)) (i : Nat) (tki : Tok) (s : Shared),
    items.toList.drop i = rest → PM ρ s.heap rest ps → s.heap.IsListIter I l i → s.heap.IsList l items → s.heap.DictOf (PySem.strKind prg c.w) D acc → REs c.val ρ mes acc → acc.length + rest.length ≤ 1000 →
    (∀ h' tk kvs, (∀ b o, b ≠ D → b ≠ I → s.heap.get? b = some o → h'.get? b = some o) → h'.DictOf (PySem.strKind prg c.w) D kvs → REs c.val ρ (putAll mes ps) kvs → R (.ok (.ret .none)) { s with heap := h', toks := tk }) →
    codeAny (model prg c.w) A (.builtin "dict.update.loop" ⟨[.ref D, .ref I, .int i tki, .none], []⟩) R s := by
  intro rest
  induction rest with
  | nil =>
    intro ps mes acc i tki s hd pm hit hl hD re hz q
    cases pm
    refine codeAny_builtin entry_dup ?_
    rw [Around.under_plainId plain_dup _]
    show wpAny _ A.in1 (pyNext (.ref I) >>= _) _ _ s
    have hi : items[i]? = none := by
      have := List.drop_eq_nil_iff.mp hd
      rw [Array.getElem?_eq_none]; simpa using this
    refine wpAny_bind (wpAny_pyNext_list_end (A := A.in1) hh hit hl hi fun h' he => ?_)
    show wpAny _ _ (Builtin.Dict.addKeywords D [] >>= _) _ _ _
    have hDh : h'.DictOf (PySem.strKind prg c.w) D acc := by
      obtain ⟨o, es, ep, ho, r⟩ := hD
      exact ⟨o, es, ep, he D o hDI ho, r⟩
    exact wpAny_bind (wpAny_pure (wpAny_pure (q h' s.toks acc (fun b o _ hb e => he b o hb e) hDh re)))
  | cons x rest ih =>
    intro ps mes acc i tki s hd pm hit hl hD re hz q
    cases pm with
    | @cons t k u v y _ ps ht hk rv pm =>
      have hi : items[i]? = some (.ref t) := by
        have := congrArg (fun l => l[0]?) hd
        simpa using this
      have hd' : items.toList.drop (i + 1) = rest := by
        have := congrArg List.tail hd
        simpa using this
      refine codeAny_builtin entry_dup ?_
      rw [Around.under_plainId plain_dup _]
      show wpAny _ A.in1 (pyNext (.ref I) >>= _) _ _ s
      refine wpAny_bind (wpAny_pyNext_list_item (A := A.in1) hit hl hi fun h1 hit1 hs1 => ?_)
      have notI : ∀ b its, IsTup s.heap b its → b ≠ I := fun b its ⟨o, e, e1, _⟩ z => by
        obtain ⟨o', g1, g2, _⟩ := hit
        rw [z, g1] at e; cases e
        exact absurd (Value.type.inj (g2.symm.trans e1)) (by decide)
      have notD : ∀ b its, IsTup s.heap b its → b ≠ D := fun b its ⟨o, e, e1, _⟩ z => by
        obtain ⟨o', g1, g2⟩ := (hD.typeIs (s := s))
        rw [z, g1] at e; cases e
        exact absurd (Value.type.inj (g2.symm.trans e1)) (by decide)
      obtain ⟨ot, et, ct, nt, dt⟩ := ht
      have et1 : h1.get? t = some ot := hs1.extBut t ot (notI t _ ⟨ot, et, ct, nt, dt⟩) et
      have hT : (⟨h1, s.gens, s.drawn, s.toks, s.os⟩ : Shared).TypeIs (.ref t) "tuple" := ⟨ot, et1, ct⟩
      have hD1 : h1.DictOf (PySem.strKind prg c.w) D acc := by
        obtain ⟨o, es, ep, ho, r⟩ := hD
        exact ⟨o, es, ep, hs1.extBut D o hDI ho, r⟩
      have nd : (acc.map (·.1)).Nodup := by obtain ⟨_, _, _, _, _, _, _, _, q⟩ := hD; exact q
      refine wpAny_bind (wpAny_holding (wpAny_bind (wpAny_tryCatch ?_)))
      unfold Builtin.Dict.pairItems
      refine wpAny_bind (wpAny_typeOf hT ?_)
      rw [if_pos (by decide)]
      refine wpAny_bind (wpAny_seqItems (s := ⟨h1, s.gens, s.drawn, s.toks, s.os⟩) et1 dt (wpAny_pure ?_))
      show wpAny _ _ (holding [Value.str (nm k) u, y] (dictSet D (.str (nm k) u) y)) _ _ _
      refine wpAny_holding (wpAny_dictSet_pairs (s := ⟨h1, s.gens, s.drawn, s.toks, s.os⟩) (knd := PySem.strKind prg c.w) (strKind_is _ _ _ _) hD1 (fun h2 hD2 hs2 => ?_) (sizeLine_of (by simp only [List.length_cons] at hz; omega)))
      have hlen : (stored acc (nm k) y).length ≤ acc.length + 1 := by
        unfold stored
        split
        · simp
        · simp
      refine wpAny_pure ⟨plainId_quiet plain_dup _, ih ps (putc k v mes) (stored acc (nm k) y) (i + 1) 0 _ hd' (pm.keeps fun b o ⟨its, hb⟩ e => ?_) ?_ ?_ hD2 (res_put re hk rv nd) (by simp only [List.length_cons] at hz; omega) fun h3 tk3 kvs hk3 hD3 re3 => ?_⟩
      · exact (hs2.extBut b o (notD b its hb) (hs1.extBut b o (notI b its hb) e))
      · obtain ⟨o', g1, g2⟩ := hit1
        exact ⟨o', hs2.extBut I o' (Ne.symm hDI) g1, g2⟩
      · obtain ⟨o', g1, g2⟩ := hl
        exact ⟨o', hs2.extBut l o' (Ne.symm hDl) (hs1.extBut l o' (Ne.symm hIl) g1), g2⟩
      · exact q h3 tk3 kvs (fun b o h1' h2' e => hk3 b o h1' h2' (hs2.extBut b o h1' (hs1.extBut b o h2' e))) hD3 re3
theorem pair_two {xs : List V} {p : Nat × V} (h : ((gO (Nat.beq xs.length 2) ()).bind fun _ => (xs.head?.bind V.str?).bind fun c => xs.tail.head?.map fun v => (c, v)) = some p) : ∃ x, xs = [x, p.2] ∧ x.str? = some p.1 := by
  rcases xs with _ | ⟨x1, _ | ⟨x2, _ | ⟨_, _⟩⟩⟩
  · cases h
  · cases h
  · obtain ⟨u, h1, h2⟩ := Option.bind_eq_some_iff.mp (show (V.str? x1).bind _ = some p from h)
    cases h2
    exact ⟨x1, rfl, h1⟩
  · cases h
theorem pair_inv {v : V} {x : Value} {p : Nat × V} (R : Rl c f m ex ρ H h) (hp : pairO H v = some p) (r : RV c.val ρ v x) : ∃ t u y, x = .ref t ∧ IsTup h t (List.toArray [.str (nm p.1) u, y]) ∧ p.1 < tb.length ∧ RV c.val ρ p.2 y := by
  obtain ⟨xs, e, h1⟩ := Option.bind_eq_some_iff.mp hp
  obtain ⟨x1, rfl, h6⟩ := pair_two h1
  clear hp h1
  obtain ⟨o, e1, e2⟩ := Option.bind_eq_some_iff.mp e
  obtain ⟨a, ad, _, rfl, ha, ea⟩ := ob_at r e1
  cases O.tup_inv e2
  obtain ⟨ys, hT, rr⟩ := tup_at R ea ha
  cases rr with
  | cons r1 rr => cases rr with
    | cons r2 rr =>
      cases rr
      obtain ⟨t, rfl, hk⟩ := rv_str r1 h6
      exact ⟨ad, t, _, rfl, hT, hk, r2⟩
theorem pm_of (R : Rl c f m ex ρ H h) {xs : List V} {ys : List Value} (rs : RVs c.val ρ xs ys) : ∀ {es : List (Nat × V)}, allO (pairO H) xs = some es → PM ρ h ys es ∧ ys.length = es.length := by
  induction rs with
  | nil => intro es hp; cases hp; exact ⟨.nil, rfl⟩
  | cons r rs ih =>
    intro es hp
    obtain ⟨p, e1, e2⟩ := Option.bind_eq_some_iff.mp hp
    obtain ⟨es', e3, rfl⟩ := Option.map_eq_some_iff.mp e2
    obtain ⟨i1, i2⟩ := ih e3
    obtain ⟨t, u, y, rfl, hT, hk, ry⟩ := pair_inv R e1 r
    exact ⟨.cons hT hk ry i1, congrArg Nat.succ i2⟩
theorem list_in0 (R : Rl c f m ex ρ H h) {k : Nat} {xs : List V} (hk : H[k]? = some (.list xs)) {a : Addr} (ha : ρ[k]? = some a) : ∃ ys n news, News f.gz f.L h news ∧ (a, listOf (List.toArray ys) n) ∈ news ∧ RVs c.val ρ xs ys := by
  obtain ⟨a', es, pre, post, e1, x, N, -⟩ := R.at hk
  rw [ha] at e1; cases e1
  cases x with
  | @list _ ys _ n r => exact ⟨ys, n, _, N, List.mem_append_right _ (List.mem_append_left _ (.head _)), r⟩
theorem list_ob (R : Rl c f m ex ρ H h) {k : Nat} {xs : List V} (hk : H[k]? = some (.list xs)) {a : Addr} (ha : ρ[k]? = some a) : ∃ ys n, h.get? a = some (listOf (List.toArray ys) n) ∧ RVs c.val ρ xs ys := by
  obtain ⟨ys, n, news, N, hm, r⟩ := list_in0 R hk ha
  exact ⟨ys, n, (N _ hm).1, r⟩
theorem dict_pairs (K : FxOK c mean mg mb f) (R : Rl c f m ex ρ H h) {k : Nat} {a : Addr} {xs : List V} {es : List (Nat × V)} (hk : H[k]? = some (.list xs)) (ha : ρ[k]? = some a) (hp : allO (pairO H) xs = some es) (hl : es.length ≤ 500)
    (hA : N.alloc (.dict none (putAll [] es)) H Φ) (P : PE c f m ex ρ Φ Q) : wpAny (model prg c.w) f.A (call (.type "dict") [.ref a]) Q (fun _ _ => False) (f.st h tk) := by
  obtain ⟨news, N, _, _, gr, _⟩ := R.grow K
  obtain ⟨ys, n, ho, r⟩ := list_ob R hk ha
  obtain ⟨pm, hlen⟩ := pm_of R r hp
  have lo' := notModules K R.F
  refine callType_codes (s := f.st h tk) (Q₁ := fun obj s₁ => obj = .ref h.objs.size ∧ s₁ = f.st (h.push { cls := .type "dict", data := .dict #[] }) tk) F.kt_called_dict (F.kt_typeCall_dict_1 _) F.entry_dict_init (kt_code_dict_new _ ⟨rfl, rfl⟩) ?_
  rintro obj s₁ ⟨rfl, rfl⟩
  have hnew : (h.push { cls := .type "dict", data := .dict #[] }).DictOf (PySem.strKind prg c.w) h.objs.size [] := Heap.DictOf.new h
  have alt : a < h.objs.size := Heap.lt_size ho
  have ho1 : (h.push { cls := .type "dict", data := .dict #[] }).get? a = some (listOf (List.toArray ys) n) := Heap.get?_push_of_some _ ho
  refine ⟨(hnew.typeIs (s := f.st (h.push { cls := .type "dict", data := .dict #[] }) tk)), F.args_dict_init_2 _ _, ?_⟩
  unfold Builtin.«dict.__init__»
  refine wpAny_bind ?_
  unfold Builtin.Dict.selfAndRest
  refine wpAny_bind (wpAny_notOrdered_dict (hnew.typeIs (s := f.st (h.push { cls := .type "dict", data := .dict #[] }) tk)) ?_)
  show wpAny _ _ (pure (h.objs.size, [Value.ref a])) _ _ _
  refine wpAny_pure ?_
  show wpAny _ _ (Builtin.Dict.updateFrom "dict.__init__" h.objs.size (.ref a) [] .none) _ _ _
  unfold Builtin.Dict.updateFrom
  have hT : (f.st (h.push { cls := .type "dict", data := .dict #[] }) tk).TypeIs (.ref a) "list" := ⟨_, ho1, rfl⟩
  refine wpAny_bind (wpAny_typeOf hT ?_)
  rw [if_pos (by decide)]
  refine wpAny_bind (no_keys (s := f.st (h.push { cls := .type "dict", data := .dict #[] }) tk) ho1 rfl fun h1 tk1 hk1 => ?_)
  rw [if_pos (show (Option.none : Option Value).isNone = true from rfl)]
  refine wpAny_bind (wpAny_rule ?_)
  have ho2 := hk1 _ _ ho1
  have hl2 : h1.IsList a (List.toArray ys) := ⟨_, ho2, rfl, n, rfl⟩
  have hne : a ≠ h.objs.size := Nat.ne_of_lt alt
  have hDlt : h.objs.size < h1.objs.size := by
    obtain ⟨o, _, _, e, _⟩ := hnew
    exact Heap.lt_size (hk1 _ _ e)
  refine wpAny_bind (wpAny_pyIter_list (s := ⟨h1, f.gn, f.dr, tk1, f.os⟩) hl2 ?_)
  have hk2 : ∀ b o, h.get? b = some o → (h1.push { cls := .type "list_iterator", data := .fields #[.ref a, .int 0 0] }).get? b = some o := fun b o e => Heap.get?_push_of_some _ (hk1 _ _ (Heap.get?_push_of_some _ e))
  refine wpAny_pure ⟨plainId_quiet plain_dup _, dup_loop (ρ := ρ) (A := f.A.in1) rfl (I := h1.objs.size) (l := a) (D := h.objs.size) (items := List.toArray ys) (Nat.ne_of_lt hDlt) (Ne.symm hne) (Nat.ne_of_gt (Heap.lt_size ho2)) ys es [] [] 0 0 _ rfl (pm.keeps fun b o _ e => hk2 b o e) ⟨_, Heap.get?_push_size _ rfl, rfl, rfl⟩ (hl2.push _) ?_ .nil (by simp only [List.length_nil]; omega) fun h' tk' kvs hk3 hD re => ?_⟩
  · obtain ⟨o, es', ep, e, q⟩ := hnew
    exact ⟨o, es', ep, Heap.get?_push_of_some _ (hk1 _ _ e), q⟩
  · refine ⟨rfl, ?_⟩
    obtain ⟨o', ho', hd'⟩ := Heap.dictOf_iff.mp hD
    have keep : ∀ b o, h.get? b = some o → h'.get? b = some o := fun b o e => hk3 b o (Nat.ne_of_lt (Heap.lt_size e)) (Nat.ne_of_lt (Nat.lt_of_lt_of_le (Heap.lt_size e) (Nat.le_of_lt hDlt))) (hk2 b o e)
    have N' : News f.gz f.L h' ((h.objs.size, o') :: news) := fun p hp => by
      rcases List.mem_cons.mp hp with rfl | hp
      · refine ⟨ho', Ne.symm (Nat.ne_of_lt R.F.ns.lt), ?_⟩
        cases q : f.gz.get? h.objs.size with
        | none => rfl
        | some o => exact absurd (Heap.lt_size (R.F.keep _ _ q)) (Nat.lt_irrefl _)
      · exact ⟨keep _ _ (N p hp).1, (N p hp).2⟩
    exact P.new (tk := tk') hA R.len (gr _ _ _ _ _ (.dict hd' (re.up (List.prefix_append _ _)) lo' fun _ z => nomatch z) (R.F.keeps keep) N' fun p hp => Heap.lt_size (N p hp).1)
end
end N
end Mine
end
section
open PySem PySem.W PyProof.Rows PySem.Calls
set_option Elab.async false
set_option maxRecDepth 100000
set_option maxHeartbeats 1000000
namespace Mine
namespace N
section
variable {n : Nat} {f : Fx} {m : PySem.Str → Option Value} {ex : List (Addr × Obj)} {ρ : List Addr} {H : Hp} {h : Heap} {tk : Nat} {me : ME} {env : Env} {Φ : V → Hp → Prop} {Q : Value → Shared → Prop}
theorem rvs_one {vs : List V} {v : V} {xs : List Value} (h : one? vs = some v) (r : RVs c.val ρ vs xs) : ∃ x, xs = [x] ∧ RV c.val ρ v x := by
  rcases vs with _ | ⟨v1, _ | ⟨_, _⟩⟩
  · cases h
  · cases h
    cases r with
    | cons a b => cases b; exact ⟨_, rfl, a⟩
  · cases h
theorem rvs_two {vs : List V} {p : V × V} {xs : List Value} (h : two? vs = some p) (r : RVs c.val ρ vs xs) : ∃ x y, xs = [x, y] ∧ RV c.val ρ p.1 x ∧ RV c.val ρ p.2 y := by
  rcases vs with _ | ⟨v1, _ | ⟨v2, _ | ⟨_, _⟩⟩⟩
  · cases h
  · cases h
  · cases h
    cases r with
    | cons a b =>
      cases b with
      | cons b d => cases d; exact ⟨_, _, rfl, a, b⟩
  · cases h
theorem range_at (R : Rl c f m ex ρ H h) {k j : Nat} {x y : Int} (hk : H[k]? = some (.range j x y)) {a : Addr} (ha : ρ[k]? = some a) : ∃ t u v, IsRange h a (c.val j + x) (c.val j + y) 1 t u v := by
  obtain ⟨a', es, pre, post, e1, X, N, -⟩ := R.at hk
  rw [ha] at e1; cases e1
  cases X with
  | @range _ _ _ _ t u v => exact ⟨t, u, v, (N (a, _) (List.mem_append_right _ (List.mem_append_left _ (.head _)))).1⟩
theorem len_sound (R : Rl c f m ex ρ H h) {u : V} {x : Value} {n : Nat} (hB : (obOf H u).bind lenO = some n) (hΦ : Φ (.i n) H) (ru : RV c.val ρ u x) (P : PE c f m ex ρ Φ Q) : wpAny (model prg c.w) f.A (call (.builtin "len") [x]) Q (fun _ _ => False) (f.st h tk) := by
  obtain ⟨o, e, h1⟩ := Option.bind_eq_some_iff.mp hB
  obtain ⟨a, ad, _, rfl, ha, e⟩ := ob_at ru e
  have fin : ∀ tk' t (n' : Nat), n' = n → Q (.int n' t) (f.st h tk') := fun tk' t n' z => P.val hΦ R (z ▸ rv_int)
  cases o with
  | list xs =>
    obtain ⟨hz, q⟩ := gO_inv h1
    obtain ⟨ys, hl, r⟩ := list_at R e ha
    have hs : (List.toArray ys).size = xs.length := List.size_toArray.trans r.length
    exact PyProof.Rows.len_list (s := f.st h tk) hl (by rw [hs]; have := Nat.le_of_ble_eq_true hz; omega) (fin _ _ _ (hs.trans q))
  | tup xs =>
    obtain ⟨hz, q⟩ := gO_inv h1
    obtain ⟨ys, hl, r⟩ := tup_at R e ha
    have hs : (List.toArray ys).size = xs.length := List.size_toArray.trans r.length
    exact PyProof.Rows.len_tuple (s := f.st h tk) hl (by rw [hs]; have := Nat.le_of_ble_eq_true hz; omega) (fin _ _ _ (hs.trans q))
  | dict st es =>
    obtain ⟨hz, q⟩ := gO_inv h1
    obtain ⟨kvs, hd, r, lo⟩ := dict_at R e ha
    exact PySem.call_len_dict (s := f.st h tk) lo hd (by rw [res_len r]; have := Nat.le_of_ble_eq_true hz; omega) (fin _ _ _ ((res_len r).trans q))
  | range j x y =>
    obtain ⟨hz, q⟩ := gO_inv h1
    obtain ⟨s1, s2⟩ := and_inv hz
    have s1 := small_iff.mp s1
    have s2 := small_iff.mp s2
    obtain ⟨t, u, v, hr⟩ := range_at R e ha
    exact PySem.call_len_range (s := f.st h tk) (n := (y - x).toNat) hr (by rw [rangeSize_nat]; congr 2; omega) (by omega) (fin _ _ _ q)
  | _ => cases h1
theorem range_sound (K : FxOK c mean mg mb f) (R : Rl c f m ex ρ H h) {vs : List V} {xs : List Value} {p : Nat × Int × Int} (hB : rngA vs = some p) (hA : alloc (.range p.1 p.2.1 p.2.2) H Φ) (ru : RVs c.val ρ vs xs) (P : PE c f m ex ρ Φ Q) : wpAny (model prg c.w) f.A (call (.type "range") xs) Q (fun _ _ => False) (f.st h tk) := by
  rcases vs with _ | ⟨v1, _ | ⟨v2, _ | ⟨_, _⟩⟩⟩
  · cases hB
  · obtain ⟨b, e, rfl⟩ := Option.map_eq_some_iff.mp (show v1.pln?.map _ = some p from hB)
    cases ru with
    | cons rx rs =>
      cases rs
      obtain ⟨t, rfl⟩ := rv_pln rx e
      refine PySem.call_range_1 (s := f.st h tk) ?_
      exact PE.alloc (tk := tk + 1 + 1) K R P hA (ob := rngOf 0 b 1 tk t (tk + 1)) (by
        have := RO.range (c := c) (ρ := ρ ++ [h.objs.size]) (k := 0) (x := 0) (y := b) (a := h.objs.size) (t := tk) (u := t) (v := tk + 1)
        rwa [c.v0, Int.zero_add, Int.zero_add] at this)
  · obtain ⟨q1, e1, h1⟩ := Option.bind_eq_some_iff.mp (show v1.int?.bind _ = some p from hB)
    obtain ⟨q2, e2, h2⟩ := Option.bind_eq_some_iff.mp h1
    obtain ⟨e3, rfl⟩ := gO_inv h2
    cases ru with
    | cons rx rs =>
      cases rs with
      | cons ry rs =>
        cases rs
        obtain ⟨t, rfl⟩ := rv_sym rx e1
        obtain ⟨u, rfl⟩ := rv_sym ry e2
        rw [← Nat.eq_of_beq_eq_true e3]
        refine PySem.call_range_2 (s := f.st h tk) ?_
        exact PE.alloc (tk := tk + 1) K R P hA (ob := rngOf (c.val q1.1 + q1.2) (c.val q1.1 + q2.2) 1 t u tk) RO.range
  · cases hB
theorem list_sound (K : FxOK c mean mg mb f) (hat : f.A.handled = none) (R : Rl c f m ex ρ H h) {u : V} {x : Value} {zs : List V} (hB : (obOf H u).bind listO = some zs) (hA : alloc (.list zs) H Φ) (ru : RV c.val ρ u x) (P : PE c f m ex ρ Φ Q) : wpAny (model prg c.w) f.A (call (.type "list") [x]) Q (fun _ _ => False) (f.st h tk) := by
  obtain ⟨news, N, _, _, gr, _⟩ := R.grow K
  obtain ⟨o, e, h1⟩ := Option.bind_eq_some_iff.mp hB
  obtain ⟨a, ad, _, rfl, ha, e⟩ := ob_at ru e
  cases o with
  | list xs =>
    obtain ⟨hz, rfl⟩ := gO_inv h1
    obtain ⟨ys, hl, r⟩ := list_at R e ha
    exact list_copyK (s := f.st h tk) R.F N hl (fun D n h' F' N' lt => P.new hA R.len (gr _ _ _ _ _ (.list (r.up (List.prefix_append _ _))) F' N' lt)) (by rw [List.size_toArray, r.length]; exact sizeLine_of (Nat.le_of_ble_eq_true hz))
  | dict st es =>
    obtain ⟨hz, rfl⟩ := gO_inv h1
    obtain ⟨kvs, hd, r, lo⟩ := dict_at R e ha
    obtain ⟨ep, hd'⟩ := hd.dictAt
    exact kdl_N (s := f.st h tk) (kdl_dict (knd := PySem.strKind prg c.w) (kvs := kvs) (ep := ep) lo) hat R.F N hd' (by rw [res_len r]; exact sizeLine_of (Nat.le_of_ble_eq_true hz)) fun D n h' tk' vs F' N' lt hlen hP => P.new hA R.len (gr _ _ _ _ _ (.list ((keys_rvs r hlen hP).up (List.prefix_append _ _))) F' N' lt)
  | _ => cases h1
theorem dict_sound (K : FxOK c mean mg mb f) (R : Rl c f m ex ρ H h) {u : V} {x : Value} {zs : List (Nat × V)} (hB : (obOf H u).bind (dictO H) = some zs) (hA : alloc (.dict none zs) H Φ) (ru : RV c.val ρ u x) (P : PE c f m ex ρ Φ Q) : wpAny (model prg c.w) f.A (call (.type "dict") [x]) Q (fun _ _ => False) (f.st h tk) := by
  obtain ⟨o, e, h1⟩ := Option.bind_eq_some_iff.mp hB
  obtain ⟨a, ad, _, rfl, ha, e⟩ := ob_at ru e
  cases o with
  | dict st es =>
    obtain ⟨hz, rfl⟩ := gO_inv h1
    obtain ⟨news, N, _, _, gr, _⟩ := R.grow K
    obtain ⟨kvs, hd, r, lo⟩ := dict_at R e ha
    refine kt_call_dict (s := f.st h tk) lo hd (by rw [res_len r]; exact sizeLine_of (Nat.le_trans (Nat.le_of_ble_eq_true hz) (by decide))) fun h' hm hs => ?_
    obtain ⟨o', ho', hd'⟩ := Heap.dictOf_iff.mp hm
    have N1 := News.push R.F N { cls := .type "dict", data := .dict #[] }
    have lo' := notModules K R.F
    exact P.new hA R.len (gr _ _ _ _ _ (.dict hd' (r.up (List.prefix_append _ _)) lo' fun _ z => nomatch z) ((R.F.push _).change hs (N1 _ (.head _)).2.1 (N1.fresh (.head _))) (N1.setHead N.apart hs ho') fun p hp => Heap.lt_size (N p hp).1)
  | list xs =>
    obtain ⟨es, q, h2⟩ := Option.bind_eq_some_iff.mp (show (allO (pairO H) xs).bind _ = some zs from h1)
    obtain ⟨hz, rfl⟩ := gO_inv h2
    exact dict_pairs K R e ha q (Nat.le_of_ble_eq_true hz) hA P
  | _ => cases h1
theorem max_sound (K : FxOK c mean mg mb f) (hat : f.A.handled = none) (R : Rl c f m ex ρ H h) {k : Nat} {i j : Int} {t s : Tok} (hB : Φ (.int k (if i < j then j else i)) H) (P : PE c f m ex ρ Φ Q) : wpAny (model prg c.w) f.A (call (.builtin "max") [.int (c.val k + i) t, .int (c.val k + j) s]) Q (fun _ _ => False) (f.st h tk) := by
  obtain ⟨news, N, _, _, _, kp⟩ := R.grow K
  refine max_two_N (s := f.st h tk) hat R.F N fun h' tk' F' N' => ?_
  refine P _ _ _ _ _ _ hB pre_rfl (kp _ _ F' N') (rv_i ?_)
  by_cases q : i < j
  · rw [if_pos q, if_pos (by omega)]
  · rw [if_neg q, if_neg (by omega)]
theorem codes_lt {l : List Nat} (h : ∀ x ∈ l, 1 ≤ x ∧ x < 8) : ∀ x ∈ l, x < tb.length := fun x hx => Nat.lt_of_lt_of_le (h x hx).2 (by decide)
theorem keysV_map {es : List (Nat × V)} : keysV es = (es.map (·.1)).map .str := by
  rw [List.map_map]; rfl
theorem sorted_sound (K : FxOK c mean mg mb f) (hat : f.A.handled = none) (R : Rl c f m ex ρ H h) {u : V} {x : Value} {zs : List V} (hB : (obOf H u).bind sortO = some zs) (hA : alloc (.list zs) H Φ) (ru : RV c.val ρ u x) (P : PE c f m ex ρ Φ Q) : wpAny (model prg c.w) f.A (call (.builtin "sorted") [x]) Q (fun _ _ => False) (f.st h tk) := by
  obtain ⟨news, N, _, _, gr, _⟩ := R.grow K
  obtain ⟨o, e, h1⟩ := Option.bind_eq_some_iff.mp hB
  obtain ⟨a, ad, _, rfl, ha, e⟩ := ob_at ru e
  cases o with
  | dict st es =>
    obtain ⟨hz, rfl⟩ := gO_inv h1
    obtain ⟨h1, hz⟩ := and_inv hz
    have hz := Nat.le_of_ble_eq_true hz
    obtain ⟨h1, h2⟩ := risb_codes h1
    obtain ⟨kvs, hd, r, lo⟩ := dict_at R e ha
    obtain ⟨ep, hd'⟩ := hd.dictAt
    refine kdu_sorted (s := f.st h tk) (kdl_dict (knd := PySem.strKind prg c.w) (kvs := kvs) (ep := ep) lo) hat R.F N hd' (by rw [res_len r]; exact sizeLine_of (by omega)) fun D h' tk' vs F' N' lt hlen hP => ?_
    have rk := keys_rvs r hlen hP
    rw [keysV_map] at rk hA
    refine sort_strs (s := ⟨h', f.gn, f.dr, tk', f.os⟩) F' N' (fun p hp => Nat.ne_of_lt (lt p hp)) (rvs_strs rk) (by rw [hlen, res_len r]; omega) fun h'' out ss' n' F'' N'' hS hp hs => ?_
    cases sorted_same h1 (h2.imp Nat.le_of_lt) hp hs
    exact P.new (tk := tk') hA R.len (gr _ _ _ _ _ (.list (strs_rvs (codes_lt h1) hS)) F'' N'' lt)
  | list xs =>
    obtain ⟨l, q, h1⟩ := Option.bind_eq_some_iff.mp (show (allO V.str? xs).bind _ = some zs from h1)
    obtain ⟨hz, rfl⟩ := gO_inv h1
    obtain ⟨g0, hz⟩ := and_inv hz
    have hz := Nat.le_of_ble_eq_true hz
    obtain ⟨g1, g2⟩ := risb_codes g0
    obtain ⟨ys, hl, r⟩ := list_at R e ha
    cases strs_of q
    have hlen : ys.length < 64 := by rw [r.length, List.length_map]; omega
    refine sorted_N_str (s := f.st h tk) R.F N hl (rvs_strs r) hlen fun h' vs' ss' n' F' N' hS hp hs => ?_
    cases sorted_same g1 (g2.imp Nat.le_of_lt) hp hs
    exact P.new (tk := tk) hA R.len (gr _ _ _ _ _ (.list (strs_rvs (codes_lt g1) hS)) F' N' fun p hp => Nat.lt_succ_of_lt (Heap.lt_size (N p hp).1))
  | _ => cases h1
theorem builtin_sound (K : FxOK c mean mg mb f) (R : Rl c f m ex ρ H h) {b : BI} {vs : List V} {xs : List Value} (hB : builtin b vs H Φ) (rs : RVs c.val ρ vs xs) (P : PE c f m ex ρ Φ Q) : wpAny (model prg c.w) f.A (call b.val xs) Q (fun _ _ => False) (f.st h tk) := by
  have hat : f.A.handled = none := rfl
  cases b with
  | range =>
    obtain ⟨p, e, h1⟩ := som_inv hB
    exact range_sound K R e (grd_inv h1).2 rs P
  | max =>
    obtain ⟨u, e, h1⟩ := som_inv hB
    obtain ⟨p, e1, h2⟩ := som_inv h1
    obtain ⟨q, e2, h3⟩ := som_inv h2
    obtain ⟨e3, h4⟩ := grd_inv h3
    obtain ⟨x, y, rfl, rx, ry⟩ := rvs_two e rs
    obtain ⟨t, rfl⟩ := rv_sym rx e1
    obtain ⟨s, rfl⟩ := rv_sym ry e2
    rw [← Nat.eq_of_beq_eq_true e3]
    exact max_sound K hat R h4 P
  | isinstance =>
    obtain ⟨p, e, h1⟩ := som_inv hB
    obtain ⟨b, e1, h2⟩ := som_inv h1
    obtain ⟨x, y, rfl, rx, ry⟩ := rvs_two e rs
    exact isi_sound K R e1 rx ry h2 P
  | tuple => exact hB.elim
  | len =>
    obtain ⟨v, e, h1⟩ := som_inv hB
    obtain ⟨n, e1, h2⟩ := som_inv h1
    obtain ⟨x, rfl, rx⟩ := rvs_one e rs
    exact len_sound R e1 h2 rx P
  | list =>
    obtain ⟨v, e, h1⟩ := som_inv hB
    obtain ⟨n, e1, h2⟩ := som_inv h1
    obtain ⟨x, rfl, rx⟩ := rvs_one e rs
    exact list_sound K hat R e1 h2 rx P
  | dict =>
    obtain ⟨v, e, h1⟩ := som_inv hB
    obtain ⟨n, e1, h2⟩ := som_inv h1
    obtain ⟨x, rfl, rx⟩ := rvs_one e rs
    exact dict_sound K R e1 h2 rx P
  | int =>
    obtain ⟨v, e, h1⟩ := som_inv hB
    obtain ⟨p, e1, h2⟩ := som_inv h1
    obtain ⟨x, rfl, rx⟩ := rvs_one e rs
    cases V.int_inv e1
    cases rx with
    | int _ _ t => exact PySem.call_int_int (s := f.st h tk) (P.val h2 R (.int _ _ t))
  | sorted =>
    obtain ⟨v, e, h1⟩ := som_inv hB
    obtain ⟨n, e1, h2⟩ := som_inv h1
    obtain ⟨x, rfl, rx⟩ := rvs_one e rs
    exact sorted_sound K hat R e1 h2 rx P
end
end N
end Mine
end
section
open PySem PySem.W PyProof.Rows PySem.Calls
set_option Elab.async false
set_option maxRecDepth 100000
set_option maxHeartbeats 1000000
namespace Mine
section
variable {M : Model} {A : Around} {E : Value → Shared → Prop} {s : Shared} {env : Env}
theorem star_one {e : PySem.Expr} {r : List PySem.Expr} (hs : N.noStar (e :: r) = true) : (∀ x p, e ≠ .Starred x p) ∧ N.noStar r = true := by
  obtain ⟨h1, h2⟩ := N.and_inv hs
  refine ⟨fun x p z => ?_, h2⟩
  subst z
  cases h1
theorem args_none {pos : Pos} {es : List PySem.Expr} : N.noStar es = true → (backTo pos (starEach es env)).all (!·.1) = true := by
  induction es with
  | nil => intro _; rfl
  | cons e r ih =>
    intro hs
    obtain ⟨h1, h2⟩ := star_one hs
    rw [N.star_ne h1]
    exact ih h2
theorem call_args {f : Value} {pos : Pos} {es : List PySem.Expr} {Q : Args → Shared → Prop} (hs : N.noStar es = true) (h : wpAny M A (spliced (backTo pos (starEach es env))) (fun vs s' => Q ⟨vs, []⟩ s') E s) :
    wpAny M A (evalArgs f true (backTo pos (starEach es env)) []) Q E s := by
  have key : ∀ l : List (Bool × Sem Value), (l.all fun x => !x.1) = true → wpAny M A (spliced l) (fun vs s' => Q ⟨vs, []⟩ s') E s → wpAny M A (evalArgs f true l []) Q E s := by
    intro l hl h
    have e : evalArgs f true l [] = (spliced l >>= fun pos => holding (pos ++ []) (do return ⟨pos, []⟩)) := by
      unfold evalArgs
      cases l with
      | nil => rfl
      | cons x r =>
        obtain ⟨b, y⟩ := x
        cases b with
        | false => rfl
        | true => simp at hl
    rw [e]
    exact wpAny_bind (wpAny_mono h (fun vs s' h' => wpAny_holding (wpAny_pure h')) fun _ _ x => x)
  exact key _ (args_none hs) h
theorem args_any {pos : Pos} {es : List PySem.Expr} (hs : N.noStar es = true) : (backTo pos (starEach es env)).any (·.1) = false := by
  rw [List.any_eq_not_all_not, args_none hs]; rfl
theorem callWith_any {P : Heap → Prop} {pos : Pos} {f : Value} {first : List Value} {es : List PySem.Expr} {Q : Value → Shared → Prop} (hs : N.noStar es = true)
    (hk : ∀ h, P h → ∃ k, (k = Keeper.frame ∨ k = Keeper.machine ∨ k = Keeper.boundFrame) ∧ Looks M h (keeperOf f) k)
    (h : wpAny M A (spliced (backTo pos (starEach es env))) (fun vs s' => P s'.heap ∧ wpAny M A (call f (first ++ vs)) Q E s') E s) :
    wpAny M A (callWith pos f first (backTo pos (starEach es env)) []) Q E s :=
  callWith_of (P := P) (by rw [args_any hs]; rfl) hk (call_args hs h)
theorem meth_call {o : PySem.Expr} {n : PySem.Str} {apos pos : Pos} {args : List PySem.Expr} {Q : Value → Shared → Prop} (hb : attributeBase o n env (eval o env) = eval o env) (hl : (apos.endLine == pos.line) = true) (hs : N.noStar args = true) (hn : args.length < 20)
    (h : wpAny M A (eval o env) (fun ov s₁ => wpAny M A (getMethod ov n (do return (← importBound o env).getD true)) (fun fx s₂ => wpAny M A (callWith pos fx.1 fx.2 (backTo pos (starEach args env)) []) Q E s₂) E s₁) E s) :
    wpAny M A (eval (.Call (.Attribute o n apos) args [] pos) env) Q E s := by
  refine methodCall_KW (kws := []) h ?_
  show (do
    let ov ← attributeBase o n env (eval o env)
    standAt apos.atName
    methodCall o n apos pos env ov (args.length + 0) (backTo pos (starEach args env)) []) = _
  rw [hb]
  have hf : methodCallForm (args.length + 0) (backTo pos (starEach args env)) [] = true := by
    unfold methodCallForm
    rw [args_none hs]
    simp
    omega
  unfold methodCall
  rw [hf]
  have hp : methodCallPos true o env apos pos = pure pos := by
    unfold methodCallPos
    rw [hl]
    rfl
  rw [hp]
  rfl
theorem attr_eval {o : PySem.Expr} {n : PySem.Str} {pos : Pos} {prog : Program} {w : World} {Q : Value → Shared → Prop} (hb : attributeBase o n env (eval o env) = eval o env)
    (h : wpAny (model prog w) A (eval o env) (fun ov s₁ => wpAny (model prog w) A (getAttr ov n true) Q E s₁) E s) : wpAny (model prog w) A (eval (.Attribute o n pos) env) Q E s := by
  refine Attribute_any_ h ?_
  show (do
    let o' ← attributeBase o n env (eval o env)
    standAt pos.atName
    let r ← holding [o'] (getAttr o' n true)
    letTemporaryGo o o' r
    pure r) = _
  rw [hb]
theorem bool_op1 {pos : Pos} {op : BoolOp} {x : Sem Value} {Q : Value → Shared → Prop} (h : wpAny M A x Q E s) : wpAny M A (boolOp pos op [x]) Q E s := h
theorem bool_op2 {pos : Pos} {op : BoolOp} {x y : Sem Value} {r : List (Sem Value)} {Q : Value → Shared → Prop}
    (h : wpAny M A x (fun v s₁ => ∃ b, v = .bool b ∧ if b = (op == .And) then wpAny M A (boolOp pos op (y :: r)) Q E s₁ else Q (.bool b) s₁) E s) : wpAny M A (boolOp pos op (x :: y :: r)) Q E s := by
  show wpAny M A (do
    let v ← x
    standAt pos
    let t ← holding [v] (truthy v)
    match op, t with
    | .And, false | .Or, true => pure v
    | _, _ => boolOp pos op (y :: r)) Q E s
  refine wpAny_bind (wpAny_mono h (fun v s₁ h₁ => ?_) fun _ _ x => x)
  obtain ⟨b, rfl, h₁⟩ := h₁
  refine wpAny_bind (wpAny_standAt (wpAny_bind (wpAny_holding (wpAny_truthy_bool ?_))))
  cases op <;> cases b
  · exact wpAny_pure h₁
  · exact h₁
  · exact h₁
  · exact wpAny_pure h₁
end
namespace N
theorem keeps_all (w : World) : fns.all (fun a => keepIn (hdA.heap_1_39 w.params) (.ref a)) = true := by kernel_rfl
theorem meth_chk (w : World) : meths.all (fun p => plainGet (hdA.heap_1_39 w.params) p.1 (nm 49) && findIn (hdA.heap_1_39 w.params) (.ref p.1) (nm 49) == some (some (.ref p.2)) && isFn (hdA.heap_1_39 w.params) (.ref p.2) && keepIn (hdA.heap_1_39 w.params) (.ref p.2)) = true := by kernel_rfl
theorem no_super : inT ("super" : PySem.Str) = false := by decide +kernel
section
variable {n : Nat} {f : Fx} {m : PySem.Str → Option Value} {ex : List (Addr × Obj)} {ρ : List Addr} {H : Hp} {h : Heap} {tk : Nat} {me : ME} {env : Env} {Φ : V → Hp → Prop} {Q : Value → Shared → Prop}
theorem room_un (hr : room f n) : f.un + 66 < cLine := by unfold room need at hr; omega
theorem cEs_len {es : List PySem.Expr} : (cEs es).length = es.length := by
  induction es with
  | nil => rfl
  | cons _ _ ih => exact congrArg Nat.succ ih
theorem cif_E {r : Rec} {b : Bool} {x : X} (h : stepE r me (cif b x) H Φ) : b = true ∧ stepE r me x H Φ := by
  cases b with
  | true => exact ⟨rfl, h⟩
  | false => exact h.elim
theorem call_keep {v : V} {x : Value} (hc : callOK v = true) (r : RV c.val ρ v x) : ∀ h, (hdA.heap_1_39 c.w.params).In h → ∃ k, (k = Keeper.frame ∨ k = Keeper.machine ∨ k = Keeper.boundFrame) ∧ Looks (model prg c.w) h (keeperOf x) k := by
  intro h X
  cases r with
  | fn a => exact keeps_K (List.all_eq_true.mp (keeps_all c.w) _ (hasc_iff.mp hc)) h X
  | bi b => exact ⟨.machine, .inr (.inl rfl), by cases b <;> exact Looks.of_pure rfl⟩
  | _ => cases hc
theorem base_whole {o : PySem.Expr} {a : PySem.Str} {whole : Sem Value} (hE : (run orc n).E me (cE o) H Φ) : attributeBase o a env whole = whole := by
  cases o with
  | Call func args kws pos =>
    cases func with
    | Name id p =>
      cases args with
      | nil =>
        cases kws with
        | nil =>
          have hne : (id != ("super" : PySem.Str)) = true := by
            cases n with
            | zero => exact hE.elim
            | succ n =>
              have h1 := (cif_E (r := run orc n) (show stepE (run orc n) me (cif (calOK (.Name id p) [] pos) (.call (cif (inT id) (.nm (cod id))) [])) H Φ from hE)).2
              rw [bne_iff_ne]
              intro e
              rw [e, no_super] at h1
              exact h1.elim
          unfold attributeBase
          simp only [hne, Bool.true_or, if_true]
        | cons => rfl
      | cons => rfl
    | _ => rfl
  | _ => rfl
theorem allTrue_sound (ST : SoundT c mean mg mb orc n) (K : FxOK c mean mg mb f) (hr : room f n) {op : BoolOp} {es : List PySem.Expr} : ∀ {ρ : List Addr} {H : Hp} {h : Heap} {tk : Nat} {Φ : Bool → Hp → Prop} {Q : Bool → Shared → Prop}, boos (run orc n) me (op == .And) (cEs es) H Φ → Rl c f m ex ρ H h → EnvOK f c me env m ex ρ → PB c f m ex ρ Φ Q →
    wpAny (model prg c.w) f.A (allTrue op es env) Q (fun _ _ => False) (f.st h tk) := by
  induction es with
  | nil => intro ρ H h tk Φ Q hE R EK P; exact wpAny_pure (P _ _ _ _ _ hE pre_rfl R)
  | cons e es ih =>
    intro ρ H h tk Φ Q hE R EK P
    rw [arm_allTrue_cons]
    refine wpAny_bind (wpAny_mono (ST f m ex ρ H h tk me env e _ (fun b s₁ => ifs (b == (op == .And)) (wpAny (model prg c.w) f.A (allTrue op es env) Q (fun _ _ => False) s₁) (Q b s₁)) K hE R EK hr ?_) (fun b s₁ h₁ => ?_) fun _ _ x => x)
    · intro b H' ρ' h' tk' hb pre R'
      rcases ifs_inv hb with ⟨q, hb⟩ | ⟨q, hb⟩
      · rw [q]
        exact ih hb R' (EK.up pre) fun b' H'' ρ'' h'' tk'' x y z => P b' H'' ρ'' h'' tk'' x (pre.trans y) z
      · rw [q]
        exact P b H' ρ' h' tk' hb pre R'
    · cases op <;> cases b
      · exact wpAny_pure h₁
      · exact h₁
      · exact h₁
      · exact wpAny_pure h₁
theorem boolOp_sound (SE : SoundE c mean mg mb orc n) (K : FxOK c mean mg mb f) (hr : room f n) {op : BoolOp} {pos : Pos} {es : List PySem.Expr} : ∀ {ρ : List Addr} {H : Hp} {h : Heap} {tk : Nat} {Φ : V → Hp → Prop} {Q : Value → Shared → Prop}, boosE (run orc n) me (op == .And) (cEs es) H (fun b H => Φ (.bool b) H) → Rl c f m ex ρ H h → EnvOK f c me env m ex ρ → PE c f m ex ρ Φ Q →
    wpAny (model prg c.w) f.A (boolOp pos op (evalEach es env)) Q (fun _ _ => False) (f.st h tk) := by
  induction es with
  | nil => intro ρ H h tk Φ Q hE R EK P; exact hE.elim
  | cons e es ih =>
    intro ρ H h tk Φ Q hE R EK P
    have key : ∀ {Q' : Value → Shared → Prop}, (∀ b H' ρ' h' tk', ifs ((cEs es).isEmpty || b != (op == .And)) (Φ (.bool b) H') (boosE (run orc n) me (op == .And) (cEs es) H' fun b H => Φ (.bool b) H) → ρ <+: ρ' → Rl c f m ex ρ' H' h' → Q' (.bool b) (f.st h' tk')) → wpAny (model prg c.w) f.A (eval e env) Q' (fun _ _ => False) (f.st h tk) := fun q =>
      SE f m ex ρ H h tk me env e _ _ K hE R EK hr fun v H' ρ' h' tk' x hv pre R' rv => by
        obtain ⟨b, e1, h1⟩ := som_inv hv
        rw [rv_bool rv e1]
        exact q b H' ρ' h' tk' h1 pre R'
    cases es with
    | nil => exact bool_op1 (key fun b H' ρ' h' tk' hv pre R' => P _ _ _ _ _ _ hv pre R' (.bool b))
    | cons e2 es =>
      refine bool_op2 (key fun b H' ρ' h' tk' hv pre R' => ⟨b, rfl, ?_⟩)
      rcases ifs_inv hv with ⟨q, hv⟩ | ⟨q, hv⟩
      · have q : (b != (op == .And)) = true := q
        rw [if_neg (by simpa using q)]
        exact P _ _ _ _ _ _ hv pre R' (.bool b)
      · have q : (b != (op == .And)) = false := q
        rw [if_pos (by simpa using q)]
        exact ih hv R' (EK.up pre) (P.up pre)
end
end N
end Mine
end
section
open PySem PySem.W PyProof.Rows PySem.Calls
set_option Elab.async false
set_option maxRecDepth 100000
set_option maxHeartbeats 1000000
namespace Mine
namespace N
section
variable {n : Nat} {f : Fx} {m : PySem.Str → Option Value} {ex : List (Addr × Obj)} {ρ : List Addr} {H : Hp} {h : Heap} {tk : Nat} {me : ME} {env : Env} {Φ : V → Hp → Prop} {Q : Value → Shared → Prop}
noncomputable def mkVal : Mk → Value
  | .fn f => .ref f
  | .app => .builtin "list.append"
  | .pop => .builtin "list.pop"
  | .idx => .builtin "list.index"
theorem mk_keep {k : Mk} (hk : ∀ f, k = .fn f → keepIn (hdA.heap_1_39 c.w.params) (.ref f) = true) : ∀ h, (hdA.heap_1_39 c.w.params).In h → ∃ q, (q = Keeper.frame ∨ q = Keeper.machine ∨ q = Keeper.boundFrame) ∧ Looks (model prg c.w) h (keeperOf (mkVal k)) q := by
  intro h X
  cases k with
  | fn a => exact keeps_K (hk a rfl) h X
  | _ => exact ⟨.machine, .inr (.inl rfl), Looks.of_pure rfl⟩
theorem list_in (R : Rl c f m ex ρ H h) {k : Nat} {xs : List V} (hk : H[k]? = some (.list xs)) {a : Addr} (ha : ρ[k]? = some a) : ∃ ys n news, News f.gz f.L h news ∧ (a, listOf (List.toArray ys) n) ∈ news ∧ RVs c.val ρ xs ys := by
  obtain ⟨a', es, pre, post, e1, x, N, -⟩ := R.at hk
  rw [ha] at e1; cases e1
  cases x with
  | @list _ ys _ n r => exact ⟨ys, n, _, N, List.mem_append_right _ (List.mem_append_left _ (.head _)), r⟩
theorem listM_inv {k : Nat} {q : Mk} (h : listM k = some q) : k = 111 ∧ q = .app ∨ k = 81 ∧ q = .idx ∨ k = 112 ∧ q = .pop := by
  unfold listM at h
  cases e : Nat.beq k 111 with
  | true => rw [e] at h; cases h; exact .inl ⟨Nat.eq_of_beq_eq_true e, rfl⟩
  | false =>
    rw [e] at h
    cases e2 : Nat.beq k 81 with
    | true => rw [e2] at h; cases h; exact .inr (.inl ⟨Nat.eq_of_beq_eq_true e2, rfl⟩)
    | false =>
      rw [e2] at h
      obtain ⟨z, rfl⟩ := gO_inv (show gO (Nat.beq k 112) Mk.pop = some q from h)
      exact .inr (.inr ⟨Nat.eq_of_beq_eq_true z, rfl⟩)
/-- a method is looked up -/
theorem methOf_sound (K : FxOK c mean mg mb f) (R : Rl c f m ex ρ H h) {v : V} {x : Value} {k : Nat} {q : Mk} {pl : Sem Bool} {Q : Value × List Value → Shared → Prop} (hv : methOf v k H = some q) (rv : RV c.val ρ v x)
    (P : (∀ f, q = .fn f → keepIn (hdA.heap_1_39 c.w.params) (.ref f) = true) → Q (mkVal q, [x]) (f.st h tk)) : wpAny (model prg c.w) f.A (getMethod x (nm k) pl) Q (fun _ _ => False) (f.st h tk) := by
  obtain ⟨o, e, h1⟩ := Option.bind_eq_some_iff.mp hv
  obtain ⟨a, ad, _, rfl, ha, e⟩ := ob_at rv e
  cases o with
  | inst C es =>
    obtain ⟨_, z, h2⟩ := Option.bind_eq_some_iff.mp (show (gO _ ()).bind _ = some q from h1)
    obtain ⟨z, hn⟩ := and_inv (gO_inv z).1
    cases Nat.eq_of_beq_eq_true z
    obtain ⟨g, hg, rfl⟩ := Option.map_eq_some_iff.mp h2
    have chk := List.all_eq_true.mp (meth_chk c.w) _ (lookc_mem hg)
    obtain ⟨chk, c4⟩ := and_inv chk
    obtain ⟨chk, c3⟩ := and_inv chk
    obtain ⟨c1, c2⟩ := and_inv chk
    obtain ⟨d, des, n, I, r⟩ := inst_at R e ha
    have hl : getL (nm 49) des = some none := r.hasnt 49 (by decide) (Option.isNone_iff_eq_none.mp hn)
    exact method_inst (s := f.st h tk) R.F K.X I c1 (beq_iff_eq.mp c2) c3 hl (P fun f' e' => by cases e'; exact c4)
  | list xs =>
    obtain ⟨ys, n, news, N, hm, r⟩ := list_in R e ha
    obtain ⟨rfl, rfl⟩ | ⟨rfl, rfl⟩ | ⟨rfl, rfl⟩ := listM_inv h1
    · exact listMethod_K (s := f.st h tk) N hm PySem.F.slot_list_append PySem.F.type_list_append (P fun _ z => by cases z)
    · exact listMethod_K (s := f.st h tk) N hm PySem.F.slot_list_index PySem.F.type_list_index (P fun _ z => by cases z)
    · exact listMethod_K (s := f.st h tk) N hm PySem.F.slot_list_pop PySem.F.type_list_pop (P fun _ z => by cases z)
  | _ => cases h1
theorem last_rv {v : V} {xs : List V} {ys : List Value} (r : RVs c.val ρ xs ys) : xs.getLast? = some v → ∃ p y, kl_last ys = some (p, y) ∧ RVs c.val ρ xs.dropLast p ∧ RV c.val ρ v y := by
  induction r with
  | nil => intro h; simp at h
  | @cons u x us xs r rs ih =>
    intro h
    cases rs with
    | nil => simp at h; subst h; exact ⟨[], _, rfl, .nil, r⟩
    | @cons u2 x2 us2 xs2 r2 rs2 =>
      obtain ⟨p, y, e, r1, r3⟩ := ih (by simpa using h)
      refine ⟨x :: p, y, ?_, ?_, r3⟩
      · rw [kl_last, e]
      · rw [List.dropLast_cons_cons]; exact .cons r r1
theorem mfind_at {val : Nat → Int} {d : MD} {es : List MD} : ∀ {k i : Nat}, mfind d es k = some (some i) → ∃ j, i = k + j ∧ (∃ e, es[j]? = some e ∧ PyData.eqv (mp val e) (mp val d) = true) ∧ ∀ q e', q < j → es[q]? = some e' → PyData.eqv (mp val e') (mp val d) = false := by
  induction es with
  | nil => intro k i h; cases h
  | cons e es ih =>
    intro k i h
    obtain ⟨b, h1, h2⟩ := Option.bind_eq_some_iff.mp (show (meq 4 e d).bind _ = some (some i) from h)
    have h1 := meq_eqv (val := val) 4 _ _ _ h1
    cases b with
    | true =>
      cases h2
      exact ⟨0, rfl, ⟨e, rfl, h1⟩, fun q e' hq => absurd hq (Nat.not_lt_zero q)⟩
    | false =>
      obtain ⟨j, rfl, h3, h4⟩ := ih h2
      refine ⟨j + 1, by omega, h3, fun q e' hq he => ?_⟩
      cases q with
      | zero => cases he; exact h1
      | succ q => exact h4 q e' (Nat.lt_of_succ_lt_succ hq) he
theorem mps_get {val : Nat → Int} {es : List MD} : ∀ {i : Nat}, (mps val es)[i]? = (es[i]?).map (mp val) := by
  induction es with
  | nil => intro i; rfl
  | cons e es ih =>
    intro i
    cases i with
    | zero => rfl
    | succ i => exact ih
theorem mps_len {val : Nat → Int} {es : List MD} : (mps val es).length = es.length := by
  induction es with
  | nil => rfl
  | cons e es ih => exact congrArg Nat.succ ih
theorem idx_sound (R : Rl c f m ex ρ H h) (hu : f.un + 66 < cLine) {a : Nat} {ad : Addr} {ys : List V} {w : V} {z : Value} {d : MD} {es : List MD} {i : Nat} (e : H[a]? = some (.list ys)) (ha : ρ[a]? = some ad) (q1 : md 3 H w = some d) (q2 : allO (md 3 H) ys = some es) (q3 : mfind d es 0 = some (some i)) (hz : es.length ≤ 1000) (rw' : RV c.val ρ w z)
    (q : Q (.int i tk) (f.st h (tk + 1))) : wpAny (model prg c.w) f.A (call (.builtin "list.index") [.ref ad, z]) Q (fun _ _ => False) (f.st h tk) := by
  obtain ⟨us, n', news, N, hm, r⟩ := list_in R e ha
  obtain ⟨⟨as, a1⟩, a2, a3⟩ := md_reads R 3 q1 rw'
  obtain ⟨⟨bs, b1⟩, b2, b3⟩ := mds_reads (fun v d x => md_reads R 3) r q2
  obtain ⟨j, e0, ⟨ej, h2, h3⟩, h4⟩ := mfind_at (val := c.val) q3
  rw [Nat.zero_add] at e0
  subst e0
  have hrm := SeqAt.readsAll_map _ _ _ b2 b1
  have hl1 : us.length = es.length := by
    have := congrArg List.length hrm
    rwa [List.length_map, mps_len] at this
  have read : ∀ j (hj : j < us.toArray.size) e', es[j]? = some e' → SeqAt.readOf h us.toArray[j] = mp c.val e' := fun j hj e' he => by
    have hj' : j < us.length := by simpa using hj
    have e2 : (us.map (SeqAt.readOf h))[j]? = some (SeqAt.readOf h us[j]) := by rw [List.getElem?_map, List.getElem?_eq_getElem hj']; rfl
    rw [hrm, mps_get, he] at e2
    simpa using e2.symm
  have hi : i < us.toArray.size := by
    have := (List.getElem?_eq_some_iff.mp h2).1
    rw [List.size_toArray, hl1]; exact this
  refine call_meets PySem.F.slot_list_index ⟨_, (N _ hm).1, rfl⟩ PySem.F.entry_list_index (PySem.F.args_list_index_2 _ _)
    (SeqAt.list_indexAt ad us.toArray n' none #[] _ (fun y => PyData.eqv (SeqAt.readOf h y) (mp c.val d)) i hi (by have := (List.getElem?_eq_some_iff.mp h2).1; omega) ?_ ?_) ⟨(N _ hm).1, SeqAt.items_eqAt (s := f.st h tk) (by simpa using b1) a1 b2 a2 ?_, q⟩
  · exact (congrArg (fun q => PyData.eqv q (mp c.val d)) (read _ hi _ h2)).trans h3
  · intro j hj hlt
    have hj2 : j < es.length := by rw [← hl1]; simpa using hj
    exact (congrArg (fun q => PyData.eqv q (mp c.val d)) (read _ hj _ (List.getElem?_eq_getElem hj2))).trans (h4 j _ hlt (List.getElem?_eq_getElem hj2))
  · have := Nat.min_le_left (PyData.depthAll (mps c.val es)) (mp c.val d).depth
    show f.un + 1 + _ < cLine
    omega
/-- and is called -/
theorem methD_sound (SC : SoundC c mean mg mb orc n) (K : FxOK c mean mg mb f) (R : Rl c f m ex ρ H h) (hr : room f n) {q : Mk} {v : V} {x : Value} {vs : List V} {xs : List Value} (hM : methD (run orc n) q v vs H Φ) (rv : RV c.val ρ v x) (rs : RVs c.val ρ vs xs)
    (P : PE c f m ex ρ Φ Q) : wpAny (model prg c.w) f.A (call (mkVal q) ([x] ++ xs)) Q (fun _ _ => False) (f.st h tk) := by
  cases q with
  | fn a => exact SC f m ex ρ H h tk (.fn a) (v :: vs) _ _ _ _ K (cal_eq.mp hM) R (.fn a) (.cons rv rs) hr P
  | app =>
    obtain ⟨w, e1, h1⟩ := som_inv hM
    obtain ⟨a, e2, h2⟩ := som_inv h1
    obtain ⟨ys, e3, h3⟩ := som_inv h2
    obtain ⟨hz, h4⟩ := grd_inv h3
    obtain ⟨z, rfl, rw'⟩ := rvs_one e1 rs
    obtain ⟨ad, rfl, ha⟩ := rv_ref rv e2
    obtain ⟨o, e, e4⟩ := at_inv e3
    cases O.list_inv e4
    unfold seto at h4
    rw [fH_eq] at h4
    obtain ⟨a', es', pre, post, e1, X, N, nd, ap, up⟩ := R.at e
    rw [ha] at e1; cases e1
    cases X with
    | @list _ us _ n r =>
      obtain ⟨a1, a2⟩ := ap (ad, listOf us.toArray n) (.head _)
      refine append_K (s := f.st h tk) R.F N (upd_mid (o' := listOf (us.toArray.push z) (n + 1)) a2 a1) (fun h' F' N' => ?_) (by rw [List.size_toArray, r.length]; exact sizeLine_of (Nat.le_trans (Nat.le_of_ble_eq_true hz) (by decide)))
      refine P _ _ _ _ _ _ h4 pre_rfl (up _ _ _ [(ad, listOf (us ++ [z]).toArray (n + 1))] (.list (r.append (.cons rw' .nil))) rfl F' ?_) .none
      have e : us.toArray.push z = (us ++ [z]).toArray := by simp
      rw [e] at N'
      exact N'
  | pop =>
    obtain ⟨e1, h1⟩ := grd_inv hM
    obtain ⟨a, e2, h2⟩ := som_inv h1
    obtain ⟨ys, e3, h3⟩ := som_inv h2
    obtain ⟨p, e4, h4⟩ := som_inv h3
    obtain ⟨hz, h5⟩ := grd_inv h4
    obtain ⟨y, hy, rfl⟩ := Option.map_eq_some_iff.mp e4
    cases List.isEmpty_iff.mp e1
    cases rs
    obtain ⟨ad, rfl, ha⟩ := rv_ref rv e2
    obtain ⟨o, e, e5⟩ := at_inv e3
    cases O.list_inv e5
    unfold seto at h5
    rw [fH_eq] at h5
    obtain ⟨a', es', pre, post, e1, X, N, nd, ap, up⟩ := R.at e
    rw [ha] at e1; cases e1
    cases X with
    | @list _ us _ n r =>
      obtain ⟨a1, a2⟩ := ap (ad, listOf us.toArray n) (.head _)
      obtain ⟨p, z, e2, r1, r2⟩ := last_rv r hy
      refine kl_pop (s := f.st h tk) (p := p) (y := z) R.F N (by simpa using e2) (upd_mid (o' := listOf p.toArray (n + 1)) a2 a1) (by show us.toArray.toList.length ≤ _; rw [List.toList_toArray, r.length]; exact sizeLine_of (Nat.le_of_ble_eq_true hz)) (fun h' F' N' => ?_)
      exact P _ _ _ _ _ _ h5 pre_rfl (up _ _ _ [(ad, listOf p.toArray (n + 1))] (.list r1) rfl F' N') r2
  | idx =>
    obtain ⟨w, e1, h1⟩ := som_inv hM
    obtain ⟨ys, e2, h2⟩ := som_inv h1
    obtain ⟨d, q1, h3⟩ := som_inv h2
    obtain ⟨es, q2, h4⟩ := som_inv h3
    obtain ⟨i, q3, h5⟩ := som_inv h4
    obtain ⟨i, rfl, h6⟩ := som_inv h5
    obtain ⟨hz, h7⟩ := grd_inv h6
    obtain ⟨z, rfl, rw'⟩ := rvs_one e1 rs
    obtain ⟨o, e3, e4⟩ := Option.bind_eq_some_iff.mp e2
    obtain ⟨a, ad, _, rfl, ha, e⟩ := ob_at rv e3
    cases O.list_inv e4
    exact idx_sound R (room_un hr) e ha q1 q2 q3 (Nat.le_of_ble_eq_true hz) rw' (P.val (tk := tk + 1) h7 R rv_int)
end
end N
end Mine
end
section
open PySem PySem.W PyProof.Rows PySem.Calls
set_option Elab.async false
set_option maxRecDepth 100000
set_option maxHeartbeats 1000000
namespace Mine
namespace N
/-- comprehensions are told rightly -/
noncomputable def SoundL (n : Nat) : Prop :=
  ∀ (f : Fx) (m : PySem.Str → Option Value) (ex : List (Addr × Obj)) (ρ : List Addr) (H : Hp) (h : Heap) (tk : Nat) (me : ME) (env : Env) (e : PySem.Expr) (gs : List Comprehension) (sc : Scope) (pos : Pos) (Φ : V → Hp → Prop) (Q : Value → Shared → Prop),
    FxOK c mean mg mb f → stepE (run orc n) me (lcB (cE e) sc (cG gs)) H Φ → Rl c f m ex ρ H h → EnvOK f c me env m ex ρ → room f n → PE c f m ex ρ Φ Q → wpAny (model prg c.w) f.A (eval (.ListComp e gs sc pos) env) Q (fun _ _ => False) (f.st h tk)
theorem V.fn_inv {v : V} {a : Nat} (h : v.fn? = some a) : v = .fn a := by
  cases v <;> first | (cases h; rfl) | cases h
/-- Limits(members=x) is made -/
noncomputable def SoundLm (n : Nat) : Prop :=
  ∀ (f : Fx) (m : PySem.Str → Option Value) (ex : List (Addr × Obj)) (ρ : List Addr) (H : Hp) (h : Heap) (tk : Nat) (v : V) (x : Value) (Φ : V → Hp → Prop) (Q : Value → Shared → Prop),
    FxOK c mean mg mb f → (run orc n).L v H Φ → Rl c f m ex ρ H h → RV c.val ρ v x → room f (n + 1) → PE c f m ex ρ Φ Q → wpAny (model prg c.w) f.A (call (.ref 313) [] [(PySem.Str.ofString "members", x)]) Q (fun _ _ => False) (f.st h tk)
theorem keep_lim (w : World) : keepIn (hdA.heap_1_39 w.params) (.ref 313) = true := by kernel_rfl
theorem nm_lim : ("Limits" : PySem.Str) = nm 192 := by kernel_rfl
theorem bad_no {n : Nat} {me : ME} {H : Hp} {Φ : V → Hp → Prop} : ¬ (run orc n).E me .bad H Φ := fun z => by cases n <;> exact z.elim
theorem Call_kw {M : Model} {A : Around} {env : Env} {func : PySem.Expr} {args : List PySem.Expr} {kws : List Keyword} {pos : Pos} {Q : Value → Shared → Prop} {E : Value → Shared → Prop} {s : Shared}
    (h : wpAny M A (eval func env) (fun f s₁ => wpAny M A (callWith pos f [] (backTo pos (starEach args env)) (backToKw pos (keywordEach kws env))) Q E s₁) E s)
    (he : eval (.Call func args kws pos) env = (do callWith pos (← eval func env) [] (backTo pos (starEach args env)) (backToKw pos (keywordEach kws env)))) :
    wpAny M A (eval (.Call func args kws pos) env) Q E s := by
  rw [he]; exact wpAny_bind h
section
variable {n : Nat} {f : Fx} {m : PySem.Str → Option Value} {ex : List (Addr × Obj)} {ρ : List Addr} {H : Hp} {h : Heap} {tk : Nat} {me : ME} {env : Env} {Φ : V → Hp → Prop} {Q : Value → Shared → Prop}
theorem binop_E (SE : SoundE c mean mg mb orc n) (K : FxOK c mean mg mb f) (hr : room f n) {l r : PySem.Expr} {Q2 : Value → Value → Shared → Prop} {Ψ : V → V → Hp → Prop} (hE : (run orc n).E me (cE l) H fun x H => (run orc n).E me (cE r) H fun y H => Ψ x y H) (R : Rl c f m ex ρ H h) (EK : EnvOK f c me env m ex ρ)
    (P : ∀ u v H' ρ' h' tk' x y, Ψ u v H' → ρ <+: ρ' → Rl c f m ex ρ' H' h' → RV c.val ρ' u x → RV c.val ρ' v y → Q2 x y (f.st h' tk')) :
    wpAny (model prg c.w) f.A (eval l env) (fun a s₁ => wpAny (model prg c.w) f.A (eval r env) (fun b s₂ => Q2 a b s₂) (fun _ _ => False) s₁) (fun _ _ => False) (f.st h tk) := by
  refine SE f m ex ρ H h tk me env l _ _ K hE R EK hr ?_
  intro u H' ρ' h' tk' x hu pre R' ru
  refine SE f m ex ρ' H' h' tk' me env r _ _ K hu R' (EK.up pre) hr ?_
  intro v H'' ρ'' h'' tk'' y hv pre' R'' rv
  exact P u v H'' ρ'' h'' tk'' x y hv (pre.trans pre') R'' (ru.up pre') rv
theorem evO_sound (SE : SoundE c mean mg mb orc n) (K : FxOK c mean mg mb f) (hr : room f n) {o : Option PySem.Expr} {Ψ : V → Hp → Prop} (hE : (run orc n).E me (cO o) H Ψ) (R : Rl c f m ex ρ H h) (EK : EnvOK f c me env m ex ρ)
    (P : PE c f m ex ρ Ψ Q) : wpAny (model prg c.w) f.A (evalPart o env) Q (fun _ _ => False) (f.st h tk) := by
  cases o with
  | none =>
    rw [evalPart_none]
    cases n with
    | zero => exact hE.elim
    | succ n => exact wpAny_pure (P.val (show Ψ .none H from hE) R .none)
  | some e =>
    rw [evalPart_some]
    exact SE f m ex ρ H h tk me env e _ _ K hE R EK hr P
/-- kinds of expressions that their readers look at -/
noncomputable def xk (x : X) : Nat := match x with
  | .nm _ => 1
  | .attr _ _ => 2
  | .slice _ _ => 3
  | .not _ => 4
  | .boo _ _ => 4
  | .ite _ _ _ => 4
  | .cmp _ _ _ => 4
  | .chain _ _ _ _ _ => 4
  | _ => 0
/-- a test that is just a value's -/
noncomputable def genT (e : PySem.Expr) : Prop := ∀ env : Env, isTrue e env (eval e env) = (do let v ← eval e env; standAt e.pos; holding [v] (truthy v))
/-- tests with a way of their own -/
inductive SP : PySem.Expr → Prop
  | uop (op x p) : SP (.UnaryOp op x p)
  | bop (op xs p) : SP (.BoolOp op xs p)
  | ife (t b o p) : SP (.IfExp t b o p)
  | cmp (l ops cs p) : SP (.Compare l ops cs p)
inductive CV : PySem.Expr → Prop
  | name (s p) : CV (.Name s p)
  | attr (o s p) : CV (.Attribute o s p)
  | slice (lo hi st p) : CV (.Slice lo hi st p)
  | tst (e) : xk (cE e) = 0 ∨ xk (cE e) = 4 → SP e → CV e
  | plain (e) : xk (cE e) = 0 → genT e → CV e
theorem xk_cif {b : Bool} {x : X} (h : xk x = 0) : xk (cif b x) = 0 := by
  cases b with
  | true => exact h
  | false => rfl
theorem xk_cK {k : Const} : xk (cK k) = 0 := by
  cases k <;> first | rfl | exact xk_cif rfl
theorem xk_lc {e : X} {sc : Scope} {gs : List CG} : xk (lcB e sc gs) = 0 := by
  rcases gs with _ | ⟨g, _ | ⟨g2, _ | ⟨_, _⟩⟩⟩
  · rfl
  · exact xk_cif rfl
  · exact xk_cif rfl
  · rfl
theorem xk_cmp {b : Bool} {l : X} {ops : List CmpOp} {cs : List X} : xk (cif b (cmpX l ops cs)) = 0 ∨ xk (cif b (cmpX l ops cs)) = 4 := by
  cases b with
  | false => exact .inl rfl
  | true => rcases ops with _ | ⟨p, _ | ⟨q, _ | ⟨_, _⟩⟩⟩ <;> rcases cs with _ | ⟨r, _ | ⟨u, _ | ⟨_, _⟩⟩⟩ <;> first | exact .inl rfl | exact .inr rfl
theorem ce_view (e : PySem.Expr) : CV e := by
  cases e with
  | Name s p => exact .name ..
  | Attribute o s p => exact .attr ..
  | Slice lo hi st p => exact .slice ..
  | UnaryOp op x p => exact .tst _ (by cases op <;> first | exact .inl rfl | exact .inr rfl) (.uop ..)
  | BoolOp op xs p => exact .tst _ (.inr rfl) (.bop ..)
  | IfExp t b o p => exact .tst _ (.inr rfl) (.ife ..)
  | Compare l ops cs p => exact .tst _ xk_cmp (.cmp ..)
  | Constant k kd p => exact .plain _ xk_cK fun _ => rfl
  | Dict ks vs p => exact .plain _ (xk_cif rfl) fun _ => rfl
  | ListComp e gs sc p => exact .plain _ xk_lc fun _ => rfl
  | Call f args kws p => exact .plain _ (by cases kws <;> exact xk_cif rfl) fun _ => rfl
  | _ => exact .plain _ rfl fun _ => rfl
theorem callX_no {r : Rec} {x : X} {xs : List X} (h1 : xk x ≠ 1) (h2 : xk x ≠ 2) : ¬ callX r me x xs H Φ := by
  intro h
  cases x with
  | nm => exact h1 rfl
  | attr => exact h2 rfl
  | _ => exact h.elim
theorem slX_no {x : X} (h : xk x ≠ 3) : slX x = none := by
  cases x with
  | slice => exact absurd rfl h
  | _ => rfl
theorem nmX_no {x : X} (h : xk x ≠ 1) : nmX x = none := by
  cases x with
  | nm => exact absurd rfl h
  | _ => rfl
theorem xk_plain {x : X} {Φ : Bool → Hp → Prop} {r : Rec} (hx : xk x < 4) (h : stepT r me x H Φ) : r.E me x H fun v H => som v.bool? fun b => Φ b H := by
  cases x <;> first | exact h | exact absurd hx (Nat.lt_irrefl 4)
theorem ne_of04 {k j : Nat} (h : k = 0 ∨ k = 4) (h0 : j ≠ 0) (h4 : j ≠ 4) : k ≠ j := fun e => h.elim (fun z => h0 (e.symm.trans z)) fun z => h4 (e.symm.trans z)
theorem sound_call (SE : SoundE c mean mg mb orc n) (SC : SoundC c mean mg mb orc n) (K : FxOK c mean mg mb f) (hr : room f n) {func : PySem.Expr} {args : List PySem.Expr} {pos : Pos} (hok : calOK func args pos = true) (hE : callX (run orc n) me (cE func) (cEs args) H Φ) (R : Rl c f m ex ρ H h) (EK : EnvOK f c me env m ex ρ)
    (P : PE c f m ex ρ Φ Q) : wpAny (model prg c.w) f.A (eval (.Call func args [] pos) env) Q (fun _ _ => False) (f.st h tk) := by
  obtain ⟨h2, h0⟩ := and_inv hok
  obtain ⟨h2, h3⟩ := and_inv h2
  have h3 := of_decide_eq_true h3
  cases ce_view func with
  | name s p =>
    cases hs : inT s with
    | false =>
      rw [show cE (.Name s p) = cif (inT s) (.nm (cod s)) from rfl, hs] at hE
      exact hE.elim
    | true =>
      rw [show cE (.Name s p) = cif (inT s) (.nm (cod s)) from rfl, hs] at hE
      obtain ⟨v, hv, h4⟩ := som_inv (show som (lookN me (cod s) H) _ from hE)
      obtain ⟨hc, hE⟩ := grd_inv h4
      refine Call_ (func := .Name s p) ?_
      rw [← (nm_cod hs).1]
      refine name_eval K R EK hv fun y ry => ?_
      refine callWith_any (P := (hdA.heap_1_39 c.w.params).In) h2 (call_keep hc ry) ?_
      refine sound_es SE K hr args hE R EK ?_
      intro vs H' ρ' h' tk' xs hl hvs pre R' rvs
      exact ⟨K.X.keeps R'.F.keep, SC f m ex ρ' H' h' tk' v vs y xs Φ Q K (cal_eq.mp hvs) R' (ry.up pre) rvs hr (P.up pre)⟩
  | attr o s p =>
    cases hs : inT s with
    | false =>
      rw [show cE (.Attribute o s p) = cif (inT s) (.attr (cE o) (cod s)) from rfl, hs] at hE
      exact hE.elim
    | true =>
      rw [show cE (.Attribute o s p) = cif (inT s) (.attr (cE o) (cod s)) from rfl, hs] at hE
      have hE : (run orc n).E me (cE o) H fun v H => som (methOf v (cod s) H) fun k => evs (run orc n) me (cEs args) H fun vs H => methD (run orc n) k v vs H Φ := hE
      refine meth_call (base_whole hE) h0 h2 h3 ?_
      refine SE f m ex ρ H h tk me env o _ _ K hE R EK hr ?_
      intro v H' ρ' h' tk' x hv pre R' rv
      obtain ⟨q, hq, hv⟩ := som_inv hv
      rw [← (nm_cod hs).1]
      refine methOf_sound K R' hq rv fun hk => ?_
      refine callWith_any (P := (hdA.heap_1_39 c.w.params).In) h2 (mk_keep hk) ?_
      refine sound_es SE K hr args hv R' (EK.up pre) ?_
      intro vs H'' ρ'' h'' tk'' xs hl hvs pre' R'' rvs
      exact ⟨K.X.keeps R''.F.keep, methD_sound SC K R'' hr hvs (rv.up pre') rvs (P.up (pre.trans pre'))⟩
  | slice lo hi st p => cases st <;> exact (show False from hE).elim
  | tst _ z _ => exact absurd hE (callX_no (ne_of04 z (by decide) (by decide)) (ne_of04 z (by decide) (by decide)))
  | plain _ z _ => exact absurd hE (callX_no (by rw [z]; decide) (by rw [z]; decide))
theorem ce_sl (sl : PySem.Expr) : (∃ lo hi p, sl = .Slice lo hi none p) ∨ slX (cE sl) = none := by
  cases ce_view sl with
  | name s p => exact .inr (by show slX (cif (inT s) _) = none; cases inT s <;> rfl)
  | attr o s p => exact .inr (by show slX (cif (inT s) _) = none; cases inT s <;> rfl)
  | slice lo hi st p =>
    cases st with
    | none => exact .inl ⟨lo, hi, p, rfl⟩
    | some _ => exact .inr rfl
  | tst _ z _ => exact .inr (slX_no (ne_of04 z (by decide) (by decide)))
  | plain _ z _ => exact .inr (slX_no (by rw [z]; decide))
theorem ce_nm {o : PySem.Expr} {k : Nat} (h : nmX (cE o) = some k) : ∃ s p, o = .Name s p ∧ inT s = true ∧ cod s = k := by
  cases ce_view o with
  | name s p =>
    cases hs : inT s with
    | false =>
      rw [show cE (.Name s p) = cif (inT s) (.nm (cod s)) from rfl, hs] at h
      cases h
    | true =>
      rw [show cE (.Name s p) = cif (inT s) (.nm (cod s)) from rfl, hs] at h
      exact ⟨s, p, rfl, hs, Option.some.inj h⟩
  | attr o s p =>
    have : nmX (cif (inT s) (.attr (cE o) (cod s))) = none := by cases inT s <;> rfl
    exact nomatch this.symm.trans h
  | slice lo hi st p => cases st <;> cases h
  | tst _ z _ => exact nomatch (nmX_no (ne_of04 z (by decide) (by decide))).symm.trans h
  | plain _ z _ => exact nomatch (nmX_no (x := cE o) (by rw [z]; decide)).symm.trans h
theorem sound_sub (SE : SoundE c mean mg mb orc n) (K : FxOK c mean mg mb f) (hr : room f n) {o sl : PySem.Expr} {pos : Pos} (hE : stepE (run orc n) me (.sub (cE o) (cE sl)) H Φ) (R : Rl c f m ex ρ H h) (EK : EnvOK f c me env m ex ρ)
    (P : PE c f m ex ρ Φ Q) : wpAny (model prg c.w) f.A (eval (.Subscript o sl pos) env) Q (fun _ _ => False) (f.st h tk) := by
  refine Subscript_ ?_
  rcases ce_sl sl with ⟨lo, hi, p, rfl⟩ | e
  · obtain ⟨k, e1, h1⟩ := som_inv (show som (nmX (cE o)) _ from hE)
    obtain ⟨s, q, rfl, hs, rfl⟩ := ce_nm e1
    obtain ⟨v, hv, h2⟩ := som_inv h1
    have key := name_eval (tk := tk) (pos := q) (Q := fun o₁ s₁ => wpAny (model prg c.w) f.A (eval (.Slice lo hi none p) env) (fun i s₂ => wpAny (model prg c.w) f.A (subscriptTail (.Name s q) (.Slice lo hi none p) o₁ i) Q (fun _ _ => False) s₂) (fun _ _ => False) s₁) K R EK hv fun y ry => ?_
    · rw [(nm_cod hs).1] at key; exact key
    refine wpAny_Slice ?_
    refine evO_sound SE K hr h2 R EK ?_
    intro l H' ρ' h' tk' xl hl pre R' rl
    refine evO_sound SE K hr hl R' (EK.up pre) ?_
    intro u H'' ρ'' h'' tk'' xu hu pre' R'' ru
    rw [evalPart_none]
    refine wpAny_pure ?_
    exact slice_sound K R'' hu (ry.up (pre.trans pre')) (rl.up pre') ru (P.up (pre.trans pre'))
  · have hE : (run orc n).E me (cE o) H fun v H => (run orc n).E me (cE sl) H fun w H => som (getitem v w H) fun u => Φ u H := by
      have : (match slX (cE sl) with
        | some p => som (nmX (cE o)) fun c => som (lookN me c H) fun v => (run orc n).E me p.1 H fun l H => (run orc n).E me p.2 H fun h H => slice v l h H Φ
        | Option.none => (run orc n).E me (cE o) H fun v H => (run orc n).E me (cE sl) H fun w H => som (getitem v w H) fun u => Φ u H) := hE
      rw [e] at this
      exact this
    refine SE f m ex ρ H h tk me env o _ _ K hE R EK hr ?_
    intro u H' ρ' h' tk' x hu pre R' ru
    have ns := not_slice hu
    refine SE f m ex ρ' H' h' tk' me env sl _ _ K hu R' (EK.up pre) hr ?_
    intro v H'' ρ'' h'' tk'' y hv pre' R'' rv
    obtain ⟨w, hw, hv⟩ := som_inv hv
    exact getitem_sound R'' hw ns (ru.up pre') rv hv (P.up (pre.trans pre'))
/-- a comparison's form -/
theorem cmp_or (l : X) (ops : List CmpOp) (cs : List PySem.Expr) : cmpX l ops (cEs cs) = .bad ∨ (∃ p r, ops = [p] ∧ cs = [r]) ∨ ∃ p q r u, ops = [p, q] ∧ cs = [r, u] := by
  rcases ops with _ | ⟨p, _ | ⟨q, _ | ⟨_, _⟩⟩⟩ <;> rcases cs with _ | ⟨r, _ | ⟨u, _ | ⟨_, _⟩⟩⟩ <;> first | exact .inl rfl | exact .inr (.inl ⟨_, _, rfl, rfl⟩) | exact .inr (.inr ⟨_, _, _, _, rfl, rfl⟩)
theorem sound_E (SE : SoundE c mean mg mb orc n) (ST : SoundT c mean mg mb orc n) (SC : SoundC c mean mg mb orc n) (SL : SoundL n) (SM : SoundLm n) : SoundE c mean mg mb orc (n + 1) := by
  intro f m ex ρ H h tk me env e Φ Q K hE R EK hr1 P
  have hr := room_up hr1
  cases e with
  | Constant k kd pos =>
    cases k with
    | none => exact wpAny_Constant_none (P.val hE R .none)
    | bool b => exact wpAny_Constant_bool (P.val hE R (.bool b))
    | int i => exact wpAny_Constant_int (P.val (tk := tk + 1) hE R rv_int)
    | str s =>
      obtain ⟨hc, hE⟩ := cif_E (show stepE (run orc n) me (cif (inT s) (.str (cod s))) H Φ from hE)
      obtain ⟨e1, e2⟩ := nm_cod hc
      refine wpAny_Constant_str (P.val (tk := tk + 1) hE R ?_)
      have := RV.str (val := c.val) (ρ := ρ) (cod s) tk e2
      rwa [e1] at this
    | _ => exact (show False from hE).elim
  | Name id p =>
    obtain ⟨hc, hE⟩ := cif_E (show stepE (run orc n) me (cif (inT id) (.nm (cod id))) H Φ from hE)
    obtain ⟨v, hv, hE⟩ := som_inv hE
    rw [← (nm_cod hc).1]
    exact name_eval K R EK hv fun y ry => P.val hE R ry
  | BoolOp op vs pos =>
    rw [show eval (.BoolOp op vs pos) env = boolOp pos op (evalEach vs env) from rfl]
    exact boolOp_sound SE K hr hE R EK P
  | BinOp l op r pos => exact wpAny_BinOp (binop_E SE K hr hE R EK fun u v H' ρ' h' tk' x y hB pre R' ru rv => binop_sound K R' hB ru rv (P.up pre))
  | UnaryOp op x pos =>
    cases op with
    | USub =>
      refine wpAny_UnaryOp (SE f m ex ρ H h tk me env x _ _ K hE R EK hr ?_)
      intro v H' ρ' h' tk' y hv pre R' rv
      obtain ⟨i, e, hv⟩ := som_inv hv
      obtain ⟨t, rfl⟩ := rv_pln rv e
      exact PyProof.Rows.neg_int (s := f.st h' tk') (P _ _ _ _ _ _ hv pre R' rv_int)
    | _ => exact (show False from hE).elim
  | IfExp t b o pos =>
    refine wpAny_IfExp (ST f m ex ρ H h tk me env t _ _ K hE R EK hr ?_)
    intro v H' ρ' h' tk' hv pre R'
    cases v with
    | true => exact SE f m ex ρ' H' h' tk' me env b _ _ K hv R' (EK.up pre) hr (P.up pre)
    | false => exact SE f m ex ρ' H' h' tk' me env o _ _ K hv R' (EK.up pre) hr (P.up pre)
  | Dict ks vs pos =>
    obtain ⟨hc, hE⟩ := cif_E (show stepE (run orc n) me (cif (ks.isEmpty && vs.isEmpty) .dict0) H Φ from hE)
    obtain ⟨h1, h2⟩ := and_inv hc
    cases List.isEmpty_iff.mp h1
    cases List.isEmpty_iff.mp h2
    obtain ⟨news, N, _, _, gr, _⟩ := R.grow K
    exact newDict_K (s := f.st h tk) R.F N K.T.nolimit fun d h' o F' N' lt lo hd _ _ _ => P.new hE R.len (gr _ _ _ _ _ (.dict hd .nil lo fun _ z => nomatch z) F' N' lt)
  | List es pos =>
    obtain ⟨hz, hE⟩ := grd_inv (show grd (Nat.ble (cEs es).length 1000) _ from hE)
    rw [cEs_len] at hz
    refine wpAny_List (sound_es SE K hr es hE R EK ?_)
    intro vs H' ρ' h' tk' xs hl hvs pre R' rvs
    refine ⟨by rw [rvs.length, hl]; exact sizeLine_of (Nat.le_of_ble_eq_true hz), ?_⟩
    exact PE.alloc (ob := listOf xs.toArray 0) K R' (P.up pre) hvs (.list (rvs.up (List.prefix_append _ _)))
  | Tuple es k pos =>
    obtain ⟨hz, hE⟩ := grd_inv (show grd (Nat.ble (cEs es).length 1000) _ from hE)
    rw [cEs_len] at hz
    refine wpAny_Tuple (sound_es SE K hr es hE R EK ?_)
    intro vs H' ρ' h' tk' xs hl hvs pre R' rvs
    refine ⟨by rw [rvs.length, hl]; exact sizeLine_of (Nat.le_of_ble_eq_true hz), ?_⟩
    exact PE.alloc (ob := tupOf xs.toArray 0) K R' (P.up pre) hvs (.tup (rvs.up (List.prefix_append _ _)))
  | ListComp e gs sc pos => exact SL f m ex ρ H h tk me env e gs sc pos Φ Q K hE R EK hr P
  | Compare l ops cs pos =>
    obtain ⟨hm, hE⟩ := cif_E (show stepE (run orc n) me (cif (!lastMarks ops cs) (cmpX (cE l) ops (cEs cs))) H Φ from hE)
    rcases cmp_or (cE l) ops cs with z | ⟨p, r, rfl, rfl⟩ | ⟨p, q, r, u, rfl, rfl⟩
    · rw [z] at hE; exact hE.elim
    · refine wpAny_Compare1 ?_ (by simpa [lastMarks] using hm)
      refine binop_E SE K hr hE R EK fun u v H' ρ' h' tk' x y hB pre R' ru rv => ?_
      obtain ⟨b, hb, hB⟩ := som_inv hB
      exact cmp_sound R' (room_un hr) hb ru rv fun tk'' => P _ _ _ _ _ _ hB pre R' (.bool b)
    · exact (show False from hE).elim
  | Call func args kws pos =>
    cases kws with
    | nil =>
      obtain ⟨hc, hE⟩ := cif_E (show stepE (run orc n) me (cif (calOK func args pos) (.call (cE func) (cEs args))) H Φ from hE)
      exact sound_call SE SC K hr hc hE R EK P
    | cons w r =>
      obtain ⟨hc, g1⟩ := cif_E (show stepE (run orc n) me (cif (limK func args) (.lim (cif r.isEmpty (cW w)))) H Φ from hE)
      clear hE
      obtain ⟨h1, h2⟩ := and_inv hc
      cases List.isEmpty_iff.mp h1
      obtain ⟨a, e1, g2⟩ := som_inv (show som ((lookN me 192 H).bind V.fn?) _ from g1)
      clear g1
      obtain ⟨u, hu, e2⟩ := Option.bind_eq_some_iff.mp e1
      obtain ⟨ha, g3⟩ := grd_inv g2
      clear g2
      cases Nat.eq_of_beq_eq_true ha
      cases V.fn_inv e2
      cases func with
      | Name s p =>
        cases r with
        | cons _ _ => exact absurd g3 bad_no
        | nil =>
          obtain ⟨an, e, wp⟩ := w
          have g4 : (run orc n).E me (cif (an == some ("members" : PySem.Str)) (cE e)) H fun v H => (run orc n).L v H Φ := g3
          clear g3
          cases hn : (an == some ("members" : PySem.Str)) with
          | false => rw [hn] at g4; exact absurd g4 bad_no
          | true =>
            rw [hn] at g4
            cases beq_iff_eq.mp hn
            cases (beq_iff_eq.mp h2 : s = "Limits")
            refine Call_kw (func := .Name "Limits" p) ?_ rfl
            rw [nm_lim]
            refine name_eval K R EK hu fun y ry => ?_
            cases ry
            refine callWith_KW0 (K.X.keeps R.F.keep) (keep_lim c.w) rfl (kwAll_cons ?_)
            refine SE f m ex ρ H h tk me env e _ _ K g4 R EK hr ?_
            intro v H' ρ' h' tk' x hv pre R' rv
            exact kwAll_nil ⟨K.X.keeps R'.F.keep, SM f m ex ρ' H' h' tk' v x Φ Q K hv R' rv hr1 (P.up pre)⟩
      | _ => cases h2
  | Attribute o a pos =>
    obtain ⟨hc, hE⟩ := cif_E (show stepE (run orc n) me (cif (inT a) (.attr (cE o) (cod a))) H Φ from hE)
    have hE : (run orc n).E me (cE o) H fun v H => som (getattr v (cod a) H) fun u => Φ u H := hE
    refine attr_eval (base_whole hE) (SE f m ex ρ H h tk me env o _ _ K hE R EK hr ?_)
    intro v H' ρ' h' tk' x hv pre R' rv
    obtain ⟨w, hw, hv⟩ := som_inv hv
    rw [← (nm_cod hc).1]
    exact getattr_sound K R' hw rv hv (P.up pre)
  | Subscript o sl pos => exact sound_sub SE K hr hE R EK P
  | Slice lo hi st pos => cases st <;> exact (show False from hE).elim
  | _ => exact (show False from hE).elim
theorem PB.up {ρ' : List Addr} {Φ : Bool → Hp → Prop} {Q : Bool → Shared → Prop} (P : PB c f m ex ρ Φ Q) (pre : ρ <+: ρ') : PB c f m ex ρ' Φ Q := fun b H'' ρ'' h'' tk'' x y z => P b H'' ρ'' h'' tk'' x (pre.trans y) z
theorem sound_T (SE : SoundE c mean mg mb orc n) (ST : SoundT c mean mg mb orc n) : SoundT c mean mg mb orc (n + 1) := by
  intro f m ex ρ H h tk me env e Φ Q K hE R EK hr1 P
  have hr := room_up hr1
  have gen : xk (cE e) < 4 → genT e → wpAny (model prg c.w) f.A (isTrue e env (eval e env)) Q (fun _ _ => False) (f.st h tk) := fun hx he => by
    refine wpAny_isTrue_value (SE f m ex ρ H h tk me env e _ _ K (xk_plain hx hE) R EK hr ?_) (he env)
    intro v H' ρ' h' tk' x hv pre R' rv
    obtain ⟨b, e1, hv⟩ := som_inv hv
    rw [rv_bool rv e1]
    exact wpAny_truthy_bool (P b H' ρ' h' tk' hv pre R')
  cases ce_view e with
  | name s p => exact gen (by show xk (cif (inT s) _) < 4; cases inT s <;> exact Nat.le_of_ble_eq_true rfl) fun _ => rfl
  | attr o s p => exact gen (by show xk (cif (inT s) _) < 4; cases inT s <;> exact Nat.le_of_ble_eq_true rfl) fun _ => rfl
  | slice lo hi st p => exact gen (by cases st <;> exact Nat.le_of_ble_eq_true rfl) fun _ => rfl
  | plain _ z g => exact gen (by rw [z]; decide) g
  | tst _ z s =>
    cases s with
    | uop op x pos =>
      cases op with
      | Not =>
        refine wpAny_isTrue_Not (ST f m ex ρ H h tk me env x _ _ K hE R EK hr ?_)
        intro b H' ρ' h' tk' hb pre R'
        exact P _ H' ρ' h' tk' hb pre R'
      | _ => exact gen (Nat.le_of_ble_eq_true rfl) fun _ => rfl
    | bop op vs pos => exact wpAny_isTrue_BoolOp (allTrue_sound ST K hr hE R EK P)
    | cmp l ops cs pos =>
      have hE : stepT (run orc n) me (cif (!lastMarks ops cs) (cmpX (cE l) ops (cEs cs))) H Φ := hE
      have bad : ¬ stepT (run orc n) me .bad H Φ := fun z => by cases n <;> exact z.elim
      cases hm : !lastMarks ops cs with
      | false => rw [hm] at hE; exact absurd hE bad
      | true =>
        rw [hm] at hE
        rcases cmp_or (cE l) ops cs with z | ⟨p, r, rfl, rfl⟩ | ⟨p, q, r, u, rfl, rfl⟩
        · have hE : stepT (run orc n) me (cmpX (cE l) ops (cEs cs)) H Φ := hE
          rw [z] at hE; exact absurd hE bad
        · refine wpAny_isTrue_Compare1 ?_ (by simpa [lastMarks] using hm)
          refine binop_E SE K hr hE R EK fun u v H' ρ' h' tk' x y hB pre R' ru rv => ?_
          obtain ⟨b, hb, hB⟩ := som_inv hB
          exact cmp_sound R' (room_un hr) hb ru rv fun tk'' => wpAny_truthy_bool (P _ _ _ _ _ hB pre R')
        · refine isTrue_chain ?_ (by simpa using hm)
          refine SE f m ex ρ H h tk me env l _ _ K hE R EK hr ?_
          intro a H1 ρ1 h1 tk1 x hx pre1 R1 ra
          refine test_link (SE f m ex ρ1 H1 h1 tk1 me env r _ _ K hx R1 (EK.up pre1) hr ?_)
          intro b H2 ρ2 h2 tk2 y hy pre2 R2 rb
          obtain ⟨d, hd, hy⟩ := som_inv hy
          refine cmp_sound R2 (room_un hr) hd (ra.up pre2) rb fun tk3 => wpAny_truthy_bool ?_
          cases d with
          | false =>
            rw [if_neg (by decide)]
            exact P _ _ _ _ _ hy (pre1.trans pre2) R2
          | true =>
            rw [if_pos rfl]
            refine test_last (SE f m ex ρ2 H2 h2 tk3 me env u _ _ K hy R2 (EK.up (pre1.trans pre2)) hr ?_)
            intro d H3 ρ3 h3 tk4 z hz pre3 R3 rz
            obtain ⟨b', hb', hz⟩ := som_inv hz
            exact cmp_sound R3 (room_un hr) hb' (rb.up pre3) rz fun tk5 => wpAny_truthy_bool (P _ _ _ _ _ hz ((pre1.trans pre2).trans pre3) R3)
    | ife t b o pos => exact (show False from hE).elim
end
end N
end Mine
end
section
open PySem PySem.W PyProof.Rows PySem.Calls
set_option Elab.async false
set_option maxRecDepth 100000
set_option maxHeartbeats 0
namespace Mine
namespace N
noncomputable def obAt (w : World) (a : Addr) : Obj := ((hdA.heap_1_39 w.params).lookup a).getD { cls := .none, data := .seq #[] }
noncomputable def fdAt (w : World) (a : Addr) : FuncData := match (obAt w a).data with | .func fd => fd | _ => default
section
variable {w : World}
theorem of0 {P : List Value → Prop} (h : ∀ _ : Unit, P []) : ∀ xs : List Value, xs.length = 0 → P xs := fun xs e => by
  cases xs with
  | nil => exact h ()
  | cons _ _ => cases e
theorem of1 {P : List Value → Prop} (h : ∀ x0, P [x0]) : ∀ xs : List Value, xs.length = 1 → P xs := fun xs e => by
  cases xs with
  | nil => cases e
  | cons x xs => exact of0 (P := fun l => P (x :: l)) (fun _ => h x) xs (Nat.succ.inj e)
theorem of2 {P : List Value → Prop} (h : ∀ x0 x1, P [x0, x1]) : ∀ xs : List Value, xs.length = 2 → P xs := fun xs e => by
  cases xs with
  | nil => cases e
  | cons x xs => exact of1 (P := fun l => P (x :: l)) (h x) xs (Nat.succ.inj e)
theorem of3 {P : List Value → Prop} (h : ∀ x0 x1 x2, P [x0, x1, x2]) : ∀ xs : List Value, xs.length = 3 → P xs := fun xs e => by
  cases xs with
  | nil => cases e
  | cons x xs => exact of2 (P := fun l => P (x :: l)) (h x) xs (Nat.succ.inj e)
theorem of4 {P : List Value → Prop} (h : ∀ x0 x1 x2 x3, P [x0, x1, x2, x3]) : ∀ xs : List Value, xs.length = 4 → P xs := fun xs e => by
  cases xs with
  | nil => cases e
  | cons x xs => exact of3 (P := fun l => P (x :: l)) (h x) xs (Nat.succ.inj e)
theorem fun_ok {a : Addr} {fi : FI} {body : List Stmt} (fd : FuncData) (ob : Obj) (h1 : (hdA.heap_1_39 w.params).lookup a = some ob) (h2 : ob.data = .func fd) (h3 : fd.body = .stmts body) (h4 : cSs body = fi.body) (h5 : codeIn (hdA.heap_1_39 w.params) fd.code fd.qualname = true)
    (h6 : fd.globals = mainGlobals) (h7 : fd.closure = []) (h8 : fd.builtins = builtinsNs) (h9 : scopeChk fd.scope fi = true) (h10 : ∀ xs : List Value, xs.length = fi.ps.length → bindArgs fd ⟨xs, []⟩ = pure ((fi.ps.map nm).zip xs)) : FunOK w a fi :=
  ⟨ob, fd, body, ⟨h1, h2, h3, h4, h5, h6, h7, h8, h9⟩, h10⟩

theorem ok107 : FunOK w 107 f107 := fun_ok (body := bodyC "Cell" "__init__" top) (fdAt w 107) (obAt w 107) (by kernel_rfl) (by kernel_rfl) (by kernel_rfl) f107_eq (by kernel_rfl) (by kernel_rfl) (by kernel_rfl) (by kernel_rfl) (by kernel_rfl) (of3 fun x0 x1 x2 => by kernel_rfl)
theorem ok128 : FunOK w 128 f128 := fun_ok (body := bodyC "CellMaker" "__init__" top) (fdAt w 128) (obAt w 128) (by kernel_rfl) (by kernel_rfl) (by kernel_rfl) f128_eq (by kernel_rfl) (by kernel_rfl) (by kernel_rfl) (by kernel_rfl) (by kernel_rfl) (of1 fun x0 => by kernel_rfl)
theorem ok135 : FunOK w 135 f135 := fun_ok (body := bodyC "CellMaker" "make_cell" top) (fdAt w 135) (obAt w 135) (by kernel_rfl) (by kernel_rfl) (by kernel_rfl) f135_eq (by kernel_rfl) (by kernel_rfl) (by kernel_rfl) (by kernel_rfl) (by kernel_rfl) (of2 fun x0 x1 => by kernel_rfl)
theorem ok156 : FunOK w 156 f156 := fun_ok (body := bodyC "ArrayValue" "__init__" top) (fdAt w 156) (obAt w 156) (by kernel_rfl) (by kernel_rfl) (by kernel_rfl) f156_eq (by kernel_rfl) (by kernel_rfl) (by kernel_rfl) (by kernel_rfl) (by kernel_rfl) (of3 fun x0 x1 x2 => by kernel_rfl)
theorem ok177 : FunOK w 177 f177 := fun_ok (body := bodyC "RecordValue" "__init__" top) (fdAt w 177) (obAt w 177) (by kernel_rfl) (by kernel_rfl) (by kernel_rfl) f177_eq (by kernel_rfl) (by kernel_rfl) (by kernel_rfl) (by kernel_rfl) (by kernel_rfl) (of3 fun x0 x1 x2 => by kernel_rfl)
theorem ok191 : FunOK w 191 f191 := fun_ok (body := bodyIn "need_set" top) (fdAt w 191) (obAt w 191) (by kernel_rfl) (by kernel_rfl) (by kernel_rfl) f191_eq (by kernel_rfl) (by kernel_rfl) (by kernel_rfl) (by kernel_rfl) (by kernel_rfl) (of1 fun x0 => by kernel_rfl)
theorem ok196 : FunOK w 196 f196 := fun_ok (body := bodyIn "copy_value" top) (fdAt w 196) (obAt w 196) (by kernel_rfl) (by kernel_rfl) (by kernel_rfl) f196_eq (by kernel_rfl) (by kernel_rfl) (by kernel_rfl) (by kernel_rfl) (by kernel_rfl) (of1 fun x0 => by kernel_rfl)
theorem ok208 : FunOK w 208 f208 := fun_ok (body := bodyIn "lengths_of" top) (fdAt w 208) (obAt w 208) (by kernel_rfl) (by kernel_rfl) (by kernel_rfl) f208_eq (by kernel_rfl) (by kernel_rfl) (by kernel_rfl) (by kernel_rfl) (by kernel_rfl) (of1 fun x0 => by kernel_rfl)
theorem ok215 : FunOK w 215 f215 := fun_ok (body := bodyIn "equal_items" top) (fdAt w 215) (obAt w 215) (by kernel_rfl) (by kernel_rfl) (by kernel_rfl) f215_eq (by kernel_rfl) (by kernel_rfl) (by kernel_rfl) (by kernel_rfl) (by kernel_rfl) (of2 fun x0 x1 => by kernel_rfl)
theorem ok222 : FunOK w 222 f222 := fun_ok (body := bodyIn "equal_fields" top) (fdAt w 222) (obAt w 222) (by kernel_rfl) (by kernel_rfl) (by kernel_rfl) f222_eq (by kernel_rfl) (by kernel_rfl) (by kernel_rfl) (by kernel_rfl) (by kernel_rfl) (of2 fun x0 x1 => by kernel_rfl)
theorem ok229 : FunOK w 229 f229 := fun_ok (body := bodyIn "equal_values" top) (fdAt w 229) (obAt w 229) (by kernel_rfl) (by kernel_rfl) (by kernel_rfl) f229_eq (by kernel_rfl) (by kernel_rfl) (by kernel_rfl) (by kernel_rfl) (by kernel_rfl) (of2 fun x0 x1 => by kernel_rfl)
theorem ok243 : FunOK w 243 f243 := fun_ok (body := bodyIn "fields_with" top) (fdAt w 243) (obAt w 243) (by kernel_rfl) (by kernel_rfl) (by kernel_rfl) f243_eq (by kernel_rfl) (by kernel_rfl) (by kernel_rfl) (by kernel_rfl) (by kernel_rfl) (of2 fun x0 x1 => by kernel_rfl)
theorem ok248 : FunOK w 248 f248 := fun_ok (body := bodyIn "read_place" top) (fdAt w 248) (obAt w 248) (by kernel_rfl) (by kernel_rfl) (by kernel_rfl) f248_eq (by kernel_rfl) (by kernel_rfl) (by kernel_rfl) (by kernel_rfl) (by kernel_rfl) (of1 fun x0 => by kernel_rfl)
theorem ok253 : FunOK w 253 f253 := fun_ok (body := bodyIn "write_place" top) (fdAt w 253) (obAt w 253) (by kernel_rfl) (by kernel_rfl) (by kernel_rfl) f253_eq (by kernel_rfl) (by kernel_rfl) (by kernel_rfl) (by kernel_rfl) (by kernel_rfl) (of2 fun x0 x1 => by kernel_rfl)
theorem ok260 : FunOK w 260 f260 := fun_ok (body := bodyIn "raise_constraint" top) (fdAt w 260) (obAt w 260) (by kernel_rfl) (by kernel_rfl) (by kernel_rfl) f260_eq (by kernel_rfl) (by kernel_rfl) (by kernel_rfl) (by kernel_rfl) (by kernel_rfl) (of1 fun x0 => by kernel_rfl)
theorem ok267 : FunOK w 267 f267 := fun_ok (body := bodyIn "dim_length" top) (fdAt w 267) (obAt w 267) (by kernel_rfl) (by kernel_rfl) (by kernel_rfl) f267_eq (by kernel_rfl) (by kernel_rfl) (by kernel_rfl) (by kernel_rfl) (by kernel_rfl) (of2 fun x0 x1 => by kernel_rfl)
theorem ok274 : FunOK w 274 f274 := fun_ok (body := bodyIn "array_size" top) (fdAt w 274) (obAt w 274) (by kernel_rfl) (by kernel_rfl) (by kernel_rfl) f274_eq (by kernel_rfl) (by kernel_rfl) (by kernel_rfl) (by kernel_rfl) (by kernel_rfl) (of2 fun x0 x1 => by kernel_rfl)
theorem ok281 : FunOK w 281 f281 := fun_ok (body := bodyIn "item_offset" top) (fdAt w 281) (obAt w 281) (by kernel_rfl) (by kernel_rfl) (by kernel_rfl) f281_eq (by kernel_rfl) (by kernel_rfl) (by kernel_rfl) (by kernel_rfl) (by kernel_rfl) (of2 fun x0 x1 => by kernel_rfl)
theorem ok288 : FunOK w 288 f288 := fun_ok (body := bodyIn "get_item" top) (fdAt w 288) (obAt w 288) (by kernel_rfl) (by kernel_rfl) (by kernel_rfl) f288_eq (by kernel_rfl) (by kernel_rfl) (by kernel_rfl) (by kernel_rfl) (by kernel_rfl) (of2 fun x0 x1 => by kernel_rfl)
theorem ok295 : FunOK w 295 f295 := fun_ok (body := bodyIn "item_place" top) (fdAt w 295) (obAt w 295) (by kernel_rfl) (by kernel_rfl) (by kernel_rfl) f295_eq (by kernel_rfl) (by kernel_rfl) (by kernel_rfl) (by kernel_rfl) (by kernel_rfl) (of2 fun x0 x1 => by kernel_rfl)
theorem ok324 : FunOK w 324 f324 := fun_ok (body := bodyIn "type_line" top) (fdAt w 324) (obAt w 324) (by kernel_rfl) (by kernel_rfl) (by kernel_rfl) f324_eq (by kernel_rfl) (by kernel_rfl) (by kernel_rfl) (by kernel_rfl) (by kernel_rfl) (of1 fun x0 => by kernel_rfl)
theorem ok359 : FunOK w 359 f359 := fun_ok (body := bodyIn "present_parts" top) (fdAt w 359) (obAt w 359) (by kernel_rfl) (by kernel_rfl) (by kernel_rfl) f359_eq (by kernel_rfl) (by kernel_rfl) (by kernel_rfl) (by kernel_rfl) (by kernel_rfl) (of2 fun x0 x1 => by kernel_rfl)
theorem ok364 : FunOK w 364 f364 := fun_ok (body := bodyIn "variant_names" top) (fdAt w 364) (obAt w 364) (by kernel_rfl) (by kernel_rfl) (by kernel_rfl) f364_eq (by kernel_rfl) (by kernel_rfl) (by kernel_rfl) (by kernel_rfl) (by kernel_rfl) (of1 fun x0 => by kernel_rfl)
theorem ok369 : FunOK w 369 f369 := fun_ok (body := bodyIn "part_names" top) (fdAt w 369) (obAt w 369) (by kernel_rfl) (by kernel_rfl) (by kernel_rfl) f369_eq (by kernel_rfl) (by kernel_rfl) (by kernel_rfl) (by kernel_rfl) (by kernel_rfl) (of1 fun x0 => by kernel_rfl)
theorem ok376 : FunOK w 376 f376 := fun_ok (body := bodyIn "discs_in" top) (fdAt w 376) (obAt w 376) (by kernel_rfl) (by kernel_rfl) (by kernel_rfl) f376_eq (by kernel_rfl) (by kernel_rfl) (by kernel_rfl) (by kernel_rfl) (by kernel_rfl) (of1 fun x0 => by kernel_rfl)
theorem ok383 : FunOK w 383 f383 := fun_ok (body := bodyIn "check_field" top) (fdAt w 383) (obAt w 383) (by kernel_rfl) (by kernel_rfl) (by kernel_rfl) f383_eq (by kernel_rfl) (by kernel_rfl) (by kernel_rfl) (by kernel_rfl) (by kernel_rfl) (of2 fun x0 x1 => by kernel_rfl)
theorem ok390 : FunOK w 390 f390 := fun_ok (body := bodyIn "field_place" top) (fdAt w 390) (obAt w 390) (by kernel_rfl) (by kernel_rfl) (by kernel_rfl) f390_eq (by kernel_rfl) (by kernel_rfl) (by kernel_rfl) (by kernel_rfl) (by kernel_rfl) (of2 fun x0 x1 => by kernel_rfl)
theorem ok397 : FunOK w 397 f397 := fun_ok (body := bodyIn "aggregate_record" top) (fdAt w 397) (obAt w 397) (by kernel_rfl) (by kernel_rfl) (by kernel_rfl) f397_eq (by kernel_rfl) (by kernel_rfl) (by kernel_rfl) (by kernel_rfl) (by kernel_rfl) (of2 fun x0 x1 => by kernel_rfl)
theorem ok404 : FunOK w 404 f404 := fun_ok (body := bodyIn "extended_record" top) (fdAt w 404) (obAt w 404) (by kernel_rfl) (by kernel_rfl) (by kernel_rfl) f404_eq (by kernel_rfl) (by kernel_rfl) (by kernel_rfl) (by kernel_rfl) (by kernel_rfl) (of3 fun x0 x1 x2 => by kernel_rfl)
theorem ok411 : FunOK w 411 f411 := fun_ok (body := bodyIn "ancestor_view" top) (fdAt w 411) (obAt w 411) (by kernel_rfl) (by kernel_rfl) (by kernel_rfl) f411_eq (by kernel_rfl) (by kernel_rfl) (by kernel_rfl) (by kernel_rfl) (by kernel_rfl) (of2 fun x0 x1 => by kernel_rfl)
theorem ok418 : FunOK w 418 f418 := fun_ok (body := bodyIn "is_in_line" top) (fdAt w 418) (obAt w 418) (by kernel_rfl) (by kernel_rfl) (by kernel_rfl) f418_eq (by kernel_rfl) (by kernel_rfl) (by kernel_rfl) (by kernel_rfl) (by kernel_rfl) (of2 fun x0 x1 => by kernel_rfl)
theorem ok432 : FunOK w 432 f432 := fun_ok (body := bodyC "Type" "__init__" top) (fdAt w 432) (obAt w 432) (by kernel_rfl) (by kernel_rfl) (by kernel_rfl) f432_eq (by kernel_rfl) (by kernel_rfl) (by kernel_rfl) (by kernel_rfl) (by kernel_rfl) (of3 fun x0 x1 x2 => by kernel_rfl)
theorem ok446 : FunOK w 446 f446 := fun_ok (body := bodyIn "record_type" top) (fdAt w 446) (obAt w 446) (by kernel_rfl) (by kernel_rfl) (by kernel_rfl) f446_eq (by kernel_rfl) (by kernel_rfl) (by kernel_rfl) (by kernel_rfl) (by kernel_rfl) (of4 fun x0 x1 x2 x3 => by kernel_rfl)
theorem ok453 : FunOK w 453 f453 := fun_ok (body := bodyIn "_law_roll" top) (fdAt w 453) (obAt w 453) (by kernel_rfl) (by kernel_rfl) (by kernel_rfl) f453_eq (by kernel_rfl) (by kernel_rfl) (by kernel_rfl) (by kernel_rfl) (by kernel_rfl) (of2 fun x0 x1 => by kernel_rfl)
theorem ok458 : FunOK w 458 f458 := fun_ok (body := bodyIn "_law_shape" top) (fdAt w 458) (obAt w 458) (by kernel_rfl) (by kernel_rfl) (by kernel_rfl) f458_eq (by kernel_rfl) (by kernel_rfl) (by kernel_rfl) (by kernel_rfl) (by kernel_rfl) (of2 fun x0 x1 => by kernel_rfl)
theorem ok463 : FunOK w 463 f463 := fun_ok (body := bodyIn "_law_value" top) (fdAt w 463) (obAt w 463) (by kernel_rfl) (by kernel_rfl) (by kernel_rfl) f463_eq (by kernel_rfl) (by kernel_rfl) (by kernel_rfl) (by kernel_rfl) (by kernel_rfl) (of3 fun x0 x1 x2 => by kernel_rfl)
theorem ok468 : FunOK w 468 f468 := fun_ok (body := bodyIn "_law_same" top) (fdAt w 468) (obAt w 468) (by kernel_rfl) (by kernel_rfl) (by kernel_rfl) f468_eq (by kernel_rfl) (by kernel_rfl) (by kernel_rfl) (by kernel_rfl) (by kernel_rfl) (of2 fun x0 x1 => by kernel_rfl)
theorem ok475 : FunOK w 475 f475 := fun_ok (body := bodyIn "_law_way" top) (fdAt w 475) (obAt w 475) (by kernel_rfl) (by kernel_rfl) (by kernel_rfl) f475_eq (by kernel_rfl) (by kernel_rfl) (by kernel_rfl) (by kernel_rfl) (by kernel_rfl) (of2 fun x0 x1 => by kernel_rfl)
theorem ok482 : FunOK w 482 f482 := fun_ok (body := bodyIn "_law_changed" top) (fdAt w 482) (obAt w 482) (by kernel_rfl) (by kernel_rfl) (by kernel_rfl) f482_eq (by kernel_rfl) (by kernel_rfl) (by kernel_rfl) (by kernel_rfl) (by kernel_rfl) (of3 fun x0 x1 x2 => by kernel_rfl)
theorem ok489 : FunOK w 489 f489 := fun_ok (body := bodyIn "_law_place" top) (fdAt w 489) (obAt w 489) (by kernel_rfl) (by kernel_rfl) (by kernel_rfl) f489_eq (by kernel_rfl) (by kernel_rfl) (by kernel_rfl) (by kernel_rfl) (by kernel_rfl) (of3 fun x0 x1 x2 => by kernel_rfl)
theorem ok496 : FunOK w 496 f496 := fun_ok (body := bodyIn "_law_sized" top) (fdAt w 496) (obAt w 496) (by kernel_rfl) (by kernel_rfl) (by kernel_rfl) f496_eq (by kernel_rfl) (by kernel_rfl) (by kernel_rfl) (by kernel_rfl) (by kernel_rfl) (of2 fun x0 x1 => by kernel_rfl)
theorem ok503 : FunOK w 503 f503 := fun_ok (body := bodyIn "_law_offset" top) (fdAt w 503) (obAt w 503) (by kernel_rfl) (by kernel_rfl) (by kernel_rfl) f503_eq (by kernel_rfl) (by kernel_rfl) (by kernel_rfl) (by kernel_rfl) (by kernel_rfl) (of2 fun x0 x1 => by kernel_rfl)
theorem ok508 : FunOK w 508 f508 := fun_ok (body := bodyIn "_law_table_right" top) (fdAt w 508) (obAt w 508) (by kernel_rfl) (by kernel_rfl) (by kernel_rfl) f508_eq (by kernel_rfl) (by kernel_rfl) (by kernel_rfl) (by kernel_rfl) (by kernel_rfl) (of1 fun x0 => by kernel_rfl)
theorem ok513 : FunOK w 513 f513 := fun_ok (body := bodyIn "_law_line_right" top) (fdAt w 513) (obAt w 513) (by kernel_rfl) (by kernel_rfl) (by kernel_rfl) f513_eq (by kernel_rfl) (by kernel_rfl) (by kernel_rfl) (by kernel_rfl) (by kernel_rfl) (of1 fun x0 => by kernel_rfl)
theorem ok518 : FunOK w 518 f518 := fun_ok (body := bodyIn "law" top) (fdAt w 518) (obAt w 518) (by kernel_rfl) (by kernel_rfl) (by kernel_rfl) f518_eq (by kernel_rfl) (by kernel_rfl) (by kernel_rfl) (by kernel_rfl) (by kernel_rfl) (of1 fun x0 => by kernel_rfl)
theorem all_cons {P : Nat × FI → Prop} {x : Nat × FI} {l : List (Nat × FI)} (a : P x) (b : ∀ p ∈ l, P p) : ∀ p ∈ x :: l, P p := fun p hp => by
  rcases List.mem_cons.mp hp with rfl | hp
  · exact a
  · exact b p hp
theorem funs_ok : ∀ p ∈ funs, FunOK w p.1 p.2 := all_cons ok107 <| all_cons ok128 <| all_cons ok135 <| all_cons ok156 <| all_cons ok177 <| all_cons ok191 <| all_cons ok196 <| all_cons ok208 <| all_cons ok215 <| all_cons ok222 <| all_cons ok229 <| all_cons ok243 <| all_cons ok248 <| all_cons ok253 <| all_cons ok260 <| all_cons ok267 <| all_cons ok274 <| all_cons ok281 <| all_cons ok288 <| all_cons ok295 <| all_cons ok324 <| all_cons ok359 <| all_cons ok364 <| all_cons ok369 <| all_cons ok376 <| all_cons ok383 <| all_cons ok390 <| all_cons ok397 <| all_cons ok404 <| all_cons ok411 <| all_cons ok418 <| all_cons ok432 <| all_cons ok446 <| all_cons ok453 <| all_cons ok458 <| all_cons ok463 <| all_cons ok468 <| all_cons ok475 <| all_cons ok482 <| all_cons ok489 <| all_cons ok496 <| all_cons ok503 <| all_cons ok508 <| all_cons ok513 <| all_cons ok518 <|  fun _ h => nomatch h
end
end N
end Mine
end
section
open PySem PySem.W PyProof.Rows PySem.Calls
set_option Elab.async false
set_option maxRecDepth 100000
set_option maxHeartbeats 1000000
namespace Mine
namespace N
theorem cls_chk (w : World) : clss.all (fun p => makesIn (hdA.heap_1_39 w.params) p.1 && findIn (hdA.heap_1_39 w.params) (.ref p.1) "__init__" == some (some (.ref p.2)) && typeIn (hdA.heap_1_39 w.params) (.ref p.2) == some (.type "function")) = true := by kernel_rfl
theorem cls_ok (w : World) {C i : Nat} (h : lookc C clss = some i) : ClsOK w C i := by
  obtain ⟨h1, h3⟩ := and_inv (List.all_eq_true.mp (cls_chk w) _ (lookc_mem h))
  obtain ⟨h1, h2⟩ := and_inv h1
  exact ⟨h1, beq_iff_eq.mp h2, beq_iff_eq.mp h3⟩
section
variable {n : Nat} {f : Fx} {m : PySem.Str → Option Value} {ex : List (Addr × Obj)} {ρ : List Addr} {H : Hp} {h : Heap} {tk : Nat} {me : ME} {env : Env} {Φ : V → Hp → Prop} {Q : Value → Shared → Prop}
theorem fun_call (SS : SoundS c mean mg mb orc n) {a : Nat} {fi : FI} {vs : List V} {xs : List Value} {Ψ : Fl → Hp → Prop} (hf : lookc a funs = some fi) (rs : RVs c.val ρ vs xs) (hE : stepX (run orc n) fi vs H Ψ) : CtQ c mean mg mb (n + 1) a ⟨xs, []⟩ ρ H Ψ := by
  obtain ⟨ob, fd, body, D, hb⟩ := funs_ok (w := c.w) _ (lookc_mem hf)
  refine enter SS D (fun s _ => BindsTo.of_eq (hb xs ?_)) rs hE
  rw [rs.length]
  exact (Nat.eq_of_beq_eq_true (grd_inv hE).1).symm
theorem PE.retF (P : PE c f m ex ρ Φ Q) {E : Value → Shared → Prop} : PX c f m ex ρ (N.retF Φ) Q E := by
  refine ⟨fun fl H' ρ' h' tk' x hΨ pre R' rv => ?_, fun w a H' ρ' h' tk' hΨ => hΨ.elim⟩
  cases rv with
  | next => exact P _ _ _ _ _ _ hΨ pre R' .none
  | ret r => exact P _ _ _ _ _ _ hΨ pre R' r
theorem cls_init : clss.all (fun p => (lookc p.2 clss).isNone) = true := by decide
/-- what a call of a def or of a class is -/
theorem C_inv {k i : Nat} {vs : List V} (h : (run orc (k + 1)).C (.fn i) vs H Φ) : (∃ p, orc (k + 1) i vs H = some p ∧ Φ p.1 p.2) ∨ (orc (k + 1) i vs H = none ∧ ((∃ fi, lookc i funs = some fi ∧ stepX (run orc k) fi vs H (retF Φ)) ∨ ∃ j, lookc i clss = some j ∧ (run orc k).C (.fn j) (.ref H.length :: vs) (H ++ [.inst i []]) fun u H' => grd u.isNone (Φ (.ref H.length) H'))) := by
  have h : (match orc (k + 1) i vs H with
    | some p => Φ p.1 p.2
    | none => match lookc i funs with
      | some fi => stepX (run orc k) fi vs H (retF Φ)
      | none => som (lookc i clss) fun j => alloc (.inst i []) H fun n H => cal (run orc k) (.fn j) (n :: vs) H fun u H => grd u.isNone (Φ n H)) := h
  cases ho : orc (k + 1) i vs H with
  | some p => rw [ho] at h; exact .inl ⟨p, rfl, h⟩
  | none =>
    rw [ho] at h
    refine .inr ⟨rfl, ?_⟩
    have h : (match lookc i funs with
      | some fi => stepX (run orc k) fi vs H (retF Φ)
      | none => som (lookc i clss) fun j => alloc (.inst i []) H fun n H => cal (run orc k) (.fn j) (n :: vs) H fun u H => grd u.isNone (Φ n H)) := h
    cases hf : lookc i funs with
    | some fi => rw [hf] at h; exact .inl ⟨fi, rfl, h⟩
    | none =>
      rw [hf] at h
      obtain ⟨j, hj, h⟩ := som_inv h
      unfold alloc at h
      rw [fH_eq, cal_eq] at h
      exact .inr ⟨j, hj, h⟩
theorem sound_C (O : OrcOK c mean mg mb orc) (SS : SoundS c mean mg mb orc n) (SS' : ∀ k, k + 1 = n → SoundS c mean mg mb orc k) : SoundC c mean mg mb orc (n + 1) := by
  intro f m ex ρ H h tk v vs x xs Φ Q K hE R rv rs hr P
  cases rv with
  | bi b => exact builtin_sound K R hE rs P
  | fn a =>
    obtain ⟨p, ho, hE⟩ | ⟨ho, ⟨fi, hf, hE⟩ | ⟨i, hi, hE⟩⟩ := C_inv hE
    · exact call_use K R (O.says _ _ _ _ p.1 p.2 ρ xs _ ho hE rs) hr.1 hr.2 P.retF
    · exact call_use K R (fun_call SS hf rs hE).toM hr.1 hr.2 P.retF
    · refine call_use K R (cls_call (cls_ok c.w hi) fun y => ?_).toM hr.1 hr.2 P.retF
      cases n with
      | zero => exact hE.elim
      | succ k =>
        obtain ⟨p, ho, -⟩ | ⟨-, ⟨fi, hf, hE⟩ | ⟨j, hj, -⟩⟩ := C_inv hE
        · rw [O.init _ (a, i) _ _ (lookc_mem hi)] at ho; cases ho
        · refine fun_call (SS' k rfl) hf (.cons (.ref ?_) (rs.up (List.prefix_append _ _))) hE
          rw [List.getElem?_append_right (Nat.le_of_eq R.len), R.len, Nat.sub_self]
          rfl
        · have := List.all_eq_true.mp cls_init _ (lookc_mem hi)
          rw [hj] at this
          cases this
  | _ => exact hE.elim
theorem sound_M (SS : SoundS c mean mg mb orc n) : SoundM c mean mg mb orc (n + 1) := by
  intro a vs xs ρ H Ψ hE rs
  obtain ⟨fi, hf, hE⟩ := som_inv (show som (lookc a funs) _ from hE)
  exact (fun_call SS hf rs hE).toM
theorem sound_X (SS : SoundS c mean mg mb orc n) : SoundX c mean mg mb orc (n + 1) := by
  intro f m ex ρ H h tk a vs xs Ψ Q E K hE R rs hr P
  obtain ⟨fi, hf, hE⟩ := som_inv (show som (lookc a funs) _ from hE)
  exact call_use K R (fun_call SS hf rs hE).toM hr.1 hr.2 P
end
end N
end Mine
end
section
open PySem PySem.W PyProof.Rows PySem.Calls
set_option Elab.async false
set_option maxRecDepth 100000
set_option maxHeartbeats 1000000
namespace Mine
namespace N
theorem lim_cls (w : World) : ClsOK w 313 310 := ⟨by kernel_rfl, by kernel_rfl, by kernel_rfl⟩
theorem lim_def (w : World) : FunIs w 310 f310 (obAt w 310) (fdAt w 310) (bodyC "Limits" "__init__" top) := ⟨by kernel_rfl, by kernel_rfl, by kernel_rfl, f310_eq, by kernel_rfl, by kernel_rfl, by kernel_rfl, by kernel_rfl, by kernel_rfl⟩
noncomputable def limItems (w : World) : Array Value := match (obAt w 303).data with | .seq xs _ => xs | _ => #[]
noncomputable def limN (w : World) : Nat := match (obAt w 303).data with | .seq _ n => n | _ => 0
noncomputable def itm (w : World) (i : Nat) : Value := (limItems w).toList.getD i .none
noncomputable def isIntV (v : Value) (i : Int) : Bool := match v with
  | .int j _ => decide (j = i)
  | _ => false
theorem isIntV_rv {ρ : List Addr} {v : Value} {i : Int} (h : isIntV v i = true) : RV c.val ρ (.i i) v := by
  cases v with
  | int j t => rw [of_decide_eq_true h]; exact rv_int
  | _ => cases h
theorem lim_items (w : World) : isIntV (itm w 0) 32 = true ∧ isIntV (itm w 1) 1000000 = true ∧ isIntV (itm w 2) 50 = true ∧ isIntV (itm w 4) 100000 = true ∧ isIntV (itm w 5) 50 = true ∧ isIntV (itm w 6) 1000000 = true := ⟨by kernel_rfl, by kernel_rfl, by kernel_rfl, by kernel_rfl, by kernel_rfl, by kernel_rfl⟩
theorem lim_at (w : World) : (hdA.heap_1_39 w.params).lookup 303 = some (obAt w 303) ∧ (obAt w 303).data = .seq (limItems w) (limN w) ∧ (fdAt w 310).defaults = .ref 303 := ⟨by kernel_rfl, by kernel_rfl, by kernel_rfl⟩
theorem lim_k (w : World) (y : Addr) (x : Value) : ∃ k : Option (Array Value) → Sem (List (PySem.Str × Value)), bindArgs (fdAt w 310) ⟨[.ref y], [(PySem.Str.ofString "members", x)]⟩ = seqItems? (fdAt w 310).defaults >>= k ∧ k (some (limItems w)) = pure ((f310.ps.map nm).zip [.ref y, itm w 0, itm w 1, itm w 2, x, itm w 4, itm w 5, itm w 6]) := ⟨_, rfl, by kernel_rfl⟩
theorem sound_Lm {n : Nat} (SS : ∀ k, k + 1 = n → SoundS c mean mg mb orc k) : SoundLm n := by
  intro f m ex ρ H h tk v x Φ Q K hL R rv hr P
  cases n with
  | zero => exact hL.elim
  | succ k =>
    have hL : stepL (run orc k) v H Φ := hL
    unfold stepL alloc at hL
    rw [fH_eq] at hL
    refine call_use K R (args := ⟨[], [(PySem.Str.ofString "members", x)]⟩) (cls_call (lim_cls c.w) fun y => ?_).toM hr.1 hr.2 P.retF
    obtain ⟨k', e1, e2⟩ := lim_k c.w y x
    obtain ⟨i1, i2, i3⟩ := lim_at c.w
    obtain ⟨q0, q1, q2, q4, q5, q6⟩ := lim_items c.w
    refine enter (SS k rfl) (lim_def c.w) (fun s X => BindsTo.of_defaults i3 (X _ _ i1) i2 e1 e2) (.cons (.ref ?_) (.cons (isIntV_rv q0) (.cons (isIntV_rv q1) (.cons (isIntV_rv q2) (.cons (rv.up (List.prefix_append _ _)) (.cons (isIntV_rv q4) (.cons (isIntV_rv q5) (.cons (isIntV_rv q6) .nil)))))))) hL
    rw [List.getElem?_append_right (Nat.le_of_eq R.len), R.len, Nat.sub_self]
    rfl
end N
end Mine
end
section
open PySem PySem.W PyProof.Rows PySem.Calls
set_option Elab.async false
set_option maxRecDepth 100000
set_option maxHeartbeats 1000000
namespace Mine
namespace N
section
variable {n : Nat} {f : Fx} {m : PySem.Str → Option Value} {ex : List (Addr × Obj)} {ρ : List Addr} {H : Hp} {h h' : Heap} {tk : Nat} {me : ME} {env : Env} {I : Addr} {oI oI' : Obj} {A : Around}
theorem Rl.exBut (R : Rl c f m ((I, oI) :: ex) ρ H h) (hk : ∀ b o, b ≠ I → h.get? b = some o → h'.get? b = some o) (e : h'.get? I = some oI') : Rl c f m ((I, oI') :: ex) ρ H h' := by
  obtain ⟨F, fs, led, l, a, b, N, nd, off⟩ := R
  have z := N (I, oI) (.head _)
  rw [List.cons_append, List.map_cons, List.nodup_cons] at nd
  refine ⟨LCg.fr_but F (fun b o hb e => hk b o (by simpa using hb) e) (Ne.symm z.2.1) z.2.2, fs, led, l, a, b, fun p hp => ?_, by rw [List.cons_append, List.map_cons, List.nodup_cons]; exact nd, fun p hp => ?_⟩
  · rcases List.mem_cons.mp hp with rfl | hp
    · exact ⟨e, z.2⟩
    · have y := N p (.tail _ hp)
      refine ⟨hk _ _ (fun q => ?_) y.1, y.2⟩
      have hp' : p ∈ ex ++ (led ++ fs) := hp
      rw [← List.append_assoc] at hp'
      rcases List.mem_append.mp hp' with hp | hp
      · exact nd.1 (List.mem_map.mpr ⟨p, hp, q⟩)
      · exact off (I, oI) (.head _) (q ▸ b p hp)
  · rcases List.mem_cons.mp hp with rfl | hp
    · exact off (I, oI) (.head _)
    · exact off p (.tail _ hp)
theorem Rl.exDrop (R : Rl c f m ((I, oI) :: ex) ρ H h) (hk : ∀ b o, b ≠ I → h.get? b = some o → h'.get? b = some o) : Rl c f m ex ρ H h' := by
  obtain ⟨F, fs, led, l, a, b, N, nd, off⟩ := R
  have z := N (I, oI) (.head _)
  rw [List.cons_append, List.map_cons, List.nodup_cons] at nd
  refine ⟨LCg.fr_but F (fun b o hb e => hk b o (by simpa using hb) e) (Ne.symm z.2.1) z.2.2, fs, led, l, a, b, fun p hp => ?_, nd.2, fun p hp => off p (.tail _ hp)⟩
  have y := N p (.tail _ hp)
  refine ⟨hk _ _ (fun q => ?_) y.1, y.2⟩
  rw [← List.append_assoc] at hp
  rcases List.mem_append.mp hp with hp | hp
  · exact nd.1 (List.mem_map.mpr ⟨p, hp, q⟩)
  · exact off (I, oI) (.head _) (q ▸ b p hp)
theorem Rl.exPush (K : FxOK c mean mg mb f) (R : Rl c f m ex ρ H h) (ob : Obj) (hf : ob.isFreed = false := by rfl) : Rl c f m ((h.objs.size, ob) :: ex) ρ H (h.push ob) := by
  obtain ⟨F, fs, led, l, a, b, N, nd, off⟩ := R
  have N' := News.push F N ob hf
  have lt : ∀ p ∈ ex ++ (led ++ fs), p.1 < h.objs.size := fun p hp => Heap.lt_size (N p hp).1
  have nof : h.objs.size ∉ frs f.outer := fun hm => by
    obtain ⟨o', ho', _⟩ := (K.frames.mem hm).2
    obtain ⟨sl, q⟩ := a _ _ hm ho'
    exact Nat.lt_irrefl _ (lt _ (List.mem_append_right _ (List.mem_append_right _ q)))
  refine ⟨F.push ob, fs, led, l, a, b, N', ?_, fun p hp => ?_⟩
  · rw [List.cons_append, List.map_cons, List.nodup_cons]
    refine ⟨fun hm => ?_, nd⟩
    obtain ⟨p, hp, e⟩ := List.mem_map.mp hm
    refine absurd (lt p ?_) (by rw [e]; exact Nat.lt_irrefl _)
    rcases List.mem_append.mp hp with hp | hp
    · exact List.mem_append_left _ hp
    · exact List.mem_append_right _ (List.mem_append_left _ hp)
  · rcases List.mem_cons.mp hp with rfl | hp
    · exact nof
    · exact off p hp
/-- a mini object with nothing real behind it -/
theorem Rl.phantom (R : Rl c f m ex ρ H h) (x : Addr) : Rl c f m ex (ρ ++ [x]) (H ++ [O.stamp]) h := by
  obtain ⟨F, fs, led, l, a, b, N, nd, off⟩ := R
  refine ⟨F, fs, led, ?_, a, b, N, nd, off⟩
  have := (l.up (List.prefix_append _ [x])).snoc (RO.stamp (c := c) (ρ := ρ ++ [x]) (a := x))
  rwa [List.append_nil] at this
theorem dec_enc (v : V) : V.dec v.enc = v := by
  cases v with
  | bool b => cases b <;> rfl
  | bi b => cases b <;> rfl
  | _ => rfl
theorem eqb_eq {x y : V} (h : eqb x y = true) : x = y := by
  obtain ⟨h, h3⟩ := and_inv h
  obtain ⟨h1, h2⟩ := and_inv h
  have e : x.enc = y.enc := Prod.ext (Nat.eq_of_beq_eq_true h1) (Prod.ext (Nat.eq_of_beq_eq_true h2) (of_decide_eq_true h3))
  rw [← dec_enc x, e, dec_enc]
theorem eqb_self (x : V) : eqb x x = true := by
  show (Nat.beq x.enc.1 x.enc.1 && Nat.beq x.enc.2.1 x.enc.2.1 && decide (x.enc.2.2 = x.enc.2.2)) = true
  rw [Nat.beq_refl, Nat.beq_refl, decide_eq_true rfl]; rfl
theorem eqbs_self {xs : List V} : eqbs xs xs = true := by
  induction xs with
  | nil => rfl
  | cons x xs ih =>
    show (eqb x x && eqbs xs xs) = true
    rw [eqb_self, ih]; rfl
theorem eqbs_eq {xs : List V} : ∀ {ys : List V}, eqbs xs ys = true → xs = ys := by
  induction xs with
  | nil => intro ys h; exact (List.isEmpty_iff.mp h).symm
  | cons x xs ih =>
    intro ys h
    cases ys with
    | nil => cases h
    | cons y ys =>
      obtain ⟨h1, h2⟩ := and_inv h
      rw [eqb_eq h1, ih h2]
theorem intsF_len {k : Nat} {n : Nat} : ∀ {a : Int}, (intsF k a n).length = n := by
  induction n with
  | zero => intro a; rfl
  | succ n ih => intro a; exact congrArg Nat.succ ih
theorem intsF_get {k : Nat} {n : Nat} : ∀ {i : Nat} {a : Int} {v : V}, (intsF k a n)[i]? = some v → v = .int k (a + i) ∧ i < n := by
  induction n with
  | zero => intro i a v h; cases h
  | succ n ih =>
    intro i a v h
    cases i with
    | zero => cases h; exact ⟨by rw [Int.natCast_zero, Int.add_zero], Nat.succ_pos n⟩
    | succ i =>
      obtain ⟨rfl, hi⟩ := ih (a := a + 1) h
      exact ⟨by congr 1; omega, Nat.succ_lt_succ hi⟩
/-- an iterator at its i-th item -/
inductive ItAt (c : Cx) (ρ : List Addr) : V → Option (Option Nat) → List V → Nat → Obj → Prop
  | list {a : Nat} {ad : Addr} {vs : List V} {i : Nat} {oI : Obj} : ρ[a]? = some ad → oI.cls = .type "list_iterator" → oI.data = .fields #[.ref ad, .int i 0] → vs.length ≤ 1000 → ItAt c ρ (.ref a) (some none) vs i oI
  | range {a k n i : Nat} {x : Int} : n ≤ 1000 → ItAt c ρ (.ref a) none (intsF k x n) i { cls := .type "range_iterator", dict := none, data := .fields #[rawInt (c.val k + x + i), rawInt (n - i), rawInt 1], slots := #[] }
  | dict {a k : Nat} {ad ep : Addr} {vs : List V} {i : Nat} {oI : Obj} : ρ[a]? = some ad → ρ[k]? = some ep → oI.cls = .type "dict_keyiterator" → oI.data = .fields #[.ref ad, .int i 0, .int vs.length 0, .int ep 0] → ItAt c ρ (.ref a) (some (some k)) vs i oI
theorem ItAt.up {ρ' : List Addr} (hp : ρ <+: ρ') {x : V} {st : Option (Option Nat)} {vs : List V} {i : Nat} (r : ItAt c ρ x st vs i oI) : ItAt c ρ' x st vs i oI := by
  have g : ∀ {k : Nat} {a : Addr}, ρ[k]? = some a → ρ'[k]? = some a := fun {k a} e => by
    obtain ⟨t, rfl⟩ := hp
    rw [List.getElem?_append_left (List.getElem?_eq_some_iff.mp e).1]; exact e
  cases r with
  | list e a b d => exact .list (g e) a b d
  | range e => exact .range e
  | dict e e' a b => exact .dict (g e) (g e') a b
theorem dict_stamp (R : Rl c f m ex ρ H h) {k j : Nat} {es : List (Nat × V)} (hk : H[k]? = some (.dict (some j) es)) {a : Addr} (ha : ρ[k]? = some a) : ∃ kvs ep, h.DictAt (PySem.strKind prg c.w) a kvs ep ∧ REs c.val ρ es kvs ∧ (a == sysModules) = false ∧ ρ[j]? = some ep := by
  obtain ⟨a', es', pre, post, e1, x, N, -⟩ := R.at hk
  rw [ha] at e1; cases e1
  cases x with
  | @dict _ _ _ _ o d r lo s =>
    obtain ⟨ep, l, e1, e2⟩ := s j rfl
    obtain ⟨des, ep', q1, q2, q3⟩ := d
    rw [e2] at q2
    cases q2
    exact ⟨_, _, ⟨o, _, (N (a, _) (List.mem_append_right _ (List.mem_append_left _ (.head _)))).1, q1, e2, q3⟩, r, lo, e1⟩
theorem still_inv {a : Nat} {st : Option Nat} {vs : List V} (h : still (.ref a) (some st) vs H = true) : ∃ o, H[a]? = some o ∧ stillO st vs o = true := by
  have h : (match H[a]? with
    | some o => stillO st vs o
    | none => false) = true := h
  cases e : H[a]? with
  | none => rw [e] at h; cases h
  | some o => rw [e] at h; exact ⟨o, rfl, h⟩
theorem still_list {a : Nat} {vs : List V} (h : still (.ref a) (some none) vs H = true) : H[a]? = some (.list vs) := by
  obtain ⟨o, e, h⟩ := still_inv h
  cases o with
  | list xs => rw [e, eqbs_eq (show eqbs xs vs = true from h)]
  | _ => cases h
theorem still_dict {a k : Nat} {vs : List V} (h : still (.ref a) (some (some k)) vs H = true) : ∃ es, H[a]? = some (.dict (some k) es) ∧ vs = keysV es := by
  obtain ⟨o, e, h⟩ := still_inv h
  cases o with
  | dict j es =>
    cases j with
    | none => cases h
    | some j =>
      obtain ⟨h1, h2⟩ := and_inv (show (Nat.beq k j && eqbs (keysV es) vs) = true from h)
      rw [Nat.eq_of_beq_eq_true h1]
      exact ⟨es, e, (eqbs_eq h2).symm⟩
  | _ => cases h
theorem key_at {es : List (Nat × V)} {kvs : List (PySem.Str × Value)} (r : REs c.val ρ es kvs) : ∀ {i : Nat} {v : V}, (keysV es)[i]? = some v → ∃ k x, k < tb.length ∧ v = .str k ∧ kvs[i]? = some (nm k, x) := by
  induction r with
  | nil => intro i v h; cases h
  | @cons k u x es xs hk rv _ ih =>
    intro i v h
    cases i with
    | zero => cases h; exact ⟨k, x, hk, rfl, rfl⟩
    | succ i => exact ih h
theorem keysV_len {es : List (Nat × V)} : (keysV es).length = es.length := List.length_map _
theorem iter_item {Q : Option Value → Shared → Prop} {E : Value → Shared → Prop} (R : Rl c f m ((I, oI) :: ex) ρ H h) {x : V} {st : Option (Option Nat)} {vs : List V} {i : Nat} {v : V} (it : ItAt c ρ x st vs i oI) (hs : still x st vs H = true) (hv : vs[i]? = some v)
    (q : ∀ y oI' h' tk', RV c.val ρ v y → ItAt c ρ x st vs (i + 1) oI' → Rl c f m ((I, oI') :: ex) ρ H h' → Q (some y) (f.st h' tk')) : wpAny (model prg c.w) A (pyNext (.ref I)) Q E (f.st h tk) := by
  have hI : h.get? I = some oI := by
    obtain ⟨F, fs, led, l, a, b, N, nd, off⟩ := R
    exact (N (I, oI) (.head _)).1
  cases it with
  | @list a ad _ _ _ e e1 e2 hz =>
    have hl := still_list hs
    obtain ⟨ys, il, r⟩ := list_at R hl e
    obtain ⟨y, hy, ry⟩ := r.get hv
    refine wpAny_pyNext_list_item (s := f.st h tk) (i := i) ⟨oI, hI, e1, e2⟩ il (by simpa using hy) fun h' hit hs' => ?_
    obtain ⟨o', g1, g2, g3⟩ := hit
    exact q y o' h' tk ry (.list e g2 g3 hz) (R.exBut (fun b o hb e => hs'.extBut b o hb e) g1)
  | @range a k n _ z hz =>
    obtain ⟨rfl, hi⟩ := intsF_get hv
    refine wpAny_pyNext_range_item (s := f.st h tk) (x := c.val k + z + i) (left := n - i) (step := 1) hI (by omega) fun h' hit hs' => ?_
    have e3 : (c.val k + z + i + 1 : Int) = c.val k + z + ((i + 1 : Nat) : Int) := by omega
    have e4 : ((n : Int) - i - 1) = (n : Int) - ((i + 1 : Nat) : Int) := by omega
    have hit' : h'.get? I = some _ := hit
    rw [e3, e4] at hit'
    exact q _ _ h' (tk + 1) (rv_i (by omega)) (.range hz) (R.exBut (fun b o hb e => hs'.extBut b o hb e) hit')
  | @dict a k ad ep _ _ _ e e' e1 e2 =>
    obtain ⟨es, hd, rfl⟩ := still_dict hs
    obtain ⟨kvs, ep', da, r, lo, q1⟩ := dict_stamp R hd e
    rw [e'] at q1; cases q1
    obtain ⟨j, z, hj, rfl, hx⟩ := key_at r hv
    have hlen : (keysV es).length = kvs.length := by rw [keysV_len, res_len r]
    rw [hlen] at e2
    refine wpAny_pyNext_dict_item (s := f.st h tk) (i := i) (knd := PySem.strKind prg c.w) ⟨oI, hI, e1, e2⟩ da hx fun key h' hk hit hs' => ?_
    obtain ⟨o', g1, g2, g3⟩ := hit
    obtain ⟨t, rfl⟩ := Value.isStrOf_shape hk
    exact q _ o' h' tk (.str j t hj) (.dict e e' g2 (by rw [hlen]; exact g3)) (R.exBut (fun b o hb e => hs'.extBut b o hb e) g1)
theorem iter_end (hh : A.handled = none) {Q : Option Value → Shared → Prop} {E : Value → Shared → Prop} (R : Rl c f m ((I, oI) :: ex) ρ H h) {x : V} {st : Option (Option Nat)} {vs : List V} (it : ItAt c ρ x st vs vs.length oI) (hs : still x st vs H = true)
    (q : ∀ h' tk', Rl c f m ex ρ H h' → (∀ b o, b ≠ I → h.get? b = some o → h'.get? b = some o) → Q none (f.st h' tk')) : wpAny (model prg c.w) A (pyNext (.ref I)) Q E (f.st h tk) := by
  have hI : h.get? I = some oI := by
    obtain ⟨F, fs, led, l, a, b, N, nd, off⟩ := R
    exact (N (I, oI) (.head _)).1
  have fin : ∀ h', Heap.ExtBut I h h' → Q none (f.st h' tk) := fun h' he => q h' tk (R.exDrop fun b o hb e => he b o hb e) fun b o hb e => he b o hb e
  generalize hi : vs.length = i at it
  cases it with
  | @list a ad _ _ _ e e1 e2 hz =>
    have hl := still_list hs
    obtain ⟨ys, il, r⟩ := list_at R hl e
    exact wpAny_pyNext_list_end (s := f.st h tk) (i := i) hh ⟨oI, hI, e1, e2⟩ il (by simp [r.length, hi]) fin
  | @range a k n _ z hz =>
    rw [intsF_len] at hi
    exact wpAny_pyNext_range_end (s := f.st h tk) hh hI (by omega) fin
  | @dict a k ad ep _ _ _ e e' e1 e2 =>
    obtain ⟨es, hd, rfl⟩ := still_dict hs
    obtain ⟨kvs, ep', da, r, lo, q1⟩ := dict_stamp R hd e
    rw [e'] at q1; cases q1
    have hlen : (keysV es).length = kvs.length := by rw [keysV_len, res_len r]
    rw [hlen] at e2 hi
    exact wpAny_pyNext_dict_end (s := f.st h tk) (i := i) (knd := PySem.strKind prg c.w) hh ⟨oI, hI, e1, e2⟩ da (by rw [List.getElem?_eq_none]; omega) fin
theorem rng_small {a b : Int} (ha : -3000000 ≤ a ∧ a ≤ 3000000) (hb : -3000000 ≤ b ∧ b ≤ 3000000) : Builtin.Range.small a b 1 = true := by
  unfold Builtin.Range.small
  rw [rangeSize_nat]
  simp only [Builtin.Range.rangeFitsLong, Bool.and_eq_true, Bool.or_eq_true, decide_eq_true_eq, beq_iff_eq]
  refine ⟨⟨⟨⟨?_, ?_⟩, ?_⟩, ?_⟩, .inr ?_⟩
  all_goals first | omega | (simp; omega)
theorem stillO_dict {k : Nat} {es : List (Nat × V)} : stillO (some k) (keysV es) (.dict (some k) es) = true := by
  show (Nat.beq k k && eqbs (keysV es) (keysV es)) = true
  rw [Nat.beq_refl, eqbs_self]; rfl
theorem still_of {a : Nat} {st : Option Nat} {vs : List V} {o : O} (e : H[a]? = some o) (h : stillO st vs o = true) : still (.ref a) (some st) vs H = true := by
  show (match H[a]? with
    | some o => stillO st vs o
    | none => false) = true
  rw [e]; exact h
theorem iter_start {Q : Value → Shared → Prop} {E : Value → Shared → Prop} (K : FxOK c mean mg mb f) (R : Rl c f m ex ρ H h) {x : V} {xv : Value} {Ψ : List V → Option (Option Nat) → Hp → Prop} (hS : srcOf x H Ψ) (rx : RV c.val ρ x xv)
    (q : ∀ vs st H' ρ' h' oI, Ψ vs st H' → ρ <+: ρ' → Rl c f m ((h.objs.size, oI) :: ex) ρ' H' h' → ItAt c ρ' x st vs 0 oI → still x st vs H' = true → Q (.ref h.objs.size) (f.st h' tk)) : wpAny (model prg c.w) A (pyIter xv) Q E (f.st h tk) := by
  obtain ⟨a, e0, hS⟩ := som_inv hS
  obtain ⟨o, e, hS⟩ := som_inv hS
  obtain ⟨ad, rfl, ha⟩ := rv_ref rx e0
  cases V.ref_inv e0
  cases o with
  | list xs =>
    obtain ⟨hz, hS⟩ := grd_inv (show grd (Nat.ble xs.length 1000) _ from hS)
    obtain ⟨ys, hl, r⟩ := list_at R e ha
    exact wpAny_pyIter_list (s := f.st h tk) hl (q xs (some none) H ρ _ _ hS pre_rfl (R.exPush K _) (.list ha rfl rfl (Nat.le_of_ble_eq_true hz)) (still_of e (show eqbs xs xs = true from eqbs_self)))
  | range k lo hi =>
    obtain ⟨hz, hS⟩ := grd_inv (show grd (small lo && small hi && decide (hi - lo ≤ 1000)) _ from hS)
    obtain ⟨hz, h3⟩ := and_inv hz
    obtain ⟨h1, h2⟩ := and_inv hz
    have s1 := small_iff.mp h1
    have s2 := small_iff.mp h2
    have s3 := of_decide_eq_true h3
    have vb := c.vb k
    obtain ⟨t, u, v, hr⟩ := range_at R e ha
    refine wpAny_pyIter_range (s := f.st h tk) hr (rng_small (by omega) (by omega)) ?_
    have e5 : Builtin.Range.rangeSize (c.val k + lo) (c.val k + hi) 1 = ((hi - lo).toNat : Int) := by rw [rangeSize_nat]; congr 2; omega
    rw [e5]
    refine q _ none H ρ _ { cls := .type "range_iterator", dict := none, data := .fields #[rawInt (c.val k + lo + (0 : Nat)), rawInt ((hi - lo).toNat - (0 : Nat)), rawInt 1], slots := #[] } hS pre_rfl ?_ (.range (by omega)) rfl
    rw [Int.natCast_zero, Int.add_zero, Int.sub_zero]
    exact R.exPush K { cls := .type "range_iterator", dict := none, data := .fields #[rawInt (c.val k + lo), rawInt (hi - lo).toNat, rawInt 1], slots := #[] }
  | dict st es =>
    obtain ⟨hz, hS⟩ := grd_inv (show grd (Nat.ble es.length 1000) _ from hS)
    cases st with
    | some j =>
      obtain ⟨kvs, ep, da, r, lo, q1⟩ := dict_stamp R e ha
      exact wpAny_pyIter_dict (s := f.st h tk) lo da (q _ (some (some j)) H ρ _ _ hS pre_rfl (R.exPush K _) (.dict ha q1 rfl (by rw [keysV_len, ← res_len r]; rfl)) (still_of e stillO_dict))
    | none =>
      have hS : fH ((H ++ [O.stamp]).set a (.dict (some H.length) es)) (Ψ (keysV es) (some (some H.length))) := hS
      rw [fH_eq] at hS
      obtain ⟨a', es', pre, post, e1, X, N, nd, ap, up⟩ := R.at e
      rw [ha] at e1; cases e1
      cases X with
      | @dict _ _ kvs _ o d r lo _ =>
        have d0 := d
        obtain ⟨des, ep, q1, q2, q3⟩ := d
        have R1 := R.phantom ep
        have hlt : a < H.length := (List.getElem?_eq_some_iff.mp e).1
        have e' : (H ++ [O.stamp])[a]? = some (.dict none es) := by rw [List.getElem?_append_left hlt]; exact e
        obtain ⟨a', es', pre', post', e1, X, N', nd', ap', up'⟩ := R1.at e'
        have ha' : (ρ ++ [ep])[a]? = some ad := by rw [List.getElem?_append_left (List.getElem?_eq_some_iff.mp ha).1]; exact ha
        rw [ha'] at e1; cases e1
        cases X with
        | @dict _ _ kvs' _ o' d' r' lo' _ =>
          have eo : o' = o := by
            have g1 := (N (ad, o) (List.mem_append_right _ (List.mem_append_left _ (.head _)))).1
            have g2 := (N' (ad, o') (List.mem_append_right _ (List.mem_append_left _ (.head _)))).1
            rw [g1] at g2; exact (Option.some.inj g2).symm
          subst eo
          have hst : (ρ ++ [ep])[H.length]? = some ep := by rw [← R.len, List.getElem?_append_right (Nat.le_refl _), Nat.sub_self]; rfl
          have R2 := up' m h (.dict (some H.length) es) [(ad, o')] (.dict d0 (r.up (List.prefix_append _ _)) lo fun k z => by cases z; exact ⟨ep, des, hst, q2⟩) rfl R1.F N'
          have da : h.DictAt (PySem.strKind prg c.w) ad kvs ep := ⟨o', des, (N' (ad, o') (List.mem_append_right _ (List.mem_append_left _ (.head _)))).1, q1, q2, q3⟩
          refine wpAny_pyIter_dict (s := f.st h tk) lo da (q _ (some (some H.length)) _ (ρ ++ [ep]) _ _ hS (List.prefix_append _ _) (R2.exPush K _) (.dict ha' hst rfl (by rw [keysV_len, ← res_len r]; rfl)) (still_of ?_ stillO_dict))
          rw [List.getElem?_set_self (by rw [List.length_append]; exact Nat.lt_of_lt_of_le hlt (Nat.le_add_right _ _))]
  | _ => exact hS.elim
end
end N
end Mine
end
section
open PySem PySem.W PyProof.Rows PySem.Calls
set_option Elab.async false
set_option maxRecDepth 100000
set_option maxHeartbeats 1000000
namespace Mine
namespace N
section
variable {n : Nat} {f : Fx} {m : PySem.Str → Option Value} {ex : List (Addr × Obj)} {ρ : List Addr} {H : Hp} {h h' : Heap} {tk : Nat} {me : ME} {env : Env}
theorem cell_ob (R : Rl c f m ex ρ H h) {k : Nat} {v : Option V} (hk : H[k]? = some (.cell v)) {a : Addr} (ha : ρ[k]? = some a) : ∃ x, h.IsCell a x ∧ ∀ h' w y, RV c.val ρ w y → h'.IsCell a (some y) → Heap.SameBut a h h' → Rl c f m ex ρ (H.set k (.cell (some w))) h' := by
  obtain ⟨a', es, pre, post, e1, X, N, nd, ap, up⟩ := R.at hk
  rw [ha] at e1; cases e1
  cases X with
  | @cell _ x _ o d r =>
    have z := N (a, o) (List.mem_append_right _ (List.mem_append_left _ (.head _)))
    obtain ⟨a1, a2⟩ := ap (a, o) (.head _)
    refine ⟨x, ⟨o, z.1, d⟩, fun h' w y rw' hc hs => ?_⟩
    obtain ⟨o', ho', hd'⟩ := hc
    exact up m h' (.cell (some w)) [(a, o')] (.cell hd' (.some rw')) rfl (R.F.change hs z.2.1 z.2.2) (news_set N a1 a2 hs ho')
theorem EnvOK.put (EK : EnvOK f c me env m ex ρ) {m' m₂ : PySem.Str → Option Value} {ex' : List (Addr × Obj)} {x : Nat} {v : V} {y : Value} (hl : hasc x me.lc = true) (rv : RV c.val ρ v y)
    (hm : ∃ m₁, (env.locals = f.L ∧ m₁ = m ∨ ∃ oC, (env.locals, oC) ∈ ex ∧ LCg.NsObj oC m₁) ∧ (∀ x v, lookc x me.loc = some v → lookc x me.cl = none → x < tb.length ∧ env.kindOf (nm x) = some .local ∧ ∃ y, m₁ (nm x) = some y ∧ RV c.val ρ v y) ∧
      m₂ = (fun z => if z = nm x then some y else m₁ z) ∧ (env.locals = f.L ∧ m₂ = m' ∨ ∃ oC, (env.locals, oC) ∈ ex' ∧ LCg.NsObj oC m₂)) : EnvOK f c { me with loc := putc x v me.loc } env m' ex' ρ := by
  obtain ⟨m₁, -, h2, h3, h4⟩ := hm
  refine ⟨EK.kind, EK.gl, EK.bi, ⟨m₂, h4, fun x' v' e e' => ?_⟩, EK.cl, EK.gs, EK.ls⟩
  rw [lookc_putc] at e
  obtain ⟨hx, hk⟩ := EK.ls x hl
  by_cases q : x' = x
  · subst q
    rw [if_pos rfl] at e; cases e
    exact ⟨hx, hk, y, by rw [h3]; exact if_pos rfl, rv⟩
  · rw [if_neg q] at e
    obtain ⟨g1, g2, y', g3, g4⟩ := h2 x' v' e e'
    exact ⟨g1, g2, y', by rw [h3]; show (if nm x' = nm x then _ else _) = _; rw [if_neg fun z => q (nm_inj g1 hx z)]; exact g3, g4⟩
/-- where names are bound, and what stays the while -/
noncomputable abbrev Shape := (PySem.Str → Option Value) → List (Addr × Obj) → List (Addr × Obj) → Prop
noncomputable def Bd (f : Fx) (env : Env) (J : Shape) : Prop :=
  ∀ {m : PySem.Str → Option Value} {ex exE : List (Addr × Obj)} {ρ : List Addr} {H : Hp} {h : Heap} {tk : Nat} {me : ME} {x : Nat} {v : V} {y : Value} {Φ : ME → Hp → Prop} {Q : Unit → Shared → Prop},
    J m ex exE → Rl c f m ex ρ H h → EnvOK f c me env m exE ρ → bindN me x v H Φ → RV c.val ρ v y → (∀ me' H' m' ex' exE' h' tk', Φ me' H' → J m' ex' exE' → Rl c f m' ex' ρ H' h' → EnvOK f c me' env m' exE' ρ → Q () (f.st h' tk')) →
    wpAny (model prg c.w) f.A (storeName env (nm x) y) Q (fun _ _ => False) (f.st h tk)
/-- the cell of a captured name is written -/
theorem bind_cellN (R : Rl c f m ex ρ H h) {exE : List (Addr × Obj)} (EK : EnvOK f c me env m exE ρ) {x k : Nat} {v : V} {y : Value} {Φ : Hp → Prop} {Q : Unit → Shared → Prop} (e : lookc x me.cl = some k) (hB : som (H[k]?.bind O.cell?) fun _ => seto k (.cell (some v)) H Φ) (rv : RV c.val ρ v y)
    (q : ∀ H' h', Φ H' → Rl c f m ex ρ H' h' → Q () (f.st h' tk)) : wpAny (model prg c.w) f.A (storeName env (nm x) y) Q (fun _ _ => False) (f.st h tk) := by
  obtain ⟨hx, hk, a, ha, hc⟩ := EK.cl x k e
  obtain ⟨v0, hv0, hB⟩ := som_inv hB
  obtain ⟨o, hv0, e1⟩ := at_inv hv0
  cases O.cell_inv e1
  obtain ⟨x0, hcell, up⟩ := cell_ob R hv0 ha
  unfold seto at hB
  rw [fH_eq] at hB
  exact wpAny_storeName_cell (s := f.st h tk) EK.kind hk hc hcell fun h' hc' hs => q _ h' hB (up h' v y rv hc' hs)
/-- a def's own names: what lies beside stays -/
noncomputable abbrev JF (ex : List (Addr × Obj)) : Shape := fun _ ex' exE => ex' = ex ∧ exE = []
theorem bd_fun (K : FxOK c mean mg mb f) : Bd f f.env (JF ex) := by
  rintro m _ _ ρ H h tk me x v y Φ Q ⟨rfl, rfl⟩ R EK hB rv q
  unfold bindN at hB
  cases e : lookc x me.cl with
  | some k =>
    rw [e] at hB
    exact bind_cellN R EK e hB rv fun H' h' hΦ R' => q _ _ m _ _ h' tk hΦ ⟨rfl, rfl⟩ R' EK
  | none =>
    rw [e] at hB
    obtain ⟨hl, hB⟩ := grd_inv hB
    obtain ⟨hx, hk⟩ := EK.ls x hl
    have hL : f.env.locals = f.L := K.loc
    refine wpAny_storeName_local (s := f.st h tk) hk (by rw [hL]; exact R.F.ns) (fun h' hn hs => ?_) (by rw [K.kind]; rfl)
    rw [hL] at hn hs
    have hL0 : f.gz.get? f.L = none := Heap.get?_none_of_le R.F.above
    refine q _ H _ _ _ h' _ hB ⟨rfl, rfl⟩ (R.fr ⟨hn, fun b o e => hs.extBut b o (fun z => by rw [z, hL0] at e; cases e) (R.F.keep b o e), R.F.above⟩ fun l N p hp => ⟨hs.extBut _ _ (N p hp).2.1 (N p hp).1, (N p hp).2⟩) ?_
    obtain ⟨m₁, h1, h2⟩ := EK.loc
    have hm2 : m₁ = m := by
      rcases h1 with h1 | ⟨oC, hC, hn'⟩
      · exact h1.2
      · cases hC
    subst hm2
    exact EK.put hl rv ⟨m₁, h1, h2, rfl, .inl ⟨hL, rfl⟩⟩
inductive Tgts (P : (Value → Sem Unit) → Nat → Prop) : List (Value → Sem Unit) → List Nat → Prop
  | nil : Tgts P [] []
  | cons {t : Value → Sem Unit} {x : Nat} {ts : List (Value → Sem Unit)} {xs : List Nat} : P t x → Tgts P ts xs → Tgts P (t :: ts) (x :: xs)
noncomputable def IsTgt (env : Env) (t : Value → Sem Unit) (x : Nat) : Prop := ∃ p, t = assign (.Name (nm x) p) env
theorem nmc_all (e : PySem.Expr) : (match nmc? e with
    | some k => ∃ s p, e = .Name s p ∧ inT s = true ∧ cod s = k
    | Option.none => True) := by
  cases e with
  | Name s p =>
    show (match (if inT s = true then some (cod s) else none) with
      | some k => ∃ s' p', PySem.Expr.Name s p = .Name s' p' ∧ inT s' = true ∧ cod s' = k
      | Option.none => True)
    by_cases hs : inT s = true
    · rw [if_pos hs]; exact ⟨s, p, rfl, hs, rfl⟩
    · rw [if_neg hs]; trivial
  | _ => exact trivial
theorem nmc_inv {e : PySem.Expr} {k : Nat} (h : nmc? e = some k) : ∃ s p, e = .Name s p ∧ inT s = true ∧ cod s = k := by
  have := nmc_all e
  rw [h] at this; exact this
theorem names_cons {e : PySem.Expr} {r : List PySem.Expr} {cs : List Nat} (h : names? (e :: r) = some cs) : ∃ s p cs', e = .Name s p ∧ inT s = true ∧ cs = cod s :: cs' ∧ names? r = some cs' := by
  obtain ⟨k, e1, h1⟩ := Option.bind_eq_some_iff.mp (show (nmc? e).bind _ = some cs from h)
  obtain ⟨cs', e2, rfl⟩ := Option.map_eq_some_iff.mp h1
  obtain ⟨s, p, rfl, hs, rfl⟩ := nmc_inv e1
  exact ⟨s, p, cs', rfl, hs, rfl, e2⟩
theorem assignEach_names {xs : List PySem.Expr} : ∀ {cs : List Nat}, names? xs = some cs → (assignEach xs env).findIdx? (·.1) = none ∧ (assignEach xs env).length = cs.length ∧ Tgts (IsTgt env) ((assignEach xs env).map (·.2)) cs := by
  induction xs with
  | nil => intro cs hn; cases hn; exact ⟨rfl, rfl, .nil⟩
  | cons e r ih =>
    intro cs hn
    obtain ⟨s, p, cs', rfl, hs, rfl, e'⟩ := names_cons hn
    obtain ⟨i1, i2, i3⟩ := ih e'
    refine ⟨?_, congrArg Nat.succ i2, .cons ⟨p, by rw [(nm_cod hs).1]⟩ i3⟩
    show List.findIdx? _ ((false, assign (.Name s p) env) :: assignEach r env) = none
    rw [List.findIdx?_cons, i1]
    rfl
theorem binds {J : Shape} (B : Bd f env J) {cs : List Nat} {ts : List (Value → Sem Unit)} (T : Tgts (IsTgt env) ts cs) : ∀ {me : ME} {m : PySem.Str → Option Value} {ex exE : List (Addr × Obj)} {H : Hp} {h : Heap} {tk : Nat} {vs : List V} {ys : List Value} {Φ : ME → Hp → Prop} {Q : Unit → Shared → Prop},
    J m ex exE → Rl c f m ex ρ H h → EnvOK f c me env m exE ρ → bindNs me cs vs H Φ → RVs c.val ρ vs ys → (∀ me' H' m' ex' exE' h' tk', Φ me' H' → J m' ex' exE' → Rl c f m' ex' ρ H' h' → EnvOK f c me' env m' exE' ρ → Q () (f.st h' tk')) →
    wpAny (model prg c.w) f.A (assignInOrder ts ys) Q (fun _ _ => False) (f.st h tk) := by
  induction T with
  | nil =>
    intro me m ex exE H h tk vs ys Φ Q j R EK hB rs q
    obtain ⟨h1, hB⟩ := grd_inv hB
    cases List.isEmpty_iff.mp h1
    cases rs
    exact wpAny_pure (q _ _ _ _ _ _ _ hB j R EK)
  | cons t ts ih =>
    intro me m ex exE H h tk vs ys Φ Q j R EK hB rs q
    obtain ⟨v, e, hB⟩ := som_inv hB
    cases rs with
    | nil => cases e
    | cons r rs =>
      cases e
      obtain ⟨p, rfl⟩ := t
      exact wpAny_bind (wpAny_holding (wpAny_assign_Name (B j R EK hB r fun me' H' m' ex' exE' h' tk' hΦ j' R' EK' => ih j' R' EK' hΦ rs q)))
/-- a target is bound -/
theorem target {J : Shape} (B : Bd f env J) {exE : List (Addr × Obj)} (j : J m ex exE) (R : Rl c f m ex ρ H h) (EK : EnvOK f c me env m exE ρ) {t : PySem.Expr} {v : V} {y : Value} {Φ : ME → Hp → Prop} {Q : Unit → Shared → Prop}
    (hB : bindX me (tgs t) v H Φ) (rv : RV c.val ρ v y) (q : ∀ me' H' m' ex' exE' h' tk', Φ me' H' → J m' ex' exE' → Rl c f m' ex' ρ H' h' → EnvOK f c me' env m' exE' ρ → Q () (f.st h' tk')) : wpAny (model prg c.w) f.A (assign t env y) Q (fun _ _ => False) (f.st h tk) := by
  cases t with
  | Name s p =>
    have hB : bindX me (if inT s = true then [cod s] else []) v H Φ := hB
    by_cases hs : inT s = true
    · rw [if_pos hs] at hB
      have := B (tk := tk) j R EK (show bindN me (cod s) v H Φ from hB) rv q
      rw [(nm_cod hs).1] at this
      exact wpAny_assign_Name this
    · rw [if_neg hs] at hB
      exact hB.elim
  | Tuple es k p =>
    have hB : bindX me (((names? es).filter fun cs => decide (2 ≤ cs.length)).getD []) v H Φ := hB
    cases hn : names? es with
    | none => rw [hn] at hB; exact hB.elim
    | some cs =>
      rw [hn] at hB
      rcases cs with _ | ⟨x, _ | ⟨y', ys'⟩⟩
      · exact hB.elim
      · exact hB.elim
      · obtain ⟨us, e, hB⟩ := som_inv (show som (tupsOf H v) _ from hB)
        obtain ⟨hl, hB⟩ := grd_inv hB
        obtain ⟨o, e1, e2⟩ := Option.bind_eq_some_iff.mp e
        obtain ⟨a, ad, _, rfl, ha, ea⟩ := ob_at rv e1
        cases O.tup_inv e2
        obtain ⟨zs, hT, rr⟩ := tup_at R ea ha
        obtain ⟨i1, i2, i3⟩ := assignEach_names (env := env) hn
        refine assign_Tuple_tuple (s := f.st h tk) rfl hT (by rw [i2, List.size_toArray, rr.length]; exact Nat.eq_of_beq_eq_true hl) i1 fun h' he => ?_
        rw [List.toList_toArray]
        exact binds B i3 j (R.fr (R.F.extBut he (Nat.le_refl _)) fun l N => N.extBut he (Nat.le_refl _)) EK hB rr q
  | _ => exact (show False from hB).elim
theorem swapped_none {ts : List PySem.Expr} : ∀ {cs : List Nat} {line : Nat} {x : Nat}, names? ts = some cs → x ∈ cs → env.kindOf (nm x) = some .cell →
    (ts.filterMap fun e => match e with | .Name id pos => if env.kindOf id == some .local && pos.line == line then some id else none | _ => none).length < ts.length := by
  induction ts with
  | nil => intro cs line x hn hx; cases hn; cases hx
  | cons e r ih =>
    intro cs line x hn hx hk
    obtain ⟨s, p, cs', rfl, hs, rfl, e'⟩ := names_cons hn
    rcases List.mem_cons.mp hx with rfl | hx
    · rw [(nm_cod hs).1] at hk
      rw [List.filterMap_cons_none (by simp [hk])]
      exact Nat.lt_succ_of_le (List.length_filterMap_le ..)
    · have := ih (line := line) e' hx hk
      rw [List.filterMap_cons]
      split
      · exact Nat.lt_succ_of_lt this
      · exact Nat.succ_lt_succ this
theorem swap_not {Φ : V → Hp → Prop} {v : PySem.Expr} {t : Option PySem.Expr} {line : Nat} (h : isLC v = false) (hE : (run orc n).E me (cE v) H Φ) : swapsWith v t line env = pure false := by
  cases v <;> first | rfl | (cases h; done) | (cases n <;> exact hE.elim)
end
end N
end Mine
end
section
open PySem PySem.W PyProof.Rows PySem.Calls
set_option Elab.async false
set_option maxRecDepth 100000
set_option maxHeartbeats 1000000
namespace Mine
namespace N
section
variable {n : Nat} {f : Fx} {m : PySem.Str → Option Value} {ex : List (Addr × Obj)} {ρ : List Addr} {H : Hp} {h h' : Heap} {tk : Nat} {me : ME} {env : Env}
theorem tuple_go {A : Around} {E : Value → Shared → Prop} {Q : Unit → Shared → Prop} {s : Shared} {t : PySem.Expr} {y : Value} {x : V} {st : Option (Option Nat)} {vs : List V} {i : Nat} {I : Addr} {oI : Obj} (it : ItAt c ρ x st vs i oI) (hI : s.heap.get? I = some oI) (q : Q () s) :
    wpAny (model prg c.w) A (letOwnedTupleGo t (.ref I) y) Q E s := by
  have key : wpAny (model prg c.w) A (do
      let (.ref r, .ref a) := (Value.ref I, y) | return
      let o ← load r
      match o.cls, o.data with
      | .type n, .fields vs =>
        if ["enumerate", "zip", "dict_itemiterator", "dict_reverseitemiterator", "odict_iterator", "itertools.zip_longest", "itertools.pairwise"].contains n && vs[0]? == some (rawInt a) then
          rule "for.unpacks-the-owned-tuple"
          updateField r 0 .none
      | _, _ => pure () : Sem Unit) Q E s := by
    cases y with
    | ref a =>
      refine wpAny_bind (wpAny_load hI ?_)
      cases it with
      | list e e1 e2 _ => rw [e1, e2]; exact wpAny_pure q
      | range => exact wpAny_pure q
      | dict e e' e1 e2 => rw [e1, e2]; exact wpAny_pure q
    | _ => exact wpAny_pure q
  cases t <;> first | exact wpAny_pure q | exact key
theorem Rl.head (R : Rl c f m ((I, oI) :: ex) ρ H h) : h.get? I = some oI := by
  obtain ⟨F, fs, led, l, a, b, N, nd, off⟩ := R
  exact (N (_, _) (.head _)).1
theorem fold_iter {Φ : V → Hp → Prop} {e : PySem.Expr} (hE : (run orc n).E me (cE e) H Φ) : ∀ x, foldedSetIterable e env x = pure x := by
  intro x
  cases e <;> first | rfl | (cases n <;> exact hE.elim)
theorem EnvOK.re (K : FxOK c mean mg mb f) (R : Rl c f m ex ρ H h) (EK : EnvOK f c me f.env m ex ρ) (ex' : List (Addr × Obj)) : EnvOK f c me f.env m ex' ρ := by
  refine ⟨EK.kind, EK.gl, EK.bi, ?_, EK.cl, EK.gs, EK.ls⟩
  obtain ⟨m₁, h1, h2⟩ := EK.loc
  have hL : f.env.locals = f.L := K.loc
  rcases h1 with h1 | ⟨oC, hC, hn'⟩
  · exact ⟨m₁, .inl h1, h2⟩
  · exfalso
    obtain ⟨_, fs, led, _, _, _, N, _⟩ := R
    exact (N _ (List.mem_append_left _ hC)).2.1 hL
theorem noE {α : Type} {A : Around} {mm : Sem α} {Q : α → Shared → Prop} {E : Value → Shared → Prop} {s : Shared} (h : wpAny (model prg c.w) A mm Q (fun _ _ => False) s) : wpAny (model prg c.w) A mm Q E s := wpAny_mono h (fun _ _ x => x) fun _ _ x => x.elim
theorem EnvOK.re2 {ρ' : List Addr} {exE : List (Addr × Obj)} {m' : PySem.Str → Option Value} (EK : EnvOK f c me f.env m' [] ρ') : EnvOK f c me f.env m' exE ρ' := by
  refine ⟨EK.kind, EK.gl, EK.bi, ?_, EK.cl, EK.gs, EK.ls⟩
  obtain ⟨m₁, h1, h2⟩ := EK.loc
  rcases h1 with h1 | ⟨oC, hC, _⟩
  · exact ⟨m₁, .inl h1, h2⟩
  · cases hC
section
variable {α : Type}
/-- a loop at some turn: what the evaluator says of the rest, and how the heaps lie -/
inductive LI (f : Fx) (env : Env) (I : Addr) (J : List Addr → α → Shape) (ρ : List Addr) (src : V) (st : Option (Option Nat)) (all : List V) (Ev : α → List V → ME → Hp → Prop) : Nat → Shared → Prop
  | mk {i tk : Nat} {oI : Obj} {a : α} {me : ME} {H : Hp} {m : PySem.Str → Option Value} {ex exE : List (Addr × Obj)} {ρ' : List Addr} {h : Heap} (hi : i ≤ all.length) (ev : Ev a (all.drop i) me H) (pre : ρ <+: ρ') (j : J ρ' a m ex exE) (R : Rl c f m ((I, oI) :: ex) ρ' H h)
    (EK : EnvOK f c me env m exE ρ') (it : ItAt c ρ' src st all i oI) (hs : still src st all H = true) : LI f env I J ρ src st all Ev (all.length - i) (f.st h tk)
theorem LI.turn {I : Addr} {J : List Addr → α → Shape} {src : V} {st : Option (Option Nat)} {all : List V} {Ev Nx : α → List V → ME → Hp → Prop} {k : Nat} {s : Shared} {t : PySem.Expr} {END BODY : Shared → Prop} {E : Value → Shared → Prop}
    (x : LI f env I J ρ src st all Ev k s) (B : ∀ ρ a oI, Bd f env fun m ex exE => ∃ ex', ex = (I, oI) :: ex' ∧ J ρ a m ex' exE) (hev : ∀ a v vs me H, Ev a (v :: vs) me H → bindX me (tgs t) v H (Nx a vs))
    (fin : ∀ a me H m ex exE ρ' h tk, Ev a [] me H → ρ <+: ρ' → J ρ' a m ex exE → Rl c f m ex ρ' H h → EnvOK f c me env m exE ρ' → END (f.st h tk))
    (body : ∀ a vs me H m ex exE ρ' oI h tk, Nx a vs me H → ρ <+: ρ' → J ρ' a m ex exE → Rl c f m ((I, oI) :: ex) ρ' H h → EnvOK f c me env m exE ρ' →
      (∀ {a' me' H' m' ex' exE' ρ2 h' tk'}, grd (still src st all H') (Ev a' vs me' H') → ρ' <+: ρ2 → J ρ2 a' m' ex' exE' → Rl c f m' ((I, oI) :: ex') ρ2 H' h' → EnvOK f c me' env m' exE' ρ2 → ∃ k', k' < k ∧ LI f env I J ρ src st all Ev k' (f.st h' tk')) → BODY (f.st h tk)) :
    wpAny (model prg c.w) f.A (pyNext (.ref I)) (fun r s₁ => match r with
      | none => END s₁
      | some v => wpAny (model prg c.w) f.A (letOwnedTupleGo t (.ref I) v) (fun _ s₂ => wpAny (model prg c.w) f.A (assign t env v) (fun _ s₃ => BODY s₃) E s₂) E s₁) E s := by
  cases x with
  | @mk i tk oI a me H m ex exE ρ' h hi ev pre j R EK it hs =>
    by_cases hlt : i < all.length
    · rw [List.drop_eq_getElem_cons hlt] at ev
      refine iter_item R it hs (List.getElem?_eq_getElem hlt) fun y oI' h' tk' ry it' R' => ?_
      refine tuple_go it' R'.head (noE (target (B ρ' a oI') ⟨ex, rfl, j⟩ R' EK (hev _ _ _ _ _ ev) ry ?_))
      rintro me' H' m' _ exE' h2 tk2 hΦ ⟨ex', rfl, j'⟩ R2 EK2
      refine body a _ me' H' m' ex' exE' ρ' oI' h2 tk2 hΦ pre j' R2 EK2 ?_
      intro a' me3 H3 m3 ex3 exE3 ρ3 h3 tk3 hE3 pre3 j3 R3 EK3
      obtain ⟨g1, g2⟩ := grd_inv hE3
      exact ⟨_, by omega, .mk hlt g2 (pre.trans pre3) j3 R3 EK3 (it'.up pre3) g1⟩
    · have hi' : i = all.length := Nat.le_antisymm hi (Nat.not_lt.mp hlt)
      subst hi'
      rw [List.drop_length] at ev
      exact iter_end rfl R it hs fun h' tk' R' hk => fin a me H m ex exE ρ' h' tk' ev pre j R' EK
end
theorem Rl.perm {ex' : List (Addr × Obj)} (R : Rl c f m ex ρ H h) (p : ex.Perm ex') : Rl c f m ex' ρ H h := by
  obtain ⟨F, fs, led, l, a, b, N, nd, off⟩ := R
  refine ⟨F, fs, led, l, a, b, fun q hq => N q ?_, ?_, fun q hq => off q ?_⟩
  · rcases List.mem_append.mp hq with hq | hq
    · exact List.mem_append_left _ (p.mem_iff.mpr hq)
    · exact List.mem_append_right _ hq
  · exact (((p.append_right led).map (·.1)).nodup_iff).mp nd
  · rcases List.mem_append.mp hq with hq | hq
    · exact List.mem_append_left _ (p.mem_iff.mpr hq)
    · exact List.mem_append_right _ hq
theorem RX.drop {I a : Addr} {oI : Obj} {w : Nat} (X : RX c f m ((I, oI) :: ex) ρ H h w a) : RX c f m ex ρ H h w a := by
  obtain ⟨oe, d, od, tr, R, X⟩ := X
  refine ⟨oe, d, od, tr, ?_, X⟩
  have p : ((a, oe) :: (d, od) :: (tr ++ (I, oI) :: ex)).Perm ((I, oI) :: (a, oe) :: (d, od) :: (tr ++ ex)) := by
    have : ((a, oe) :: (d, od) :: tr ++ (I, oI) :: ex).Perm ((I, oI) :: ((a, oe) :: (d, od) :: tr ++ ex)) := List.perm_middle
    exact this
  exact (R.perm p).exDrop fun b o _ e => e
theorem RX.envOK (K : FxOK c mean mg mb f) {w : Nat} {a : Addr} (X : RX c f m ex ρ H h w a) (EK : EnvOK f c me f.env m ex ρ) : EnvOK f c me f.env m [] ρ := by
  refine ⟨EK.kind, EK.gl, EK.bi, ?_, EK.cl, EK.gs, EK.ls⟩
  obtain ⟨m₁, h1, h2⟩ := EK.loc
  have hL : f.env.locals = f.L := K.loc
  rcases h1 with h1 | ⟨oC, hC, _⟩
  · exact ⟨m₁, .inl h1, h2⟩
  · obtain ⟨oe, d, od, tr, R, X⟩ := X
    obtain ⟨fs, led, _, _, _, N, _⟩ := R.N
    exact absurd hL (N _ (List.mem_append_left _ (.tail _ (.tail _ (List.mem_append_right _ hC))))).2.1
/-- an exception passes through a loop's code -/
theorem RX.loop (K : FxOK c mean mg mb f) {w : Nat} {a : Addr} {A : Around} {Θ : Fl → ME → Hp → Prop} {E : Value → Shared → Prop} {me' : ME} {ρ' : List Addr} (X : RX c f m ex ρ' H h w a) (hA : A.frames = some (f.env :: f.outer)) (P : XS c f ex ρ Θ E) (hΨ : Θ (.exc w) me' H) (pre : ρ <+: ρ') (EK : EnvOK f c me' f.env m ex ρ') :
    notedBy (model prg c.w) A f.env (fun e s' => cameBackBy (model prg c.w) A f.env E e s') (.ref a) (f.st h tk) := by
  refine X.note K hA fun h' oe d od tr R' X' ht => ?_
  have hx := X'.trk
  obtain ⟨vs, e, ⟨z, -⟩ | ⟨T, oT, ts, fl, rfl, e1, e2, e3, e4⟩⟩ := hx
  · exact absurd z ht
  have he : h'.get? a = some oe := R'.head
  refine wpAny_bind (wpAny_field (s := f.st h' tk) he e e1 ?_)
  show wpAny _ _ (setFlight (.ref a) f.env.frame) _ _ _
  refine RX.flight K R' X' ht fun h'' oe2 tr2 R2 X2 _ => ?_
  rw [K.frame] at X2
  exact P w a me' H m ρ' h'' tk hΨ pre ⟨oe2, d, od, tr2, R2, X2⟩ EK
theorem for_sound {ex : List (Addr × Obj)} (HS : SoundS c mean mg mb orc n) (K : FxOK c mean mg mb f) (hr : room f n) {t : PySem.Expr} {b : List Stmt} {src : V} {st : Option (Option Nat)} {all : List V} {I : Addr} {Θ : Fl → ME → Hp → Prop} {Q : Flow → Shared → Prop} {E : Value → Shared → Prop}
    (P : PS c f ex ρ Θ Q E) {oI : Obj} {ρ' : List Addr} (hE : forL (run orc n) (tgs t) (cSs b) src st all all me H Θ) (hp : ρ <+: ρ') (R : Rl c f m ((I, oI) :: ex) ρ' H h) (EK : EnvOK f c me f.env m [] ρ') (it : ItAt c ρ' src st all 0 oI) (hs : still src st all H = true) :
    codeAny (model prg c.w) f.A (.forLoop t (.ref I) b [] f.env) (fun r s' => match r with | .ok fl => Q fl s' | .error e => cameBackBy (model prg c.w) f.A f.env E e s') (f.st h tk) := by
  refine codeAny_forLoop_any (LI f f.env I (fun _ (_ : Unit) => JF ex) ρ src st all fun _ vs me H => forL (run orc n) (tgs t) (cSs b) src st all vs me H Θ) (fun k s x => x.turn (t := t)
    (Nx := fun _ vs me H => (run orc n).S me (cSs b) H fun fl me H => let k := grd (still src st all H) (forL (run orc n) (tgs t) (cSs b) src st all vs me H Θ)
      match fl with
      | .next => k
      | .cont => k
      | .ret u => Θ (.ret u) me H
      | .exc w => Θ (.exc w) me H) (fun ρ a oI => ?_) (fun a v vs me H h => h) ?_ ?_) all.length
    (.mk (i := 0) (a := ()) (Nat.zero_le _) hE hp ⟨rfl, rfl⟩ R EK it hs)
  · have B : Bd f f.env (JF ((I, oI) :: ex)) := bd_fun K
    rintro m _ exE ρ H h tk me x v y Φ Q ⟨_, rfl, rfl, rfl⟩ R EK hB rv q
    exact B ⟨rfl, rfl⟩ R EK hB rv fun me' H' m' ex' exE' h' tk' hΦ ⟨e1, e2⟩ => q me' H' m' ex' exE' h' tk' hΦ ⟨_, e1, rfl, e2⟩
  · rintro _ me H m _ _ ρ' h tk hE pre ⟨rfl, rfl⟩ R EK
    exact noE (wpAny_execs_nil (P.1 _ me H m ρ' h tk _ hE pre R EK.re2 .next))
  · rintro _ vs me H m _ _ ρ' oI h tk hN pre ⟨rfl, rfl⟩ R EK next
    refine HS f m _ ρ' H h tk me b _ _ _ K hN R EK.re2 hr ⟨?_, ?_⟩
    · intro fl me2 H2 m2 ρ2 h2 tk2 fr hΨ pre2 R2 EK2 rf
      cases rf with
      | next => exact next (a' := ()) hΨ pre2 ⟨rfl, rfl⟩ R2 (EK2.re K R2 [])
      | cont => exact next (a' := ()) hΨ pre2 ⟨rfl, rfl⟩ R2 (EK2.re K R2 [])
      | ret r => exact P.1 _ me2 H2 m2 ρ2 h2 tk2 _ hΨ (pre.trans pre2) (R2.exDrop fun b o _ e => e) ((EK2.re K R2 []).re2) (.ret r)
    · intro w a me2 H2 m2 ρ2 h2 tk2 hΨ pre2 X2 EK2
      exact RX.loop K X2.drop rfl P.2 hΨ (pre.trans pre2) (X2.envOK K EK2).re2
/-- a while loop at some turn -/
inductive WI (f : Fx) (ex : List (Addr × Obj)) (ρ : List Addr) (n : Nat) (t : PySem.Expr) (b : List Stmt) (Θ : Fl → ME → Hp → Prop) : Nat → Shared → Prop
  | mk {k tk : Nat} {me : ME} {H : Hp} {m : PySem.Str → Option Value} {ρ' : List Addr} {h : Heap} {Θ' : Fl → ME → Hp → Prop} (hk : k ≤ n) (hE : step1 (run orc k) me (.whl (cE t) (cSs b)) H Θ') (hΘ : ∀ fl me H, Θ' fl me H → Θ fl me H) (hp : ρ <+: ρ') (R : Rl c f m ex ρ' H h) (EK : EnvOK f c me f.env m ex ρ') : WI f ex ρ n t b Θ k (f.st h tk)
theorem while_sound (HT : ∀ k, k ≤ n → SoundT c mean mg mb orc k) (HS : ∀ k, k ≤ n → SoundS c mean mg mb orc k) (K : FxOK c mean mg mb f) (hr : room f n) {t : PySem.Expr} {b : List Stmt} {Θ : Fl → ME → Hp → Prop} {Q : Flow → Shared → Prop} {E : Value → Shared → Prop} (P : PS c f ex ρ Θ Q E)
    (hE : step1 (run orc n) me (.whl (cE t) (cSs b)) H Θ) (R : Rl c f m ex ρ H h) (EK : EnvOK f c me f.env m ex ρ) :
    codeAny (model prg c.w) f.A (.whileLoop t b [] f.env) (fun r s' => match r with | .ok fl => Q fl s' | .error e => cameBackBy (model prg c.w) f.A f.env E e s') (f.st h tk) := by
  refine codeAny_whileLoop (WI f ex ρ n t b Θ) ?_ n (.mk (Nat.le_refl _) hE (fun _ _ _ z => z) pre_rfl R EK)
  rintro k s ⟨hk, hE, hΘ, hp, R, EK⟩
  rename_i tk me H m ρ' h Θ'
  have hrk : room f k := by unfold room need at *; omega
  refine noE (HT k hk f m ex ρ' H h tk me f.env t _ _ K hE R EK hrk ?_)
  intro c' H' ρ2 h' tk' hc pre R'
  cases c' with
  | false => exact noE (wpAny_execs_nil (P.1 _ me H' m ρ2 h' tk' _ (hΘ _ _ _ hc) (hp.trans pre) R' (EK.up pre) .next))
  | true =>
    refine HS k hk f m ex ρ2 H' h' tk' me b _ _ _ K hc R' (EK.up pre) hrk ⟨?_, ?_⟩
    · intro fl me2 H2 m2 ρ3 h2 tk2 fr hΨ pre2 R2 EK2 rf
      have go : (run orc k).S me2 [.whl (cE t) (cSs b)] H2 Θ' → ∃ k', k' < k ∧ WI f ex ρ n t b Θ k' (f.st h2 tk2) := fun z => by
        cases k with
        | zero => exact z.elim
        | succ k =>
          refine ⟨k, Nat.lt_succ_self _, .mk (Nat.le_of_succ_le hk) (show stepS (run orc k) me2 [.whl (cE t) (cSs b)] H2 Θ' from z) (fun fl me H w => hΘ _ _ _ ?_) ((hp.trans pre).trans pre2) R2 EK2⟩
          cases fl with
          | next => cases k with
            | zero => exact w.elim
            | succ k => exact w
          | _ => exact w
      cases rf with
      | next => exact go hΨ
      | cont => exact go hΨ
      | ret r => exact P.1 _ me2 H2 m2 ρ3 h2 tk2 _ (hΘ _ _ _ hΨ) ((hp.trans pre).trans pre2) R2 EK2 (.ret r)
    · intro w a me2 H2 m2 ρ3 h2 tk2 hΨ pre2 X2 EK2
      exact RX.loop K X2 rfl P.2 (hΘ _ _ _ hΨ) ((hp.trans pre).trans pre2) EK2
end
end N
end Mine
end
section
open PySem PySem.W PyProof.Rows PySem.Calls
set_option Elab.async false
set_option maxRecDepth 100000
set_option maxHeartbeats 1000000
open PySem.Builtin.ObjectAttr PySem.Builtin
namespace Mine
section
variable {prog : Program} {w : World} {A : Around} {E : Value → Shared → Prop} {s : Shared} {K : Frag} {x C : Addr} {ox : Obj} {od : Option Obj} {name : PySem.Str} {expr : Bool} {Q : Value → Shared → Prop}
theorem exc_get {v : Value} (X : K.In s.heap) (I : InstAt s.heap x ox C od) (hga : findIn K (.ref C) "__getattribute__" = some (some (.builtin "BaseException.__getattribute__"))) (hgt : findIn K (.ref C) "__getattr__" = some none) (hm : mroIn K C (.type "BaseException") = some true)
    (hf : findObj K C od name = some (.value v)) (hh : handedIn v = true) (h : Q v { s with toks := s.toks + 1 }) : wpAny (model prog w) A (getAttr (.ref x) name expr) Q E s := by
  obtain ⟨hp, g, d, t, os⟩ := s
  have L0 := I.type (M := model prog w)
  have L1 := looks_findIn (M := model prog w) X hga
  have L2 := looks_findIn (M := model prog w) X hgt
  have L3 := looks_find (M := model prog w) X I hf
  have sub : Looks (model prog w) hp (isInstance (.ref x) (.type "BaseException")) true := I.type.andThen (looks_mroIn X hm)
  have hk : builtinKind "BaseException.__getattribute__" = some .slot := by decide +kernel
  have hs : splitId "BaseException.__getattribute__" = some ("BaseException", "__getattribute__") := by decide +kernel
  have hpl : plainId "BaseException.__getattribute__" = true := PySem.F.excAttr_ValueError.ga.plain
  have hx2 : (Value.builtin "BaseException.__getattribute__" == Value.builtin "object.__getattribute__") = false := by decide +kernel
  have hx0 : (expr && onTheHeap (Value.builtin "BaseException.__getattribute__")) = false := by cases expr <;> rfl
  have hbs : ∀ self, bindSpecial (.builtin "BaseException.__getattribute__") self = pure (.builtin "BaseException.__getattribute__", [self]) := PySem.F.excAttr_ValueError.ga.bind
  unfold getAttr getAttrBy
  refine wpAny_bind (wpAny_mkText (wpAny_holding (wpAny_bind (L0.at (wpAny_bind (L1.at ?_))))))
  dsimp only
  rw [if_neg (by rw [hx2, Bool.and_false]; decide)]
  unfold getAttrByItsOwn hookBefore callGetattribute boundAndCalled
  have h1 : onTheHeap (Value.ref C) = true := rfl
  rw [if_pos h1]
  refine wpAny_bind (L2.at ?_)
  rw [hx0, if_neg (by decide), hbs]
  refine wpAny_bind (wpAny_attempt (wpAny_holding (wpAny_bind (wpAny_pure ?_))))
  show wpAny _ _ (call (Value.builtin "BaseException.__getattribute__") [Value.ref x, Value.str name t]) _ _ _
  refine wpAny_call ?_
  refine codeAny_call_builtin hpl PySem.F.entry_bexc_ga (@check_slot (model prog w) _ _ ⟨hp, g, d, t + 1, os⟩ "BaseException.__getattribute__" "BaseException" "__getattribute__" (.ref x) [.str name t] [] _ hk hs sub (PySem.F.args_bexc_ga (.ref x) (.str name t)) ?_)
  refine wpAny_bind (wpAny_pure ?_)
  refine wpAny_bind (wpAny_pure (wpAny_bind (L0.at (wpAny_bind (L3.at ?_)))))
  refine wpAny_pure ?_
  show wpAny _ _ (handedOut v) _ _ _
  rw [handedOut_of hh]; exact wpAny_pure h
theorem exc_open {tk : Tok} {v : Value} {R : Result → Shared → Prop} {cd : ClassData} (X : K.In s.heap) (I : InstAt s.heap x ox C od) (hc : clsIn K C = some cd) (hr : refuseLoop (.ref x) "__setattr__" cd.mro = pure ()) (ho : mroIn K C (.type "object") = some true) (ht : findIn K (.ref C) name = some none)
    (h : wpAny (model prog w) A.in1 (storeInOwnDict (.ref x) (.ref C) (.str name tk) name v false)
      (fun fin s' => match fin with | .done f => R (.ok f) s' | .again c' => c'.quiet = true ∧ codeAny (model prog w) A c' R s') (fun e s' => R (.error e) s') s) :
    codeAny (model prog w) A (.call (.builtin "object.__setattr__") ⟨[.ref x, .str name tk, v], []⟩) R s := by
  have SF := PySem.F.store_object
  have sub : Looks (model prog w) s.heap (isInstance (.ref x) (.type "object")) true := I.type.andThen (looks_mroIn X ho)
  refine codeAny_call_builtin SF.slot.plain SF.entry (@check_slot (model prog w) _ _ s "object.__setattr__" "object" "__setattr__" (.ref x) [.str name tk, v] [] _ SF.kind SF.split sub (SF.args (.ref x) (.str name tk) v) ?_)
  have hm : Looks (model prog w) s.heap (mroOf (.ref C)) cd.mro := (looks_clsIn X hc).andThen .now
  rw [osa_eq, refuse_eq]
  refine wpAny_bind (wpAny_bind (I.type.here (wpAny_bind (hm.here ?_))))
  rw [hr]
  exact wpAny_pure (wpAny_bind (I.type.here (wpAny_bind ((looks_findIn X ht).here (wpAny_bind (wpAny_pure h))))))
end
section
variable {prog : Program} {w : World} {A : Around} {E : Value → Shared → Prop} {s : Shared} {K : Frag} {h₀ : Heap} {L x C dx : Addr} {m : PySem.Str → Option Value} {ox : Obj} {od : Option Obj} {name : PySem.Str} {v : Value} {pre post : List (Addr × Obj)} {es es' : List DictEntry} {n n' : Nat}
theorem store_in {tk : Tok} {Q : Fin → Shared → Prop} (F : Fr h₀ L s.heap m) (N : News h₀ L s.heap (pre ++ (dx, dictOf es n) :: post)) (h1 : ∀ p ∈ pre, p.1 ≠ dx) (h2 : ∀ p ∈ post, p.1 ≠ dx) (hl : (getL name es).isSome = true)
    (e : (putL name (PyData.keyHash w.params name) (.str name s.toks) v es, putN name es n) = (es', n')) (hz : es'.length ≤ 1000)
    (h : ∀ h', Fr h₀ L h' m → News h₀ L h' (pre ++ (dx, dictOf es' n') :: post) → Q (.done (.ret .none)) { s with heap := h', toks := s.toks + 1 }) :
    wpAny (model prog w) A (storeInDict dx (.str name tk) name v) Q E s := by
  obtain ⟨e1, e2⟩ := Prod.mk.inj e
  obtain ⟨U1, U2⟩ := news_upd (f := Obj.putName name (PyData.keyHash w.params name) (.str name s.toks) v) (o' := dictOf es' n') F N h1 h2 (by rw [putName_dict, e1, e2]) rfl
  have D := (N (dx, dictOf es n) (by simp)).1
  have D' := (U2 (dx, dictOf es' n') (by simp)).1
  refine wpAny_bind (wpAny_pure (wpAny_bind ?_))
  unfold nsSet
  refine wpAny_bind (wpAny_bind (wpAny_askSetting (wpAny_pure (wpAny_bind (wpAny_mkText (wpAny_bind (wpAny_loadPart D ?_)))))))
  dsimp only
  have c : (!es.toArray.any (·.key.isStr name) && es.toArray.any (·.refKey)) = false := by
    rw [← Array.any_toList, ← Array.any_toList]
    unfold getL at hl
    split at hl
    · rename_i en he
      rw [List.any_eq_true.mpr ⟨en, List.mem_of_find?_eq_some he, List.find?_some he⟩]; rfl
    · split at hl
      · cases hl
      · rename_i z
        rw [Bool.not_eq_true] at z
        show (_ && es.any (·.refKey)) = false
        rw [z, Bool.and_false]
  rw [aRefKeyMayBeTheName_at, c]
  refine wpAny_updatePart D ?_
  refine wpAny_bind (wpAny_lookBehind D' (pastItsLine_dict (by rw [List.size_toArray, sizeLine_eq]; omega)) ?_)
  exact wpAny_pure (h _ U1 U2)
end
section
variable {prog : Program} {w : World} {A : Around} {E : Value → Shared → Prop} {s : Shared} {K : Frag} {expr : Bool} {Q : Value → Shared → Prop}
end
section
variable {prog : Program} {w : World} {A : Around} {E : Value → Shared → Prop} {s : Shared} {K : Frag} {Q : Value → Shared → Prop} {h₀ : Heap} {L e C : Addr} {m : PySem.Str → Option Value} {od : Option Obj}
theorem base_init {oe : Obj} {vs : Array Value} {rest : List Value} {t0 : Addr} {cd : ClassData} (X : K.In s.heap) (hc : clsIn K C = some cd) (I : InstAt s.heap e oe C od) (hm : mroIn K C (.type "Exception") = some true) (hd : oe.data = .fields vs) (h0 : vs[0]? = some (.ref t0))
    (h : Q .none { s with heap := (s.heap.push { cls := .type "tuple", data := .seq rest.toArray }).update e (Obj.mapFields (·.setIfInBounds 0 (.ref s.heap.objs.size))) }) (hrest : rest.length ≤ sizeLine) :
    wpAny (model prog w) A (call (.builtin "Exception.__init__") (.ref e :: rest)) Q E s := by
  have FB := PySem.F.excBase_Exception
  have sub : Looks (model prog w) s.heap (isInstance (.ref e) (.type "Exception")) true := I.type.andThen (looks_mroIn X hm)
  have he := I.at_
  have hck : ∀ (A' : Around) (E' : Value → Shared → Prop) (Q' : Unit → Shared → Prop), Q' () s → wpAny (model prog w) A' (checkBuiltinCall "Exception.__init__" ⟨.ref e :: rest, []⟩) Q' E' s := fun A' E' Q' hq => by
    simp only [checkBuiltinCall, FB.initKind, FB.initSplit, FB.initRow]
    refine wpAny_bind (sub.here ?_)
    have hst := FB.noStar
    repeat (first | (with_reducible refine wpAny_loadPart he ?_; rw [I.cls]) | (with_reducible refine (looks_clsIn X hc).here ?_) | wp_step)
    refine wpAny_onRaise ?_
    rw [show ∀ (a b : String) (n : Nat), Bind.check ⟨.positional, "*", "Exception", .self, [⟨"args", .varPos, false⟩]⟩ a b n (List.map (fun x => x.fst) ({ pos := Value.ref e :: rest } : Args).kw) = pure () from
      fun a b n => check_star_args _ _ _ _ _ _]
    exact wpAny_pure hq
  refine wpAny_call (codeAny_call_builtin FB.init.plain FB.initEntry (hck _ _ _ ?_))
  unfold Builtin.«BaseException.__init__»
  dsimp only
  rw [if_neg (by simp)]
  unfold newTuple Builtin.BaseException.bexcPut
  have hsz : 0 < vs.size := (Array.getElem?_eq_some_iff.mp h0).1
  have he₁ := Heap.get?_push_of_some (h := s.heap) { cls := .type "tuple", data := .seq rest.toArray } he
  refine wpAny_bind (wpAny_newObj_type (wpAny_bind (wpAny_bind (wpAny_field he₁ hd h0 (wpAny_bind (wpAny_setField he₁ hd hsz ?_))))) (by show rest.toArray.size ≤ sizeLine; rw [List.size_toArray]; exact hrest))
  exact wpAny_letGo (wpAny_pure h)
end
noncomputable abbrev excObj (C t : Addr) (od : Option Addr) : Obj := { cls := .ref C, dict := od, data := .fields #[.ref t, .none, .none, .none, .bool false, .none] }
section
variable {prog : Program} {w : World} {A : Around} {E : Value → Shared → Prop} {R : Result → Shared → Prop} {h : Heap} {g : Array GenState} {d : Drawn} {t : Nat} {os : OsState} {K : Frag}
variable {nm q : PySem.Str} {C N : Addr} {bs bm : List Value} {hdct : Bool} {sn : List PySem.Str} {sub : List Value} {ab : Bool} {col : Option Bool} {dd : Option Addr} {k0 k1 k2 k3 k5 : Option Value}
theorem exc_check_new {rest : List Value} {Q : Unit → Shared → Prop} (hcB : (Value.ref C :: bm).contains (.type "Exception") = true) (hC : h.get? C = some (excClassObj nm q C N bs bm hdct sn sub ab col dd k0 k1 k2 k3 k5 "Exception.__new__"))
    (hq : Q () ⟨h, g, d, t, os⟩) {M : Model} : wpAny M A (checkBuiltinCall "Exception.__new__" ⟨.ref C :: rest, []⟩) Q E ⟨h, g, d, t, os⟩ := by
  have Fn := PySem.F.excBase_Exception
  have hstar := Fn.noStar
  simp only [checkBuiltinCall, Fn.newKind, Fn.newSplit, Fn.newRow]
  repeat (first | refine wpAny_loadPart_at hC ?_ | (refine wpAny_isSubtype_exc hC ?_; rw [hcB]) | refine wpAny_staticBase_exc hC ?_ | refine wpAny_madeBy_exc hC ?_ | simp only [bne_self_eq_false, Bool.false_eq_true, if_false] | wp_step)
  exact hq
theorem exc_new {rest : List Value} (hcB : (Value.ref C :: bm).contains (.type "Exception") = true) (hcA : (Value.ref C :: bm).contains (.type "AttributeError") = false) (hcN : (Value.ref C :: bm).contains (.type "NameError") = false)
    (hC : h.get? C = some (excClassObj nm q C N bs bm hdct sn sub ab col dd k0 k1 k2 k3 k5 "Exception.__new__"))
    (hq : R (.ok (.ret (.ref (h.objs.size + 1)))) ⟨(h.push { cls := .type "tuple", data := .seq rest.toArray }).push (excObj C h.objs.size none), g, d, t, os⟩) (hrest : rest.length ≤ sizeLine := by size_fits) :
    codeAny (model prog w) A (.builtin "Exception.__new__" ⟨.ref C :: rest, []⟩) R ⟨h, g, d, t, os⟩ := by
  have Fn := PySem.F.excBase_Exception
  have hends := Fn.ends
  refine codeAny_builtinAt Fn.entry ?_
  unfold Builtin.«BaseException.__new__»
  refine PySem.wpAt_bind ?_
  show PySem.wpAt _ _ _ (stack >>= _) _ _ _
  refine PySem.wpAt_bind (PySem.wpAt_stack fun p below => PySem.wpAt_of_wpAny ?_)
  wp_walk
  refine PySem.wpAt_of_wpAny ?_
  rw [Fn.owner]
  repeat (first | with_reducible refine wpAny_madeHere_exc Fn.canon hC ?_ | with_reducible refine wpAny_loadPart_at hC ?_ | (with_reducible refine wpAny_isSubtype_exc hC ?_; first | rw [hcB] | rw [hcA] | rw [hcN]) | wp_step)
  show R _ _
  rw [Heap.size_push]
  exact hq
end
section
variable {prog : Program} {w : World} {A : Around} {E : Value → Shared → Prop} {s : Shared} {K : Frag} {h₀ : Heap} {L : Addr} {m : PySem.Str → Option Value} {news : List (Addr × Obj)}
variable {nm q : PySem.Str} {C N : Addr} {bs bm : List Value} {hdct : Bool} {sn : List PySem.Str} {sub : List Value} {ab : Bool} {col : Option Bool} {dd : Option Addr} {k0 k1 k2 k3 k5 : Option Value}
theorem exc_call {rest : List Value} {fI : Addr} {Q : Value → Shared → Prop} (X : K.In s.heap) (hK : K.lookup C = some (excClassObj nm q C N bs bm hdct sn sub ab col dd k0 k1 k2 k3 k5 "Exception.__new__"))
    (hcB : (Value.ref C :: bm).contains (.type "Exception") = true) (hcA : (Value.ref C :: bm).contains (.type "AttributeError") = false) (hcN : (Value.ref C :: bm).contains (.type "NameError") = false) (hcC : (Value.ref C :: bm).contains (.ref C) = true)
    (hi : findIn K (.ref C) "__init__" = some (some (.ref fI))) (hf : isFn K (.ref fI) = true)
    (h : codeAny (model prog w) (A.under (.builtin "type.__call__" ⟨.ref C :: rest, []⟩)) (.call (.ref fI) ⟨.ref (s.heap.objs.size + 1) :: rest, []⟩) (InitBack (s.heap.objs.size + 1) fun r s' => match r with | .ok (.ret v) => Q v s' | .ok _ => False | .error e => E e s') { s with heap := (s.heap.push { cls := .type "tuple", data := .seq rest.toArray }).push (excObj C s.heap.objs.size none) }) (hrest : rest.length ≤ sizeLine) :
    wpAny (model prog w) A (call (.ref C) rest) Q E s := by
  have hC := X _ _ hK
  obtain ⟨hp, g, d, t, os⟩ := s
  have f1 := tc_lookup
  have f2 := tc_bind (.ref C)
  have hT : (⟨hp, g, d, t, os⟩ : Shared).TypeIs (.ref C) "type" := ⟨_, hC, rfl⟩
  have Fn := PySem.F.excBase_Exception
  refine wpAny_call (codeAny_of_tree ?_)
  show wpAny _ _ (callAny (.ref C) _) _ _ _
  repeat (any_goals (first | assumption | with_reducible refine wpAny_loadPart_at hC ?_ | wp_step))
  refine ⟨rfl, ?_⟩
  refine codeAny_call_builtin_at (Code.quiet_builtin _ (by decide +kernel)) entry_typeCall (wpAny_check_type_call_sub hC ?_)
  repeat (first | with_reducible refine wpAny_loadPart_at hC ?_ | with_reducible refine wpAny_madeBy_exc hC ?_ | wp_step)
  refine codeAny_call_builtin_code (Code.quiet_builtin _ Fn.quiet) (exc_check_new hcB hC ?_)
  refine exc_new hcB hcA hcN hC ?_ hrest
  show wpAny _ _ _ _ _ _
  have X₂ : K.In ((hp.push { cls := .type "tuple", data := .seq rest.toArray }).push (excObj C hp.objs.size none)) := X.keeps fun _ _ e => Heap.get?_push_of_some _ (Heap.get?_push_of_some _ e)
  have hC₁ := X₂ _ _ hK
  have hget : ((hp.push { cls := .type "tuple", data := .seq rest.toArray }).push (excObj C hp.objs.size none)).get? (hp.objs.size + 1) = some (excObj C hp.objs.size none) := by
    have := Heap.get?_push_size (hp.push { cls := .type "tuple", data := .seq rest.toArray }) (o := excObj C hp.objs.size none) rfl
    rwa [Heap.size_push] at this
  have LI := looks_findIn (M := model prog w) X₂ hi
  have LF := looks_typeIn (M := model prog w) X₂ (beq_iff_eq.mp hf)
  unfold isInstance
  repeat (first | with_reducible refine wpAny_loadPart_at hget ?_ | wp_step)
  show wpAny _ _ (isSubtype (Value.ref C) (Value.ref C)) _ _ _
  refine wpAny_isSubtype_exc hC₁ ?_
  rw [hcC]
  repeat (first | with_reducible refine wpAny_loadPart_at hget ?_ | wp_step)
  show wpAny _ _ (typeLookup (.ref C) _) _ _ _
  refine LI.at ?_
  refine wpAny_holding (wpAny_bind ?_)
  unfold bindSpecial
  refine wpAny_bind (LF.at ?_)
  rw [if_pos (by decide)]
  refine wpAny_pure (wpAny_bind (wpAny_call (codeAny_mono h fun r s' hr => ?_)))
  rcases r with e' | fl
  · exact hr
  · cases fl with
    | ret v =>
      obtain ⟨rfl, hQ⟩ := hr
      refine wpAny_pure ?_
      wp_walk
      exact hQ
    | _ => exact hr.elim
end
end Mine
end
section
open PySem PySem.W PyProof.Rows PySem.Calls
set_option Elab.async false
set_option maxRecDepth 100000
set_option maxHeartbeats 1000000
open PySem.Builtin.ObjectAttr PySem.Builtin
namespace Mine
/-- what storing an attribute on an exception of the class asks -/
structure ExcSet (K : Frag) (C : Addr) : Prop where
  cls : ∃ cd, clsIn K C = some cd ∧ (∀ x, refuseLoop (.ref x) "__setattr__" cd.mro = pure ()) ∧ cd.hasDict = true
  obj : mroIn K C (.type "object") = some true
  set : findIn K (.ref C) "__setattr__" = some (some (.builtin "object.__setattr__"))
section
variable {prog : Program} {w : World} {A : Around} {E : Value → Shared → Prop} {s : Shared} {K : Frag} {h₀ : Heap} {L e C t dx : Addr} {m : PySem.Str → Option Value} {news news' : List (Addr × Obj)} {name : PySem.Str} {v : Value} {Q : Unit → Shared → Prop} {es es' : List DictEntry} {n n' : Nat}
theorem exc_set0 {news' : Addr → List (Addr × Obj)} (F : Fr h₀ L s.heap m) (X₀ : K.In h₀) (S : ExcSet K C) (ht : findIn K (.ref C) name = some none) (N : News h₀ L s.heap news) (U : ∀ d, Upd e (excObj C t none) (excObj C t (some d)) news (news' d))
    (h : ∀ d h' hsh tk, Fr h₀ L h' m → News h₀ L h' ((d, dictOf [⟨hsh, .str name tk, v⟩] 1) :: news' d) → (∀ p ∈ news, p.1 < d) → Q () { s with heap := h', toks := s.toks + 2 }) :
    wpAny (model prog w) A (setAttr (.ref e) name v) Q E s := by
  obtain ⟨hp, gn, dr, tks, os⟩ := s
  have X := X₀.keeps F.keep
  obtain ⟨cd, hc, hr, hd⟩ := S.cls
  have hm : (e, excObj C t none) ∈ news := by
    obtain ⟨pre, post, rfl, -⟩ := (U 0).split
    simp
  have he := (N _ hm).1
  have I : InstAt hp e (excObj C t none) C none := ⟨he, rfl, rfl, trivial⟩
  refine set_plain X I S.set (exc_open (s := ⟨hp, gn, dr, tks + 1, os⟩) X I hc (hr e) S.obj ht ?_)
  refine wpAny_bind (wpAny_pure (wpAny_bind (wpAny_bind (wpAny_loadPart he (wpAny_bind ((looks_clsIn X hc).at ?_))))))
  rw [hd]
  obtain ⟨pre, post, e1, e2, h1, h2⟩ := (U hp.objs.size).split
  have hlt : ∀ p ∈ news, p.1 < hp.objs.size := fun p q => Heap.lt_size (N p q).1
  have F1 := F.push { cls := .type "dict", data := .dict #[] }
  have N1 := N.push F { cls := .type "dict", data := .dict #[] }
  have he1 := (N1 _ (.tail _ hm)).1
  rw [e1] at N1
  have hde : hp.objs.size ≠ e := Nat.ne_of_gt (hlt _ hm)
  obtain ⟨F2, N2⟩ := news_upd (pre := (hp.objs.size, { cls := .type "dict", data := .dict #[] }) :: pre) (f := fun o => { o with dict := some hp.objs.size }) (o' := excObj C t (some hp.objs.size)) F1 N1 (fun p q => by
    rcases List.mem_cons.mp q with rfl | q
    · exact hde
    · exact h1 p q) h2 rfl rfl
  refine wpAny_bind (wpAny_alloc (wpAny_bind (wpAny_update he1 ?_)))
  show wpAny _ _ (pure (some hp.objs.size)) _ _ _
  refine wpAny_pure ?_
  refine store_in (pre := []) (post := pre ++ (e, excObj C t (some hp.objs.size)) :: post) (es := []) (n := 0) F2 N2 (fun _ q => nomatch q) (fun p q => ?_) rfl rfl (Nat.le_of_ble_eq_true rfl) fun h' F' N' => ?_
  · rcases List.mem_append.mp q with q | q
    · exact Nat.ne_of_lt (hlt p (e1 ▸ List.mem_append_left _ q))
    · rcases List.mem_cons.mp q with rfl | q
      · exact Ne.symm hde
      · exact Nat.ne_of_lt (hlt p (e1 ▸ List.mem_append_right _ (.tail _ q)))
  · exact h _ h' _ _ F' (by rw [e2]; exact N') hlt
theorem exc_set1 (F : Fr h₀ L s.heap m) (X₀ : K.In h₀) (S : ExcSet K C) (ht : findIn K (.ref C) name = some none) (N : News h₀ L s.heap news) (hm : (e, excObj C t (some dx)) ∈ news) (hdm : (dx, dictOf es n) ∈ news) (hl : (getL name es).isSome = true)
    (hp : (putL name (PyData.keyHash w.params name) (.str name (s.toks + 1)) v es, putN name es n) = (es', n')) (U : Upd dx (dictOf es n) (dictOf es' n') news news') (hz : es'.length ≤ 1000)
    (h : ∀ h', Fr h₀ L h' m → News h₀ L h' news' → Q () { s with heap := h', toks := s.toks + 2 }) :
    wpAny (model prog w) A (setAttr (.ref e) name v) Q E s := by
  obtain ⟨hp', gn, dr, tks, os⟩ := s
  have X := X₀.keeps F.keep
  obtain ⟨cd, hc, hr, hd⟩ := S.cls
  obtain ⟨pre, post, e1, e2, h1, h2⟩ := U.split
  have he := (N _ hm).1
  have D := (N (dx, dictOf es n) hdm).1
  have I : InstAt hp' e (excObj C t (some dx)) C (some (dictOf es n)) := ⟨he, rfl, rfl, D⟩
  refine set_plain X I S.set (exc_open (s := ⟨hp', gn, dr, tks + 1, os⟩) X I hc (hr e) S.obj ht ?_)
  refine wpAny_bind (wpAny_pure (wpAny_bind (wpAny_bind (wpAny_loadPart he (wpAny_bind ((looks_clsIn X hc).at ?_))))))
  rw [hd]
  refine wpAny_pure (a := some dx) ?_
  rw [e1] at N
  exact store_in F N h1 h2 hl hp hz fun h' F' N' => h h' F' (by rw [e2]; exact N')
end
theorem hda_set (w : World) : ExcSet (hdA.heap_1_39 w.params) 70 := by
  have hFill9 : (fun (_ : Program × (Params → Frag)) => True) (PySem.Challenge.rw_xm0006_01.row.prog, hdA.heap_1_39) := by (k_fill; trivial)
  refine ⟨⟨_, by k_is, fun x => ?_, by rfl⟩, by k_is, by k_is⟩
  show refuseLoop (Value.ref x) "__setattr__" [Value.ref 70, Value.ref 31, Value.type "Exception", Value.type "BaseException", Value.type "object"] = pure ()
  rw [refuseLoop_ref, refuseLoop_ref]
  exact PySem.F.store_Exception.passes _
/-- raise_constraint's and array_size's fault, as it is called -/
theorem ada_cls (w : World) : ∃ nm q N bs hdct sn sub ab col dd k0 k1 k2 k3 k5, (hdA.heap_1_39 w.params).lookup 70 = some (excClassObj nm q 70 N bs [.ref 31, .type "Exception", .type "BaseException", .type "object"] hdct sn sub ab col dd k0 k1 k2 k3 k5 "Exception.__new__") := by
  have hFill9 : (fun (_ : Program × (Params → Frag)) => True) (PySem.Challenge.rw_xm0006_01.row.prog, hdA.heap_1_39) := by (k_fill; trivial)
  exact ⟨_, _, _, _, _, _, _, _, _, _, _, _, _, _, _, by k_is⟩
section
variable {prog : Program} {w : World} {A : Around} {E : Value → Shared → Prop} {s : Shared} {h₀ : Heap} {L : Addr} {m : PySem.Str → Option Value} {news : List (Addr × Obj)}
theorem ada_call {rest : List Value} {Q : Value → Shared → Prop} (X : (hdA.heap_1_39 w.params).In s.heap)
    (h : codeAny (model prog w) (A.under (.builtin "type.__call__" ⟨.ref 70 :: rest, []⟩)) (.call (.ref 67) ⟨.ref (s.heap.objs.size + 1) :: rest, []⟩) (InitBack (s.heap.objs.size + 1) fun r s' => match r with | .ok (.ret v) => Q v s' | .ok _ => False | .error e => E e s') { s with heap := (s.heap.push { cls := .type "tuple", data := .seq rest.toArray }).push (excObj 70 s.heap.objs.size none) }) (hrest : rest.length ≤ sizeLine) :
    wpAny (model prog w) A (call (.ref 70) rest) Q E s := by
  have hFill9 : (fun (_ : Program × (Params → Frag)) => True) (PySem.Challenge.rw_xm0006_01.row.prog, hdA.heap_1_39) := by (k_fill; trivial)
  obtain ⟨nm, q, N', bs, hdct, sn, sub, ab, col, dd, k0, k1, k2, k3, k5, hK⟩ := ada_cls w
  exact exc_call X hK (by decide) (by decide) (by decide) (by decide) (by k_is) (by k_is) h hrest
end
end Mine
namespace Mine
/-- what is raised -/
noncomputable def RaiseQ (w : World) (E : Value → Shared → Prop) (v : Value) (s : Shared) : Prop := ∃ e t od, v = .ref e ∧ s.heap.get? e = some (excObj 70 t od) ∧ (hdA.heap_1_39 w.params).In s.heap ∧ E (.ref e) s
section
variable {prog : Program} {w : World} {A : Around} {E : Value → Shared → Prop} {s : Shared} {env : Env}
theorem exc_raise {x : Sem Value} {Q : Flow → Shared → Prop} (hh : A.handled = none) (h : wpAny (model prog w) A x (RaiseQ w E) E s) : wpAny (model prog w) A (raiseStmt env (some x) none) Q E s := by
  obtain ⟨nm, q, N', bs, hdct, sn, sub, ab, col, dd, k0, k1, k2, k3, k5, hK⟩ := ada_cls w
  have hcB : (Value.ref 70 :: [Value.ref 31, .type "Exception", .type "BaseException", .type "object"]).contains (.type "BaseException") = true := by decide
  unfold raiseStmt
  refine wpAny_bind (wpAny_mono h (fun v s₁ h₁ => ?_) fun _ _ x => x)
  obtain ⟨e, t, od, rfl, he, X, hE⟩ := h₁
  have hC := X _ _ hK
  obtain ⟨hp, g, d, tk, os⟩ := s₁
  repeat (first | with_reducible refine wpAny_loadPart_at he ?_ | with_reducible refine wpAny_loadPart_at hC ?_ | (with_reducible refine wpAny_isSubtype_exc hC ?_; rw [hcB]) | wp_step)
  exact wpAny_raiseNew_none hh hE
theorem exc_raise_stmt {f : PySem.Expr} {args : List PySem.Expr} {kws : List Keyword} {cpos pos : Pos} {Q : Flow → Shared → Prop} (hh : A.handled = none) (h : wpAny (model prog w) A (eval (.Call f args kws cpos) env) (RaiseQ w E) E s) :
    wpAny (model prog w) A (exec (.Raise (some (.Call f args kws cpos)) none pos) env) Q E s := by
  rw [arm_exec_Raise]
  exact wpAny_bind (wpAny_standAt (exc_raise hh (wpAny_bind (wpAny_mono h (fun v s' q => wpAny_bind (wpAny_standAt (wpAny_pure q))) fun _ _ x => x))))
end
theorem exc_meta : typeOf (.type "Exception") = pure (.type "type") := kitMeta_of (by kernel_rfl)
section
variable {prog : Program} {w : World} {A : Around} {E : Value → Shared → Prop} {s : Shared} {h₀ : Heap} {L e t : Addr} {m : PySem.Str → Option Value} {news : List (Addr × Obj)} {news' : Addr → List (Addr × Obj)}
theorem ada_base {rest : List Value} {Q : Value → Shared → Prop} (F : Fr h₀ L s.heap m) (X₀ : (hdA.heap_1_39 w.params).In h₀) (N : News h₀ L s.heap news) (U : ∀ t', Upd e (excObj 70 t none) (excObj 70 t' none) news (news' t')) (hrest : rest.length ≤ sizeLine)
    (h : ∀ t' h', Fr h₀ L h' m → News h₀ L h' ((t', Mine.N.tupOf rest.toArray 0) :: news' t') → (∀ p ∈ news, p.1 < t') → Q .none { s with heap := h' }) :
    wpAny (model prog w) A (call (.builtin "Exception.__init__") (.ref e :: rest)) Q E s := by
  have hFill9 : (fun (_ : Program × (Params → Frag)) => True) (PySem.Challenge.rw_xm0006_01.row.prog, hdA.heap_1_39) := by (k_fill; trivial)
  have X := X₀.keeps F.keep
  obtain ⟨cd, hc, -, -⟩ := (hda_set w).cls
  obtain ⟨pre, post, e1, e2, h1, h2⟩ := (U s.heap.objs.size).split
  have hm : (e, excObj 70 t none) ∈ news := by rw [e1]; simp
  have he := (N _ hm).1
  have hlt : ∀ p ∈ news, p.1 < s.heap.objs.size := fun p q => Heap.lt_size (N p q).1
  have I : InstAt s.heap e (excObj 70 t none) 70 none := ⟨he, rfl, rfl, trivial⟩
  refine base_init X hc I (by k_is) rfl rfl ?_ hrest
  have F1 := F.push (Mine.N.tupOf rest.toArray 0)
  have N1 := N.push F (Mine.N.tupOf rest.toArray 0)
  rw [e1] at N1
  obtain ⟨F2, N2⟩ := news_upd (pre := (s.heap.objs.size, Mine.N.tupOf rest.toArray 0) :: pre) (f := Obj.mapFields (·.setIfInBounds 0 (.ref s.heap.objs.size))) (o' := excObj 70 s.heap.objs.size none) F1 N1 (fun p q => by
    rcases List.mem_cons.mp q with rfl | q
    · exact Nat.ne_of_gt (hlt _ hm)
    · exact h1 p q) h2 rfl rfl
  exact h _ _ F2 (by rw [e2]; exact N2) hlt
end
end Mine
end
section
open PySem PySem.W PyProof.Rows PySem.Calls
set_option Elab.async false
set_option maxRecDepth 100000
set_option maxHeartbeats 4000000
namespace Mine
theorem wgA (C : Addr) (vs : List Value) : (Code.weight (.builtin "type.__call__" ⟨.ref C :: vs, []⟩)) ≤ 3 := Nat.le_of_ble_eq_true rfl
theorem enterA {w : World} {mean : ExcName → Option Value} {mg mb : PySem.Str → Option Value} {f : Addr} {vs : List Value} {mu : List (Addr × Obj)} {name qual : PySem.Str} {params : Arguments} {body : List Stmt} {scope : Scope} {dV kV doc pm cdv ct oc : Value} {an od : Option Addr} {osl : Array (Option Value)} {binds : List (PySem.Str × Value)}
    {A : Around} {g h₁ : Heap} {gn : Array GenState} {dr : Drawn} {tk : Nat} {os : OsState} {R : Result → Shared → Prop}
    (ho : (hdA.heap_1_39 w.params).lookup f = some ⟨oc, od, .func (fnOf name qual params body scope dV kV doc pm an cdv ct), osl⟩) (hcd : codeIn (hdA.heap_1_39 w.params) cdv qual = true)
    (hbind : ∀ s, BindsTo s (fnOf name qual params body scope dV kV doc pm an cdv ct) ⟨vs, []⟩ binds) (hloc : ∀ y ∈ binds, scope.names.lookup y.1 = some .local)
    (hs : g.StaysIn h₁) (hz : g.objs.size = h₁.objs.size) (N : ∀ p ∈ mu, h₁.get? p.1 = some p.2 ∧ g.get? p.1 = none) (X : (hdA.heap_1_39 w.params).In g) (T : TopW mean mg mb g) (hdp : A.depth < recursionLimit)
    (h : ∀ (L : Addr) (h₂ : Heap) (tk : Nat), Fr g L h₂ (fun y => binds.reverse.lookup y) → News g L h₂ mu → (∀ p ∈ mu, p.1 < L) →
      wpAny (model prg w) (A.deeper (envOf qual scope L f cdv)) (execs body (envOf qual scope L f cdv)) (fun fl s' => R (.ok (.ret (match fl with | .ret v => v | _ => .none))) s') (fun _ _ => False) ⟨h₂, gn, dr, tk, os⟩)
    (hco : scope.isCoroutine = false) (hgen : scope.isGenerator = false) (hk : scope.kind = .function) (hcell : ∀ x ∈ scope.names, x.2 ≠ .cell) : codeAny (model prg w) A (.call (.ref f) ⟨vs, []⟩) R ⟨h₁, gn, dr, tk, os⟩ := by
  have X' : (hdA.heap_1_39 w.params).In h₁ := X.keeps hs
  refine codeAny_call_def (fd := fnOf name qual params body scope dV kV doc pm an cdv ct) (body := body) (binds := binds) hdp (X' _ _ ho) rfl (T.nolimit.keeps hs) (codeRec_of X' hcd) rfl (hbind _) hcell hloc (fun h₂ hns hk₁ => ?_) hco hgen hk
  exact wpAny_mono (h h₁.objs.size h₂ _ ⟨hns, fun b o e => hk₁ b o (hs b o e), Nat.le_of_eq hz⟩ (fun p hp => ⟨hk₁ _ _ (N p hp).1, Nat.ne_of_lt (Heap.lt_size (N p hp).1), (N p hp).2⟩) (fun p hp => Heap.lt_size (N p hp).1)) (fun _ _ z => z) fun _ _ y => y.elim
theorem ada_fin {x1 : PySem.Str} {t1 : Tok} {G g h' : Heap} {L e t d : Addr} {es : List DictEntry} {n : Nat} {m : PySem.Str → Option Value} {news : List (Addr × Obj)} {gn : Array GenState} {dr : Drawn} {tk' : Nat} {os : OsState} {Q : Value → Shared → Prop} (F : Fr G L h' m) (N : News G L h' news) (m1 : (e, excObj 70 t (some d)) ∈ news) (m2 : (d, dictOf es n) ∈ news) (gG : g.StaysIn G) (hne : e ≠ d) (hw : getL "word" es = some (some (.str x1 t1)))
    (q : ∀ e t d es n h' tk', g.StaysIn h' → (h'.get? e = some (excObj 70 t (some d)) ∧ g.get? e = none) → (h'.get? d = some (dictOf es n) ∧ g.get? d = none) → e ≠ d → getL "word" es = some (some (.str x1 t1)) → Q (.ref e) ⟨h', gn, dr, tk', os⟩) : Q (.ref e) ⟨h', gn, dr, tk', os⟩ := by
  have no : ∀ a, G.get? a = none → g.get? a = none := fun a z => by
    cases y : g.get? a with
    | none => rfl
    | some o => rw [gG a o y] at z; cases z
  exact q e t d es n h' tk' (fun b o z => F.keep b o (gG b o z)) ⟨(N _ m1).1, no _ (N _ m1).2.2⟩ ⟨(N _ m2).1, no _ (N _ m2).2.2⟩ hne hw
local macro_rules | `(tactic| k_room) => `(tactic| ((try simp only [depth_under_make, depth_under_kw, depth_in1, depth_deeper, depth_caller]); (try dsimp only [ctA, Around.deeper, Around.in1]); omega))
set_option maxHeartbeats 4000000 in
/-- an AdaRaise is made -/
theorem ada_ct {w : World} {mean : ExcName → Option Value} {mg mb : PySem.Str → Option Value} (x1 : PySem.Str) (t1 : Tok) (v2 v3 : Value) (dp un : Nat) (gd : Option (List Code)) (outer : List Env) (base g : Heap) (gn : Array GenState) (dr : Drawn) (tk : Nat) (os : OsState) (Q E : Value → Shared → Prop)
    (B : Below (ctA dp un gd outer) base outer g) (X : (hdA.heap_1_39 w.params).In g) (T : TopW mean mg mb g) (hdp : dp + 10 < recursionLimit) (hu : un + 80 < cLine)
    (q : ∀ e t d es n h' tk', g.StaysIn h' → (h'.get? e = some (excObj 70 t (some d)) ∧ g.get? e = none) → (h'.get? d = some (dictOf es n) ∧ g.get? d = none) → e ≠ d → getL "word" es = some (some (.str x1 t1)) → Q (.ref e) ⟨h', gn, dr, tk', os⟩) :
    wpAny (model prg w) (ctA dp un gd outer) (call (.ref 70) [.str x1 t1, v2, v3]) Q E ⟨g, gn, dr, tk, os⟩ := by
  have hFill9 : (fun (_ : Program × (Params → Frag)) => True) (PySem.Challenge.rw_xm0006_01.row.prog, hdA.heap_1_39) := by (k_fill; trivial)
  clear hFill9
  refine ada_call (s := ⟨g, gn, dr, tk, os⟩) X ?_ (by rw [sizeLine_eq]; exact Nat.le_of_ble_eq_true rfl)
  have e1 : ((g.push { cls := .type "tuple", data := .seq [Value.str x1 t1, v2, v3].toArray }).push (excObj 70 g.objs.size none)).get? (g.objs.size + 1) = some (excObj 70 g.objs.size none) := by
    have := Heap.get?_push_size (g.push { cls := .type "tuple", data := .seq [Value.str x1 t1, v2, v3].toArray }) (o := excObj 70 g.objs.size none) rfl
    rwa [Heap.size_push] at this
  have e2 : ((g.push { cls := .type "tuple", data := .seq [Value.str x1 t1, v2, v3].toArray }).push (excObj 70 g.objs.size none)).get? g.objs.size = some { cls := .type "tuple", data := .seq [Value.str x1 t1, v2, v3].toArray } := Heap.get?_push_of_some _ (Heap.get?_push_size _ rfl)
  have up : g.StaysIn ((g.push { cls := .type "tuple", data := .seq [Value.str x1 t1, v2, v3].toArray }).push (excObj 70 g.objs.size none)) := fun _ _ e => Heap.get?_push_of_some _ (Heap.get?_push_of_some _ e)
  have n1 : g.get? (g.objs.size + 1) = none := Heap.get?_none_of_le (Nat.le_succ _)
  have n2 : g.get? g.objs.size = none := Heap.get?_none_of_le (Nat.le_refl _)
  have e12 : g.objs.size ≠ g.objs.size + 1 := Nat.ne_of_lt (Nat.lt_succ_self _)
  generalize hh : ((g.push { cls := .type "tuple", data := .seq [Value.str x1 t1, v2, v3].toArray }).push (excObj 70 g.objs.size none)) = h₂ at e1 e2 up ⊢
  generalize g.objs.size + 1 = e at e1 n1 e12 ⊢
  generalize g.objs.size = t at e1 e2 n2 e12 ⊢
  clear hh
  generalize hG : hideAll h₂ [e, t] = G
  have gG : g.StaysIn G := fun b o z => by
    rw [← hG]
    refine hideAll_get _ (up b o z) fun hm => ?_
    rcases List.mem_cons.mp hm with rfl | hm
    · rw [n1] at z; cases z
    · rw [List.mem_singleton.mp hm, n2] at z; cases z
  have hsG : G.StaysIn h₂ := fun b o z => by rw [← hG] at z; exact of_hideAll _ z
  have BG : Below ((ctA dp un gd outer).under (.builtin "type.__call__" ⟨[.ref 70, .str x1 t1, v2, v3], []⟩)) base outer G := ⟨rfl, fun b o z => gG b o (B.stays b o z), B.frames.of_keeps fun b o z _ => ⟨o, gG b o z, rfl⟩⟩
  k_dflt (refine' enterA (binds := ([(PySem.Str.ofString "self", .ref e), (PySem.Str.ofString "name", .str x1 t1), (PySem.Str.ofString "line", v2), (PySem.Str.ofString "text", v3)] : List (PySem.Str × Value))) (mu := [(e, excObj 70 t none), (t, { cls := .type "tuple", data := .seq [Value.str x1 t1, v2, v3].toArray })]) (mean := mean) (mg := mg) (mb := mb) ?k6 ?k7 ?k9 ?kB hsG ?kz ?kN (X.keeps gG) (T.keeps gG) ?kd ?_ ?c2 ?c3 ?c4 ?c5; (case k6 => k_is); (case k7 => k_is); (case k9 => exact fun s => BindsTo.of_eq rfl); (case kB => exact locs rfl); (case c2 => exact rfl); (case c3 => exact rfl); (case c4 => exact rfl); (case c5 => decide); (case kz => rw [← hG]; exact hideAll_size _ _))
  case kN =>
    intro p hp
    rcases List.mem_cons.mp hp with rfl | hp
    · exact ⟨e1, by rw [← hG]; exact hideAll_none _ (.head _)⟩
    · rw [List.mem_singleton.mp hp]
      exact ⟨e2, by rw [← hG]; exact hideAll_none _ (.tail _ (.head _))⟩
  case kd => have := wgA 70 [.str x1 t1, v2, v3]; show dp + _ < _; omega
  intro L h₃ tk' F N l1
  have X := X.keeps gG
  have T := T.keeps gG
  try dsimp only
  repeat' (first
    | ((with_reducible show wpAny _ _ (setAttr (Value.ref _) _ _) _ _ _); k_dflt (first
      | (refine' exc_set0 ?F ?X (hda_set _) ?t ?N ?U ?_; (case F => k_asm); (case X => k_asm); (case t => k_is); (case N => k_asm); (case U => intro d9; k_upd); k_whole; intro d' h' hsh' tk' F' N' l1; (try dsimp only at N'); (try k_lt l1))
      | (refine' exc_set1 ?s9F ?s9X (hda_set _) ?s9t ?s9N ?s9m ?s9d ?s9l ?s9p ?s9U ?s9z ?_; (case s9F => k_asm); (case s9X => k_asm); (case s9t => k_is); (case s9N => k_asm); (case s9m => k_mem); (case s9d => k_mem); (case s9l => k_get); (case s9p => k_put); (case s9U => k_upd); (case s9z => exact Nat.le_of_ble_eq_true rfl); k_whole; intro h' F' N')))
    | ((with_reducible show wpAny _ _ (getMethod (Value.type "Exception") _ _) _ _ _); refine' method_type ?F ?X exc_meta (by decide +kernel) ?e ?h ?_; (case F => k_asm); (case X => k_asm); (case e => k_dflt k_is); (case h => k_handed))
    | ((with_reducible show wpAny _ _ (call (Value.builtin "Exception.__init__") _) _ _ _); k_dflt (refine' ada_base ?F ?X ?N ?U ?z ?_; (case F => k_asm); (case X => k_asm); (case N => k_asm); (case U => intro d9; k_upd); (case z => rw [sizeLine_eq]; exact Nat.le_of_ble_eq_true rfl); intro t' h' F' N' l1; (try dsimp only at N'); (try k_lt l1)))
    | ((with_reducible show Q (Value.ref e) _); refine' ada_fin ?F ?N ?m1 ?m2 gG ?ne ?w q; (case F => k_asm); (case N => k_asm); (case m1 => k_mem); (case m2 => k_mem); (case w => exact rfl); (case ne => k_ne))
    | (k_unfold; (try dsimp only)) | (k_end; wrow_close) | walk1 | (dsimp only; walk1) | (leave1; (try dsimp only)))
end Mine
end
section
open PySem PySem.W PyProof.Rows PySem.Calls
set_option Elab.async false
set_option maxRecDepth 100000
set_option maxHeartbeats 1000000
namespace Mine
namespace N
section
variable {n : Nat} {f : Fx} {m : PySem.Str → Option Value} {ex : List (Addr × Obj)} {ρ : List Addr} {H : Hp} {h h' : Heap} {tk : Nat} {me : ME} {env : Env}
theorem swapped_pure {ts : List PySem.Expr} {k : Nat} {tp : Pos} {v : PySem.Expr} {xs : List Nat} (EK : EnvOK f c me env m ex ρ) (hx : tgs (.Tuple ts k tp) = xs) (h0 : xs ≠ []) (hok : asgOK me (.nms xs) (cE v) = true) : swappedStores [.Tuple ts k tp] v env = pure none := by
  have hx : ((names? ts).filter fun cs => decide (2 ≤ cs.length)).getD [] = xs := hx
  cases hn : names? ts with
  | none => rw [hn] at hx; exact absurd hx.symm h0
  | some cs =>
    rw [hn, Option.filter_some] at hx
    by_cases h2 : 2 ≤ cs.length
    · rw [if_pos (decide_eq_true h2)] at hx
      have hx : cs = xs := hx
      subst hx
      cases v with
      | Tuple vs j p =>
        obtain h | h := (Bool.or_eq_true _ _).mp (show (Nat.ble cs.length 1 || cs.any fun x => (lookc x me.cl).isSome) = true from hok)
        · exact absurd (Nat.le_of_ble_eq_true h) (by omega)
        · obtain ⟨x, hx, hq⟩ := List.any_eq_true.mp h
          obtain ⟨q, hq⟩ := Option.isSome_iff_exists.mp hq
          obtain ⟨_, hk, _⟩ := EK.cl x q hq
          unfold swappedStores
          dsimp only
          split
          · rfl
          · split
            · rfl
            · have := swapped_none (line := (ts.head?.map (·.pos.line)).getD 0) hn hx hk
              rw [if_pos]
              simp only [Bool.or_eq_true, bne_iff_ne, ne_eq]
              exact .inl (Nat.ne_of_lt this)
      | _ => rfl
    · rw [if_neg (fun z => h2 (of_decide_eq_true z))] at hx
      exact absurd hx.symm h0
/-- a comprehension stored into a local: what is to be shown of the storing itself -/
theorem sif_inv {r : Rec} {b : Bool} {x : S} {Θ : Fl → ME → Hp → Prop} (h : step1 r me (sif b x) H Θ) : b = true ∧ step1 r me x H Θ := by
  cases b with
  | true => exact ⟨rfl, h⟩
  | false => exact h.elim
theorem nm_all (e : PySem.Expr) : (match nm? e with
    | some s => ∃ p, e = .Name s p
    | Option.none => True) := by
  cases e with
  | Name x p => exact ⟨p, rfl⟩
  | _ => exact trivial
theorem nm_inv {e : PySem.Expr} {s : PySem.Str} (h : nm? e = some s) : ∃ p, e = .Name s p := by
  have := nm_all e
  rw [h] at this; exact this
theorem call_all (func : PySem.Expr) (args : List PySem.Expr) (kws : List Keyword) (pos : Pos) : (match nm? func with
    | some _ => True
    | Option.none => calN? (.Call func args kws pos) = Option.none) := by
  cases func with
  | Name x q => exact trivial
  | _ => exact rfl
theorem calN_all (v : PySem.Expr) : (match calN? v with
    | some p => ∃ q pos kws, v = .Call (.Name p.1 q) p.2 kws pos ∧ (kws.isEmpty && calOK (.Name p.1 q) p.2 pos && inT p.1) = true
    | Option.none => True) := by
  cases v with
  | Call func args kws pos =>
    cases hn : nm? func with
    | some s =>
      obtain ⟨q, rfl⟩ := nm_inv hn
      show (match (if (kws.isEmpty && calOK (.Name s q) args pos && inT s) = true then some (s, args) else none) with
        | some p => ∃ q' pos' kws', PySem.Expr.Call (.Name s q) args kws pos = .Call (.Name p.1 q') p.2 kws' pos' ∧ (kws'.isEmpty && calOK (.Name p.1 q') p.2 pos' && inT p.1) = true
        | Option.none => True)
      by_cases hc : (kws.isEmpty && calOK (.Name s q) args pos && inT s) = true
      · rw [if_pos hc]; exact ⟨q, pos, kws, rfl, hc⟩
      · rw [if_neg hc]; trivial
    | none =>
      have := call_all func args kws pos
      rw [hn] at this
      have this : calN? (.Call func args kws pos) = none := this
      rw [this]; trivial
  | _ => exact trivial
theorem calN_inv {v : PySem.Expr} {p : PySem.Str × List PySem.Expr} (h : calN? v = some p) : ∃ q pos, v = .Call (.Name p.1 q) p.2 [] pos ∧ calOK (.Name p.1 q) p.2 pos = true ∧ inT p.1 = true := by
  have := calN_all v
  rw [h] at this
  obtain ⟨q, pos, kws, rfl, hc⟩ := this
  obtain ⟨hc, h3⟩ := and_inv hc
  obtain ⟨h1, h2⟩ := and_inv hc
  cases List.isEmpty_iff.mp h1
  exact ⟨q, pos, rfl, h2, h3⟩
/-- a call that may raise -/
theorem xcal_sound (SE : SoundE c mean mg mb orc n) (SX : SoundX c mean mg mb orc n) (K : FxOK c mean mg mb f) (hr : room f n) {s : PySem.Str} {q pos : Pos} {args : List PySem.Expr} (hok : calOK (.Name s q) args pos = true) (hs : inT s = true) {Ψ : Fl → Hp → Prop} {Q E : Value → Shared → Prop} (hE : som (fnN me (cod s) H) fun a => evs (run orc n) me (cEs args) H fun vs H => calx (run orc n) a vs H Ψ) (R : Rl c f m ex ρ H h) (EK : EnvOK f c me env m ex ρ)
    (P : PX c f m ex ρ Ψ Q E) : wpAny (model prg c.w) f.A (eval (.Call (.Name s q) args [] pos) env) Q E (f.st h tk) := by
  obtain ⟨h2, h0⟩ := and_inv hok
  obtain ⟨h2, h3⟩ := and_inv h2
  obtain ⟨a, ha, hE⟩ := som_inv hE
  obtain ⟨v, hv, e1⟩ := Option.bind_eq_some_iff.mp ha
  obtain ⟨a', e2, e3⟩ := Option.bind_eq_some_iff.mp e1
  obtain ⟨hc, rfl⟩ := gO_inv e3
  cases v with
  | fn b =>
    cases e2
    refine Call_ (func := .Name s q) ?_
    rw [← (nm_cod hs).1]
    refine noE (name_eval K R EK hv fun y ry => ?_)
    have ry0 := ry
    cases ry
    refine callWith_any (P := (hdA.heap_1_39 c.w.params).In) h2 (call_keep (v := .fn a') hc ry0) ?_
    refine noE (sound_es SE K hr args hE R EK ?_)
    intro vs H' ρ' h' tk' xs hl hvs pre R' rvs
    exact ⟨K.X.keeps R'.F.keep, SX f m ex ρ' H' h' tk' a' vs xs Ψ Q E K (calx_eq.mp hvs) R' rvs hr ⟨fun fl H2 ρ2 h2 tk2 x hΨ pre2 R2 rv => P.1 fl H2 ρ2 h2 tk2 x hΨ (pre.trans pre2) R2 rv, fun w b H2 ρ2 h2 tk2 hΨ pre2 X2 => P.2 w b H2 ρ2 h2 tk2 hΨ (pre.trans pre2) X2⟩⟩
  | _ => cases e2
theorem PS.up {ρ' : List Addr} {Θ : Fl → ME → Hp → Prop} {Q : Flow → Shared → Prop} {E : Value → Shared → Prop} (P : PS c f ex ρ Θ Q E) (pre : ρ <+: ρ') : PS c f ex ρ' Θ Q E :=
  ⟨fun fl me2 H2 m2 ρ2 h2 tk2 fr x y z u r => P.1 fl me2 H2 m2 ρ2 h2 tk2 fr x (pre.trans y) z u r, fun w a me2 H2 m2 ρ2 h2 tk2 x y z u => P.2 w a me2 H2 m2 ρ2 h2 tk2 x (pre.trans y) z u⟩
theorem okT_all (t : PySem.Expr) : (match okT t with
    | true => (∃ y p, t = .Name y p) ∨ (∃ o a p, t = .Attribute o a p) ∨ (∃ o i p, t = .Subscript o i p) ∨ ∃ es k p, t = .Tuple es k p
    | false => True) := by
  cases t with
  | Name y p =>
    cases okT (.Name y p) with
    | true => exact .inl ⟨y, p, rfl⟩
    | false => exact trivial
  | Attribute o a p =>
    cases okT (.Attribute o a p) with
    | true => exact .inr (.inl ⟨o, a, p, rfl⟩)
    | false => exact trivial
  | Subscript o i p => exact .inr (.inr (.inl ⟨o, i, p, rfl⟩))
  | Tuple es k p =>
    cases okT (.Tuple es k p) with
    | true => exact .inr (.inr (.inr ⟨es, k, p, rfl⟩))
    | false => exact trivial
  | _ => exact trivial
theorem okT_inv {t : PySem.Expr} (h : okT t = true) : (∃ y p, t = .Name y p) ∨ (∃ o a p, t = .Attribute o a p) ∨ (∃ o i p, t = .Subscript o i p) ∨ ∃ es k p, t = .Tuple es k p := by
  have := okT_all t
  rw [h] at this; exact this
theorem isLC_all (v : PySem.Expr) : (match isLC v with
    | true => ∃ e gs sc p, v = .ListComp e gs sc p
    | false => True) := by
  cases v with
  | ListComp e gs sc p => exact ⟨e, gs, sc, p, rfl⟩
  | _ => exact trivial
theorem isLC_inv {v : PySem.Expr} (h : isLC v = true) : ∃ e gs sc p, v = .ListComp e gs sc p := by
  have := isLC_all v
  rw [h] at this; exact this
theorem row_all (t e : PySem.Expr) (gs : List Comprehension) (sc : Scope) (p pos : Pos) : (match nm? t with
    | some _ => True
    | Option.none => rowOK (.ListComp e gs sc p) pos t = false) := by
  cases t with
  | Name x q => exact trivial
  | _ => exact rfl
theorem lc_of {v t : PySem.Expr} {pos : Pos} (hrow : rowOK v pos t = true) (h : ∀ x p, t ≠ .Name x p) : isLC v = false := by
  cases hv : isLC v with
  | false => rfl
  | true =>
    obtain ⟨e, gs, sc, p, rfl⟩ := isLC_inv hv
    have := row_all t e gs sc p pos
    cases hn : nm? t with
    | some s =>
      obtain ⟨q, rfl⟩ := nm_inv hn
      exact absurd rfl (h _ _)
    | none =>
      rw [hn] at this
      have this : rowOK (.ListComp e gs sc p) pos t = false := this
      rw [this] at hrow; cases hrow
theorem asg_sound (SE : SoundE c mean mg mb orc n) (SLA : SoundLA c mean mg mb orc n) (K : FxOK c mean mg mb f) (hr : room f n) {t v : PySem.Expr} {pos : Pos} {Θ : Fl → ME → Hp → Prop} {Q : Flow → Shared → Prop} {E : Value → Shared → Prop} (hrow : rowOK v pos t = true) (ht : okT t = true) (hok : asgOK me (cT t) (cE v) = true)
    (hE : (run orc n).E me (cE v) H fun v H => asgT (run orc n) me (cT t) v H fun me H => Θ .next me H) (R : Rl c f m ex ρ H h) (EK : EnvOK f c me f.env m ex ρ) (P : PS c f ex ρ Θ Q E) : wpAny (model prg c.w) f.A (exec (.Assign [t] v pos) f.env) Q E (f.st h tk) := by
  refine noE ?_
  rcases okT_inv ht with ⟨y, py, rfl⟩ | ⟨o, a, p, rfl⟩ | ⟨o, i, p, rfl⟩ | ⟨es, k, p, rfl⟩
  · have hE : (run orc n).E me (cE v) H fun v H => bindX me (tgs (.Name y py)) v H fun me H => Θ .next me H := hE
    have hT : tgs (.Name y py) = if inT y = true then [cod y] else [] := rfl
    rw [hT] at hE
    have hy : inT y = true := by
      by_cases hy : inT y = true
      · exact hy
      · have : (!(if inT y = true then [cod y] else []).isEmpty) = true := ht
        rw [if_neg hy] at this; cases this
    rw [if_pos hy] at hE
    have hE : (run orc n).E me (cE v) H fun v H => bindN me (cod y) v H fun me H => Θ .next me H := hE
    have gen : swapsWith v (some (.Name y py)) pos.line f.env = pure false → wpAny (model prg c.w) f.A (exec (.Assign [.Name y py] v pos) f.env) Q (fun _ _ => False) (f.st h tk) := fun hs => by
      refine wpAny_Assign_Name (SE f m ex ρ H h tk me f.env v _ _ K hE R EK hr ?_) hs
      intro u H' ρ' h' tk' x hu pre R' ru
      have := bd_fun K (tk := tk') ⟨rfl, rfl⟩ R' ((EK.up pre).re K R' []) hu ru (Q := fun _ => Q .next) fun me2 H2 m2 _ _ h2 tk2 hΦ ⟨e1, e2⟩ R2 EK2 => by
        subst e1; subst e2
        exact P.1 _ _ _ _ _ _ _ _ hΦ pre R2 EK2.re2 .next
      rw [(nm_cod hy).1] at this
      exact this
    cases hv : isLC v with
    | false => exact gen (swap_not hv hE)
    | true =>
      obtain ⟨e, gs, sc, p, rfl⟩ := isLC_inv hv
      · cases hsw : (f.env.blockKind == .function && f.env.kindOf y == some .local && py.line == p.line && !(sc.names.any fun (n, k) => n == y && (k == .local || k == .cell))) with
        | true => exact SLA f m ex ρ H h tk me e gs sc p y py pos _ _ K hy (congrArg pure hsw) hE R EK hr fun me2 H2 m2 ρ2 h2 tk2 hΦ pre R2 EK2 => P.1 _ _ _ _ _ _ _ _ hΦ pre R2 EK2 .next
        | false => exact gen (congrArg pure hsw)
  · have hl := lc_of hrow fun _ _ z => by cases z
    refine plainObj_wpAny_Assign_Attribute (SE f m ex ρ H h tk me f.env v _ _ K hE R EK hr ?_) (swap_not hl hE)
    intro u H' ρ' h' tk' x hu pre R' ru
    refine SE f m ex ρ' H' h' tk' me f.env o _ _ K hu R' (EK.up pre) hr ?_
    intro w H2 ρ2 h2 tk2 y hw pre2 R2 rw'
    have := setattr_sound (tk := tk2) K R2 hw rw' (ru.up pre2) (Q := fun _ => Q .next) fun H3 h3 tk3 hΦ R3 => P.1 _ _ _ _ _ _ _ _ hΦ (pre.trans pre2) R3 (EK.up (pre.trans pre2)) .next
    rw [(nm_cod (show inT a = true from ht)).1] at this
    exact this
  · have hl := lc_of hrow fun _ _ z => by cases z
    refine wpAny_Assign_Subscript (SE f m ex ρ H h tk me f.env v _ _ K hE R EK hr ?_) (swap_not hl hE)
    intro u H' ρ' h' tk' x hu pre R' ru
    refine SE f m ex ρ' H' h' tk' me f.env o _ _ K hu R' (EK.up pre) hr ?_
    intro w H2 ρ2 h2 tk2 y hw pre2 R2 rw'
    refine SE f m ex ρ2 H2 h2 tk2 me f.env i _ _ K hw R2 (EK.up (pre.trans pre2)) hr ?_
    intro z H3 ρ3 h3 tk3 zz hz pre3 R3 rz
    exact setitem_sound R3 hz (rw'.up pre3) rz (ru.up (pre2.trans pre3)) fun H4 h4 tk4 hΦ R4 => P.1 _ _ _ _ _ _ _ _ hΦ ((pre.trans pre2).trans pre3) R4 (EK.up ((pre.trans pre2).trans pre3)) .next
  · have hl := lc_of hrow fun _ _ z => by cases z
    have h0 : tgs (.Tuple es k p) ≠ [] := fun z => by
      have : (!(tgs (.Tuple es k p)).isEmpty) = true := ht
      rw [z] at this; cases this
    refine Assign_Tuple (SE f m ex ρ H h tk me f.env v _ _ K hE R EK hr ?_) (by unfold swapsWithSole; exact swap_not hl hE) (swapped_pure EK rfl h0 hok)
    intro u H' ρ' h' tk' x hu pre R' ru
    refine target (bd_fun K) ⟨rfl, rfl⟩ R' ((EK.up pre).re K R' []) hu ru fun me2 H2 m2 _ _ h2 tk2 hΦ e2 R2 EK2 => ?_
    obtain ⟨e1, e2⟩ := e2
    subst e1; subst e2
    exact P.1 _ _ _ _ _ _ _ _ hΦ pre R2 EK2.re2 .next
theorem Rl.more (K : FxOK c mean mg mb f) (R : Rl c f m ex ρ H h) (s : h.StaysIn h') {xs : List (Addr × Obj)} (hx : ∀ p ∈ xs, h'.get? p.1 = some p.2 ∧ h.get? p.1 = none) (ndx : (xs.map (·.1)).Nodup) : Rl c f m (xs ++ ex) ρ H h' := by
  obtain ⟨F, fs, led, l, hfs, hfo, N, nd, off⟩ := R
  obtain ⟨oL, es, ep, hL, hLd, r3⟩ := F.ns
  have no : ∀ {p : Addr × Obj}, p ∈ xs → ∀ {o : Obj}, h.get? p.1 ≠ some o := fun hp o q => by rw [(hx _ hp).2] at q; cases q
  refine ⟨⟨⟨oL, es, ep, s _ _ hL, hLd, r3⟩, fun b o e => s b o (F.keep b o e), F.above⟩, fs, led, l, hfs, hfo, fun p hp => ?_, ?_, fun p hp => ?_⟩
  · rw [List.append_assoc] at hp
    rcases List.mem_append.mp hp with hp | hp
    · refine ⟨(hx p hp).1, fun q => no hp (by rw [q]; exact hL), ?_⟩
      cases q : f.gz.get? p.1 with
      | none => rfl
      | some o => exact absurd (F.keep _ _ q) (no hp)
    · exact ⟨s _ _ (N p hp).1, (N p hp).2⟩
  · rw [List.append_assoc, List.map_append, List.nodup_append]
    refine ⟨ndx, nd, fun a ha b hb e => ?_⟩
    obtain ⟨p, hp, rfl⟩ := List.mem_map.mp ha
    obtain ⟨q, hq, rfl⟩ := List.mem_map.mp hb
    refine no hp (o := q.2) ?_
    rw [e]
    refine (N q ?_).1
    rcases List.mem_append.mp hq with hq | hq
    · exact List.mem_append_left _ hq
    · exact List.mem_append_right _ (List.mem_append_left _ hq)
  · rw [List.append_assoc] at hp
    rcases List.mem_append.mp hp with hp | hp
    · intro hm
      obtain ⟨o, e, _⟩ := (K.frames.mem hm).2
      obtain ⟨sl, q⟩ := hfs _ _ hm e
      exact no hp (N _ (List.mem_append_right _ (List.mem_append_right _ q))).1
    · exact off p hp
theorem Rl.less : ∀ {xs : List (Addr × Obj)}, Rl c f m (xs ++ ex) ρ H h → Rl c f m ex ρ H h
  | [], R => R
  | _ :: _, R => Rl.less (Rl.exDrop R fun _ _ _ e => e)
theorem keep_ada (w : World) : keepIn (hdA.heap_1_39 w.params) (.ref 70) = true := by kernel_rfl
theorem nm_ada : ("AdaRaise" : PySem.Str) = nm 171 := by kernel_rfl
theorem nm_fault : ("fault" : PySem.Str) = nm 191 := by kernel_rfl
theorem ada_glob : lookc 171 globs = some (.fn 70) := rfl
theorem rvs_word {val : Nat → Int} {ρ : List Addr} {vs : List V} {xs : List Value} {w : Nat} (rs : RVs val ρ vs xs) (h : Nat.beq vs.length 3 = true) (hw : (vs.head?.bind V.str?) = some w) : ∃ t1 x2 x3, xs = [.str (nm w) t1, x2, x3] ∧ w < tb.length := by
  cases rs with
  | nil => cases hw
  | cons r1 rs => cases rs with
    | nil => cases h
    | cons r2 rs => cases rs with
      | nil => cases h
      | cons r3 rs => cases rs with
        | cons _ _ => cases h
        | nil =>
          cases V.str_inv hw
          cases r1 with
          | str _ t1 hlt => exact ⟨t1, _, _, rfl, hlt⟩
theorem raise_sound (SE : SoundE c mean mg mb orc n) (K : FxOK c mean mg mb f) (hr : room f n) {e cs : Option PySem.Expr} {pos : Pos} {Θ : Fl → ME → Hp → Prop} {Q : Flow → Shared → Prop} {E : Value → Shared → Prop}
    (hE : step1 (run orc n) me (raisS e cs) H Θ) (R : Rl c f m ex ρ H h) (EK : EnvOK f c me f.env m ex ρ) (P : PS c f ex ρ Θ Q E) : wpAny (model prg c.w) f.A (exec (.Raise e cs pos) f.env) Q E (f.st h tk) := by
  cases e with
  | none => exact hE.elim
  | some v =>
    have g1 : step1 (run orc n) me (match calN? v with
      | some p => sif (isNone cs && p.1 == ("AdaRaise" : PySem.Str)) (.rais (cEs p.2))
      | none => .bad) H Θ := hE
    clear hE
    cases hc : calN? v with
    | none => rw [hc] at g1; exact g1.elim
    | some p =>
      rw [hc] at g1
      obtain ⟨q, pos', rfl, hok, hs⟩ := calN_inv hc
      obtain ⟨h1, g2⟩ := sif_inv g1
      clear g1
      obtain ⟨h2, h3⟩ := and_inv h1
      cases cs with
      | some _ => cases h2
      | none =>
      obtain ⟨k2, k0⟩ := and_inv hok
      obtain ⟨k2, k3⟩ := and_inv k2
      obtain ⟨a, ha, g3⟩ := som_inv (show som ((lookN me 171 H).bind V.fn?) _ from g2)
      clear g2
      obtain ⟨u, hu, e2⟩ := Option.bind_eq_some_iff.mp ha
      obtain ⟨h70, g4⟩ := grd_inv g3
      clear g3
      cases Nat.eq_of_beq_eq_true h70
      cases V.fn_inv e2
      refine exc_raise_stmt rfl (Call_ (func := .Name p.1 q) ?_)
      rw [(beq_iff_eq.mp h3).trans nm_ada]
      refine noE (name_eval K R EK hu fun y ry => ?_)
      cases ry
      refine callWith_any (P := (hdA.heap_1_39 c.w.params).In) k2 (keeps_K (keep_ada c.w)) ?_
      refine noE (sound_es SE K hr p.2 g4 R EK ?_)
      intro vs H' ρ' h' tk' xs hl hvs pre R' rvs
      obtain ⟨hl3, hvs⟩ := grd_inv hvs
      obtain ⟨w, hw, hΨ⟩ := som_inv hvs
      refine ⟨K.X.keeps R'.F.keep, ?_⟩
      obtain ⟨t1, x2, x3, rfl, hlt⟩ := rvs_word rvs hl3 hw
      obtain ⟨gzG, FF, -, -⟩ := R'.ground K (hid := []) fun a ha => nomatch ha
      have B : Below f.A f.base (f.env :: f.outer) h' := ⟨rfl, fun b o e => gzG b o (K.gst b o e), FF⟩
      refine ada_ct (nm w) t1 _ _ f.dp f.un f.gd (f.env :: f.outer) f.base h' f.gn f.dr tk' f.os _ _ B (K.X.keeps R'.F.keep) (K.T.keeps R'.F.keep) (by have := hr.1; unfold need at this; omega) (by have := hr.2; unfold need at this; omega) ?_
      intro e t d es k h2 tk2 s2 he hd hne hg
      refine ⟨e, t, some d, rfl, he.1, (K.X.keeps R'.F.keep).keeps s2, P.2 w e me H' m ρ' h2 tk2 hΨ pre ⟨excObj 70 t (some d), d, dictOf es k, [], ?_, ⟨rfl, rfl, ⟨t1, hg⟩, (fun vs z => nomatch z), ⟨_, rfl, .inl ⟨rfl, rfl⟩⟩, hlt⟩⟩ (EK.up pre)⟩
      exact R'.more K s2 (xs := [(e, _), (d, _)]) (fun p hp => by
        rcases List.mem_cons.mp hp with rfl | hp
        · exact he
        · rw [List.mem_singleton.mp hp]; exact hd) (by simp [hne])
theorem word_own (w : World) : findIn (hdA.heap_1_39 w.params) (.ref 70) "__getattribute__" = some (some (.builtin "BaseException.__getattribute__")) ∧ findIn (hdA.heap_1_39 w.params) (.ref 70) "__getattr__" = some none ∧ mroIn (hdA.heap_1_39 w.params) 70 (.type "BaseException") = some true ∧ findIn (hdA.heap_1_39 w.params) (.ref 70) "word" = some none := ⟨by kernel_rfl, by kernel_rfl, by kernel_rfl, by kernel_rfl⟩
theorem ret_all (s : Stmt) : (match ret1? [s] with
    | some v => ∃ p, s = .Return (some v) p
    | Option.none => True) := by
  cases s with
  | Return u p =>
    cases u with
    | none => exact trivial
    | some u => exact ⟨p, rfl⟩
  | _ => exact trivial
theorem ret_inv {b : List Stmt} {v : PySem.Expr} (h : ret1? b = some v) : ∃ p, b = [.Return (some v) p] := by
  rcases b with _ | ⟨s, _ | ⟨_, _⟩⟩
  · cases h
  · have := ret_all s
    rw [h] at this
    obtain ⟨p, rfl⟩ := this
    exact ⟨p, rfl⟩
  · cases h
theorem word_all (e : PySem.Expr) : (match isWord e with
    | true => ∃ o a ap, e = .Attribute o a ap
    | false => True) := by
  cases e with
  | Attribute o a ap =>
    cases isWord (.Attribute o a ap) with
    | true => exact ⟨o, a, ap, rfl⟩
    | false => exact trivial
  | _ => exact trivial
theorem word_inv {e : PySem.Expr} (h : isWord e = true) : ∃ fp ap, e = .Attribute (.Name "fault" fp) "word" ap := by
  have := word_all e
  rw [h] at this
  obtain ⟨o, a, ap, rfl⟩ := this
  obtain ⟨h4, h5⟩ := and_inv (show (a == ("word" : PySem.Str) && nm? o == some ("fault" : PySem.Str)) = true from h)
  obtain ⟨fp, rfl⟩ := nm_inv (beq_iff_eq.mp h5)
  exact ⟨fp, ap, by rw [beq_iff_eq.mp h4]⟩
theorem hand_inv {hs : List ExceptHandler} (h : hands hs = true) : ∃ np fp ap rp hp, hs = [.ExceptHandler (some (.Name "AdaRaise" np)) (some "fault") [.Return (some (.Attribute (.Name "fault" fp) "word" ap)) rp] hp] := by
  rcases hs with _ | ⟨hd, _ | ⟨_, _⟩⟩
  · cases h
  · obtain ⟨t, n, b, hp⟩ := hd
    obtain ⟨h5, h3⟩ := and_inv (show isHand (.ExceptHandler t n b hp) = true from h)
    obtain ⟨h1, h2⟩ := and_inv h5
    cases t with
    | none => cases h1
    | some t =>
      obtain ⟨np, rfl⟩ := nm_inv (beq_iff_eq.mp (show (nm? t == some ("AdaRaise" : PySem.Str)) = true from h1))
      cases hb : ret1? b with
      | none => rw [hb] at h3; cases h3
      | some e =>
        rw [hb] at h3
        obtain ⟨fp, ap, rfl⟩ := word_inv h3
        obtain ⟨rp, rfl⟩ := ret_inv hb
        exact ⟨np, fp, ap, rp, hp, by rw [beq_iff_eq.mp h2]⟩
  · cases h
/-- what is held, and how -/
theorem hold_as {w : World} {A : Around} {E : Value → Shared → Prop} {s : Shared} {env : Env} {e : Value} {t : PySem.Expr} {x : PySem.Str} {b₀ : Stmt} {pos : Pos} {Q : Flow → Shared → Prop} (he : e ≠ byPass)
    (h : wpAny (model prg w) (A.mark (some e)) (eval t env) (fun c s1 => wpAny (model prg w) (A.mark (some e)) (excMatches e c) (fun b s2 => b = true ∧ wpAny (model prg w) (A.mark (some e)) (setFlight e none) (fun _ s3 => wpAny (model prg w) (A.mark (some e)) (storeName env x e) (fun _ s4 => wpAny (model prg w) (A.mark (some e)) (execs [b₀] env) (fun f s5 =>
      wpAny (model prg w) A (do bindName env x .none; unbindBehindTheSuite env x pos) (fun _ s6 => Q f s6) (fun _ _ => False) s5) (fun _ _ => False) s4) (fun _ _ => False) s3) (fun _ _ => False) s2) (fun _ _ => False) s1) (fun _ _ => False) s) :
    wpAny (model prg w) A (handleBy e env [.ExceptHandler (some t) (some x) [b₀] pos]) Q E s := by
  refine wpAny_handleBy_cons (codeAny_handlers_test (wpAny_mono h (fun c s1 h1 => wpAny_mono h1 (fun b s2 h2 => ?_) fun _ _ x => x.elim) fun _ _ x => x.elim)) he
  obtain ⟨rfl, h2⟩ := h2
  exact codeAny_handlers_suite_as (wpAny_mono h2 (fun _ s3 h3 => wpAny_mono h3 (fun _ s4 h4 => wpAny_mono h4 (fun f s5 h5 => wpAny_mono h5 (fun _ _ z => z) fun _ _ x => x.elim) fun _ _ x => x.elim) fun _ _ x => x.elim) fun _ _ x => x.elim)
/-- an AdaRaise that is held -/
theorem held (K : FxOK c mean mg mb f) {w : Nat} {a : Addr} (X2 : RX c f m ex ρ H h w a) (EK : EnvOK f c me f.env m ex ρ) (hg1 : hasc 171 me.gl = true) (hg2 : hasc 191 me.lc = true) {np fp ap rp2 hp : Pos} {Q : Flow → Shared → Prop} {E : Value → Shared → Prop}
    (q : ∀ m' h' tk' x, Rl c f m' ex ρ H h' → EnvOK f c { me with loc := [] } f.env m' ex ρ → RV c.val ρ (.str w) x → Q (.ret x) (f.st h' tk')) :
    wpAny (model prg c.w) f.A (noteFrame (.ref a) f.env) (fun _ s₂ => wpAny (model prg c.w) f.A (setFlight (.ref a) none) (fun _ s₃ => wpAny (model prg c.w) f.A (handleBy (.ref a) f.env [.ExceptHandler (some (.Name "AdaRaise" np)) (some "fault") [.Return (some (.Attribute (.Name "fault" fp) "word" ap)) rp2] hp]) Q E s₃) E s₂) E (f.st h tk) := by
  refine RX.note K X2 rfl fun h3 oe d od tr R3 X3 ht => ?_
  refine RX.flight K R3 X3 ht fun h4 oe2 tr2 R4 X4 ht2 => ?_
  have hkf := EK.ls 191 hg2
  rw [← nm_fault] at hkf
  obtain ⟨nmm, qq, N', bs, hdct, sn, sub, ab, col, dd, k0, k1, k2, k3, k5, hK⟩ := ada_cls c.w
  have N4 : h4.get? a = some oe2 := by
    obtain ⟨_, _, _, _, _, N, _⟩ := R4.N
    exact (N (a, oe2) (List.mem_append_left _ (.head _))).1
  refine hold_as (by intro q; cases q) ?_
  rw [nm_ada]
  refine glob_eval (ρ := ρ) K R4.F EK.kind EK.gl EK.bi (EK.gs 171 hg1).2 ada_glob fun y ry => ?_
  cases ry
  refine wpAny_excMatches_sub_self ((K.X.keeps R4.F.keep) _ _ hK) N4 X4.cls (by decide) ⟨rfl, ?_⟩
  clear hK
  refine RX.flight (o := none) K R4 X4.some ht2 fun h5 oe3 tr3 R5 X5 ht3 => ?_
  have hL : f.env.locals = f.L := K.loc
  have hkind : f.env.scope.kind = .function := K.kind
  have hpk : (f.env.scope.kind == .class || (f.env.scope.kind == .module && f.env.locals != f.env.globals)) = false := by rw [hkind]; rfl
  refine wpAny_storeName_local hkf.2 (by rw [hL]; exact R5.F.ns) (fun h6 hn6 hs6 => ?_) hpk
  rw [hL] at hn6 hs6
  have R6 := R5.fr (R5.F.set hn6 hs6) fun l N => N.set hs6
  obtain ⟨fs6, led6, _, _, _, N6, _⟩ := R6.N
  refine wpAny_execs_cons (wpAny_Return_some (attr_eval rfl (wpAny_Name (wpAny_loadName_local hkind hkf.2 (by rw [hL]; exact R6.F.ns) (if_pos rfl) ?_) (by kernel_rfl))))
  obtain ⟨w1, w2, w3, w4⟩ := word_own c.w
  obtain ⟨tkw, hw⟩ := X5.word
  obtain ⟨vs5, e5, -⟩ := X5.trk
  have I : InstAt h6 a oe3 70 (some od) := ⟨(N6 (a, oe3) (.head _)).1, X5.cls, by unfold notCls; rw [e5], by rw [X5.dict]; exact (N6 (d, od) (.tail _ (.head _))).1⟩
  refine exc_get (K := hdA.heap_1_39 c.w.params) (K.X.keeps R6.F.keep) I w1 w2 w3 (findObj_own (attr := none) (by rfl) w4 (by rfl) hw) rfl ?_
  refine wpAny_nameGoes hkf.2 (by rw [hL]; exact R6.F.ns) hpk fun h7 m7 hn7 hs7 => ?_
  rw [hL] at hn7 hs7
  have F7 : Fr f.gz f.L h7 m7 := ⟨hn7, fun b o e => hs7.extBut b o (fun q => absurd (Heap.lt_size e) (by rw [q]; exact Nat.not_lt.mpr R6.F.above)) (R6.F.keep b o e), R6.F.above⟩
  exact q m7 h7 _ _ ((R6.fr F7 fun l N => N.set hs7).less (xs := (a, oe3) :: (d, od) :: tr3)) ⟨EK.kind, EK.gl, EK.bi, ⟨m7, .inl ⟨K.loc, rfl⟩, fun x v e => nomatch e⟩, EK.cl, EK.gs, EK.ls⟩ (.str w tkw X5.lt)
theorem try_sound (SE : SoundE c mean mg mb orc n) (SX : SoundX c mean mg mb orc n) (K : FxOK c mean mg mb f) (hr : room f n) {b o fin : List Stmt} {hs : List ExceptHandler} {pos : Pos} {Θ : Fl → ME → Hp → Prop} {Q : Flow → Shared → Prop} {E : Value → Shared → Prop}
    (hE : step1 (run orc n) me (tryS b hs o fin) H Θ) (R : Rl c f m ex ρ H h) (EK : EnvOK f c me f.env m ex ρ) (P : PS c f ex ρ Θ Q E) : wpAny (model prg c.w) f.A (exec (.Try b hs o fin pos) f.env) Q E (f.st h tk) := by
  have z1 : step1 (run orc n) me (match ret1? b with
    | some v => (match calN? v with
      | some p => sif (hands hs && o.isEmpty && fin.isEmpty) (.tryc (cod p.1) (cEs p.2))
      | Option.none => .bad)
    | Option.none => .bad) H Θ := hE
  clear hE
  cases h0 : ret1? b with
  | none => rw [h0] at z1; exact z1.elim
  | some v =>
    rw [h0] at z1
    cases hc : calN? v with
    | none =>
      have z2 : step1 (run orc n) me (match calN? v with
        | some p => sif (hands hs && o.isEmpty && fin.isEmpty) (.tryc (cod p.1) (cEs p.2))
        | Option.none => .bad) H Θ := z1
      rw [hc] at z2; exact z2.elim
    | some p =>
      have z2 : step1 (run orc n) me (match calN? v with
        | some p => sif (hands hs && o.isEmpty && fin.isEmpty) (.tryc (cod p.1) (cEs p.2))
        | Option.none => .bad) H Θ := z1
      rw [hc] at z2
      obtain ⟨h1, g1⟩ := sif_inv z2
      clear z1 z2
      obtain ⟨rp, rfl⟩ := ret_inv h0
      obtain ⟨h2, hf⟩ := and_inv h1
      obtain ⟨hh, ho⟩ := and_inv h2
      clear h1 h2 h0
      cases List.isEmpty_iff.mp hf
      cases List.isEmpty_iff.mp ho
      obtain ⟨q, pos', rfl, hok, hsT⟩ := calN_inv hc
      obtain ⟨np, fp, ap, rp2, hp, rfl⟩ := hand_inv hh
      obtain ⟨hg, g2⟩ := grd_inv (show grd (hasc 171 me.gl && hasc 191 me.lc) _ from g1)
      obtain ⟨hg1, hg2⟩ := and_inv hg
      clear g1 hh hc hf ho hg
      refine wpAny_Try_except (wpAny_execs_cons (wpAny_Return_some ?_))
      refine xcal_sound SE SX K hr hok hsT g2 R EK ⟨fun fl H2 ρ2 h2 tk2 x hΨ pre2 R2 rv => ?_, fun w a H2 ρ2 h2 tk2 hΨ pre2 X2 => held K X2 (EK.up pre2) hg1 hg2 fun m' h' tk' x R' EK' rx => P.1 (.ret (.str w)) _ _ _ _ _ _ _ hΨ pre2 R' EK' (.ret rx)⟩
      cases rv with
      | next => exact P.1 _ _ _ _ _ _ _ _ hΨ pre2 R2 (EK.up pre2) (.ret .none)
      | ret r => exact P.1 _ _ _ _ _ _ _ _ hΨ pre2 R2 (EK.up pre2) (.ret r)
theorem aug_all (t : PySem.Expr) (op : Operator) (v : PySem.Expr) : (∃ o a p, t = .Attribute o a p) ∨ augS t op v = .bad := by
  cases t with
  | Attribute o a p => exact .inl ⟨o, a, p, rfl⟩
  | _ => exact .inr rfl
theorem step_sound (SE : SoundE c mean mg mb orc n) (SX : SoundX c mean mg mb orc n) (HT : ∀ k, k ≤ n → SoundT c mean mg mb orc k) (HS : ∀ k, k ≤ n → SoundS c mean mg mb orc k) (SLA : SoundLA c mean mg mb orc n) (K : FxOK c mean mg mb f) (hr : room f n) {s : Stmt} {Θ : Fl → ME → Hp → Prop} {Q : Flow → Shared → Prop} {E : Value → Shared → Prop}
    (hE : step1 (run orc n) me (cS s) H Θ) (R : Rl c f m ex ρ H h) (EK : EnvOK f c me f.env m ex ρ) (P : PS c f ex ρ Θ Q E) : wpAny (model prg c.w) f.A (exec s f.env) Q E (f.st h tk) := by
  have hint : interactive f.env = false := by
    unfold interactive
    rw [K.kind]; rfl
  cases s with
  | Expr v pos =>
    have hE : step1 (run orc n) me (match calN? v with
      | some p => .xcal (cod p.1) (cEs p.2)
      | none => sif (!isLC v) (.expr (cE v))) H Θ := hE
    cases hc : calN? v with
    | some p =>
      rw [hc] at hE
      obtain ⟨q, pos', rfl, hok, hs⟩ := calN_inv hc
      refine wpAny_Expr ?_ hint rfl
      refine xcal_sound SE SX K hr hok hs hE R EK ⟨fun fl H2 ρ2 h2 tk2 x hΨ pre2 R2 rv => ?_, fun w a H2 ρ2 h2 tk2 hΨ pre2 X2 => P.2 w a me H2 m ρ2 h2 tk2 hΨ pre2 X2 (EK.up pre2)⟩
      cases rv with
      | next => exact P.1 _ _ _ _ _ _ _ _ hΨ pre2 R2 (EK.up pre2) .next
      | ret r =>
        obtain ⟨z, hΨ⟩ := grd_inv hΨ
        cases V.none_inv z
        cases r
        exact P.1 _ _ _ _ _ _ _ _ hΨ pre2 R2 (EK.up pre2) .next
    | none =>
      rw [hc] at hE
      obtain ⟨hlc, hE⟩ := sif_inv hE
      have hE : (run orc n).E me (cE v) H fun v H => grd v.isNone (Θ .next me H) := hE
      refine wpAny_Expr (noE (SE f m ex ρ H h tk me f.env v _ _ K hE R EK hr ?_)) hint (swap_not (by simpa using hlc) hE)
      intro u H' ρ' h' tk' x hu pre R' ru
      obtain ⟨z, hu⟩ := grd_inv hu
      cases V.none_inv z
      cases ru
      exact P.1 _ _ _ _ _ _ _ _ hu pre R' (EK.up pre) .next
  | Return v pos =>
    cases v with
    | none => exact (show False from hE).elim
    | some v =>
      refine wpAny_Return_some (noE (SE f m ex ρ H h tk me f.env v _ _ K hE R EK hr ?_))
      intro u H' ρ' h' tk' x hu pre R' ru
      exact P.1 _ _ _ _ _ _ _ _ hu pre R' (EK.up pre) (.ret ru)
  | Assign ts v pos =>
    rcases ts with _ | ⟨t, _ | ⟨_, _⟩⟩
    · exact (show False from hE).elim
    · obtain ⟨hrow, hE⟩ := sif_inv (show step1 (run orc n) me (sif (rowOK v pos t && okT t) (.asg (cT t) (cE v))) H Θ from hE)
      obtain ⟨h1, h2⟩ := and_inv hrow
      obtain ⟨hok, hE⟩ := grd_inv hE
      exact asg_sound SE SLA K hr h1 h2 hok hE R EK P
    · exact (show False from hE).elim
  | AugAssign t op v pos =>
    rcases aug_all t op v with ⟨o, a, p, rfl⟩ | hb
    · obtain ⟨hy, hE⟩ := sif_inv (show step1 (run orc n) me (sif (inT a && op == .Add) (.aug (cE o) (cod a) (cE v))) H Θ from hE)
      obtain ⟨ha, ho⟩ := and_inv hy
      have hE2 : (run orc n).E me (cE o) H fun u H => som (getattr u (cod a) H) fun w => (run orc n).E me (cE v) H fun v H => som w.int? fun p => som v.pln? fun d => setattr u (cod a) (.int p.1 (p.2 + d)) H (Θ .next me) := hE
      cases beq_iff_eq.mp ho
      obtain ⟨e1, e2⟩ := nm_cod ha
      refine noE (wpAny_AugAssign_AttributeAny (SE f m ex ρ H h tk me f.env o _ _ K hE2 R EK hr ?_))
      intro u H' ρ' h' tk' x hu pre R' ru
      obtain ⟨w, hw, hu⟩ := som_inv hu
      have := getattr_sound (tk := tk') (Φ := fun w' H2 => w' = w ∧ H2 = H') (Q := fun old s₂ => wpAny (model prg c.w) f.A (eval v f.env) (fun v s₃ => wpAny (model prg c.w) f.A (inplaceOp .Add old v) (fun new s₄ =>
        wpAny (model prg c.w) f.A (setAttr x (nm (cod a)) new) (fun _ => Q .next) (fun _ _ => False) s₄) (fun _ _ => False) s₃) (fun _ _ => False) s₂) K R' hw ru ⟨rfl, rfl⟩ ?_
      · rw [e1] at this; exact this
      rintro _ _ ρ2 h2 tk2 y ⟨rfl, rfl⟩ pre2 R2 rw'
      refine SE f m ex ρ2 _ h2 tk2 me f.env v _ _ K hu R2 (EK.up (pre.trans pre2)) hr ?_
      intro z H3 ρ3 h3 tk3 zz hz pre3 R3 rz
      obtain ⟨p1, q1, hz⟩ := som_inv hz
      obtain ⟨d, q2, hz⟩ := som_inv hz
      obtain ⟨t, rfl⟩ := rv_sym rw' q1
      obtain ⟨t2, rfl⟩ := rv_pln rz q2
      refine AutoIntOps.iadd_0 (s := f.st h3 tk3) ?_
      exact setattr_sound (tk := tk3 + 1) (y := .int (c.val p1.1 + p1.2 + d) tk3) K R3 hz (ru.up (pre2.trans pre3)) (rv_i (by omega)) (Q := fun _ => Q .next) fun H4 h4 tk4 hΦ R4 => P.1 _ _ _ _ _ _ _ _ hΦ ((pre.trans pre2).trans pre3) R4 (EK.up ((pre.trans pre2).trans pre3)) .next
    · have hE : step1 (run orc n) me (augS t op v) H Θ := hE
      rw [hb] at hE; exact hE.elim
  | If t b o pos =>
    refine wpAny_If (noE (HT n (Nat.le_refl _) f m ex ρ H h tk me f.env t _ _ K hE R EK hr ?_))
    intro b' H' ρ' h' tk' hb pre R'
    cases b' with
    | true => exact HS n (Nat.le_refl _) f m ex ρ' H' h' tk' me b _ _ _ K hb R' (EK.up pre) hr (P.up pre)
    | false => exact HS n (Nat.le_refl _) f m ex ρ' H' h' tk' me o _ _ _ K hb R' (EK.up pre) hr (P.up pre)
  | While t b o pos =>
    obtain ⟨ho, hE⟩ := sif_inv (show step1 (run orc n) me (sif o.isEmpty (.whl (cE t) (cSs b))) H Θ from hE)
    cases List.isEmpty_iff.mp ho
    exact wpAny_While (while_sound HT HS K hr P hE R EK)
  | For t it b o pos =>
    obtain ⟨ho, hE⟩ := sif_inv (show step1 (run orc n) me (sif o.isEmpty (.for (tgs t) (cE it) (cSs b))) H Θ from hE)
    cases List.isEmpty_iff.mp ho
    have hE : (run orc n).E me (cE it) H fun s H => srcOf s H fun vs st H => forL (run orc n) (tgs t) (cSs b) s st vs vs me H Θ := hE
    refine wpAny_For (noE (SE f m ex ρ H h tk me f.env it _ _ K hE R EK hr ?_)) (fold_iter hE)
    intro u H' ρ' h' tk' x hu pre R' ru
    refine iter_start K R' hu ru fun vs st H2 ρ2 h2 oI hF pre2 R2 itat hs => ?_
    exact for_sound (HS n (Nat.le_refl _)) K hr P hF (pre.trans pre2) R2 ((EK.up pre).re K R' [] |>.up pre2) itat hs
  | Continue pos => exact wpAny_Continue (P.1 _ _ _ _ _ _ _ _ hE pre_rfl R EK .cont)
  | Raise e cs pos => exact raise_sound SE K hr hE R EK P
  | Try b hs o fin pos => exact try_sound SE SX K hr hE R EK P
  | _ => exact (show False from hE).elim
theorem sound_S (SE : SoundE c mean mg mb orc n) (SX : SoundX c mean mg mb orc n) (HT : ∀ k, k ≤ n → SoundT c mean mg mb orc k) (HS : ∀ k, k ≤ n → SoundS c mean mg mb orc k) (SLA : SoundLA c mean mg mb orc n) : SoundS c mean mg mb orc (n + 1) := by
  intro f m ex ρ H h tk me ss Ψ Q E K hE R EK hr1 P
  have hr := room_up hr1
  cases ss with
  | nil => exact wpAny_execs_nil (P.1 _ _ _ _ _ _ _ _ hE pre_rfl R EK .next)
  | cons s ss =>
    have hE : step1 (run orc n) me (cS s) H (fun f me H => match f with
      | .next => (run orc n).S me (cSs ss) H Ψ
      | .cont => Ψ .cont me H
      | .ret v => Ψ (.ret v) me H
      | .exc w => Ψ (.exc w) me H) := hE
    refine wpAny_execs_cons (step_sound SE SX HT HS SLA K hr hE R EK ⟨?_, fun w a me' H' m' ρ' h' tk' x y z u => P.2 w a me' H' m' ρ' h' tk' x y z u⟩)
    intro fl me' H' m' ρ' h' tk' fr hΨ pre R' EK' rf
    cases rf with
    | next => exact HS n (Nat.le_refl _) f m' ex ρ' H' h' tk' me' ss _ _ _ K hΨ R' EK' hr (P.up pre)
    | cont => exact P.1 _ _ _ _ _ _ _ _ hΨ pre R' EK' .cont
    | ret r => exact P.1 _ _ _ _ _ _ _ _ hΨ pre R' EK' (.ret r)
end
end N
end Mine
end
section
open PySem PySem.W PyProof.Rows PySem.Calls
set_option Elab.async false
set_option maxRecDepth 100000
set_option maxHeartbeats 1000000
namespace Mine
section
variable {prog : Program} {w : World} {A : Around} {E : Value → Shared → Prop} {R : Result → Shared → Prop} {s : Shared}
theorem loopB {elt target : PySem.Expr} {gens : List Comprehension} {scope : Scope} {pos pos0 : Pos} {d : Nat} {it acc : Value} {env : Env} {B : Sem Fin} (J : Nat → Shared → Prop)
    (hturn : compTurn (.ListComp elt gens scope pos) d it acc env = (standAt pos0 >>= fun _ => pyNext it >>= fun r => match r with | none => pure (.done .next) | some v => letOwnedTupleGo target it v >>= fun _ => assign target env v >>= fun _ => B))
    (turn : ∀ n s, J n s → wpAny (model prog w) A (pyNext it) (fun r s₁ => match r with
      | none => R (.ok .next) s₁
      | some v => wpAny (model prog w) A (letOwnedTupleGo target it v) (fun _ s₂ => wpAny (model prog w) A (assign target env v) (fun _ s₃ => wpAny (model prog w) A B (fun fin s₄ => fin = .again (.compLoop (.ListComp elt gens scope pos) d it acc env) ∧ ∃ m, m < n ∧ J m s₄)
          (fun _ _ => False) s₃) (fun _ _ => False) s₂) (fun _ _ => False) s₁) (fun _ _ => False) s)
    (n : Nat) (h : J n s) : codeAny (model prog w) A (.compLoop (.ListComp elt gens scope pos) d it acc env) R s := by
  have noE : ∀ {α : Type} {mm : Sem α} {Q : α → Shared → Prop} {E : Value → Shared → Prop} {s : Shared}, wpAny (model prog w) A mm Q (fun _ _ => False) s → wpAny (model prog w) A mm Q E s := fun h => wpAny_mono h (fun _ _ x => x) fun _ _ x => x.elim
  refine codeAny_loop rfl J (fun k s' hI => ?_) n h
  show wpAny _ A ((compTurn (.ListComp elt gens scope pos) d it acc env).onRaise (fun x => do noteFrame x env; theTreesLotGoes x)) _ _ _
  refine wpAny_noted ?_
  rw [hturn]
  refine wpAny_bind (wpAny_standAt (wpAny_bind (noE (wpAny_mono (turn k s' hI) (fun r s₁ h₁ => ?_) fun _ _ x => x))))
  cases r with
  | none => exact wpAny_pure h₁
  | some v => exact wpAny_bind (noE (wpAny_mono h₁ (fun _ s₂ h₂ => wpAny_bind (noE (wpAny_mono h₂ (fun _ s₃ h₃ => noE (wpAny_mono h₃ (fun fin s₄ h₄ => by
      obtain ⟨rfl, h₄⟩ := h₄
      exact ⟨rfl, h₄⟩) fun _ _ x => x)) fun _ _ x => x))) fun _ _ x => x))
end
namespace N
/-- the captured names' cells -/
noncomputable def clOf (env : Env) (l : List (PySem.Str × NameKind)) (cs : List (PySem.Str × Addr)) : List (PySem.Str × Addr) := match l with
  | [] => cs
  | y :: l => clOf env l (if y.2 == .free then (y.1, (env.cells.lookup y.1).getD 0) :: cs else cs)
theorem clOf_lookup {env : Env} {x : PySem.Str} {l : List (PySem.Str × NameKind)} : ∀ {cs : List (PySem.Str × Addr)}, ((x, NameKind.free) ∈ l ∨ cs.lookup x = some ((env.cells.lookup x).getD 0)) → (clOf env l cs).lookup x = some ((env.cells.lookup x).getD 0) := by
  induction l with
  | nil =>
    intro cs h
    rcases h with h | h
    · cases h
    · exact h
  | cons y l ih =>
    intro cs h
    rw [clOf]
    refine ih ?_
    rcases h with h | h
    · rcases List.mem_cons.mp h with h | h
      · right
        rw [← h, if_pos (by rfl), List.lookup_cons_self]
      · exact .inl h
    · right
      by_cases hk : (y.2 == NameKind.free) = true
      · rw [if_pos hk, List.lookup_cons]
        by_cases e : (x == y.1) = true
        · rw [e]; rw [beq_iff_eq.mp e]
        · have e' : (x == y.1) = false := by simpa using e
          rw [e']; exact h
      · rw [if_neg hk]; exact h
theorem closure_go {env : Env} {l : List (PySem.Str × NameKind)} : ∀ {cs : List (PySem.Str × Addr)}, (∀ y ∈ l, y.2 = .free → (env.cells.lookup y.1).isSome = true) →
    (forIn l cs (fun (x : PySem.Str × NameKind) (r : List (PySem.Str × Addr)) => (match x with | (name, kind) => if kind == .free then (do let a ← cellOf env name; pure (ForInStep.yield ((name, a) :: r))) else pure (ForInStep.yield r) : Sem (ForInStep (List (PySem.Str × Addr))))) : Sem (List (PySem.Str × Addr))) = pure (clOf env l cs) := by
  induction l with
  | nil => intro cs _; rfl
  | cons p l ih =>
    intro cs h
    obtain ⟨y, k⟩ := p
    rw [List.forIn_cons]
    by_cases hk : (k == NameKind.free) = true
    · obtain ⟨a, ha⟩ := Option.isSome_iff_exists.mp (h (y, k) (.head _) (beq_iff_eq.mp hk))
      have ha : env.cells.lookup y = some a := ha
      have e : cellOf env y = pure a := by unfold cellOf; rw [ha]
      simp only [hk, if_true, e, pure_bind, clOf]
      rw [ih fun z hz => h z (.tail _ hz), ha]; rfl
    · simp only [hk, Bool.false_eq_true, if_false, pure_bind, clOf]
      exact ih fun z hz => h z (.tail _ hz)
theorem closureFor_eq {env : Env} {sc : Scope} (h : ∀ y ∈ sc.names, y.2 = .free → (env.cells.lookup y.1).isSome = true) : closureFor sc env = pure (clOf env sc.names []) := by
  unfold closureFor
  have := closure_go (env := env) (l := sc.names) (cs := []) h
  simpa using this
theorem relabel_at {env : Env} {x : PySem.Str} {names : List (PySem.Str × NameKind)} {k : NameKind} : names.lookup x = some k →
    (names.map fun (n, k) => if (k == NameKind.free && env.scope.kind == .function && env.kindOf n == some .cell) then (n, NameKind.cell) else (n, k)).lookup x = some (if (k == NameKind.free && env.scope.kind == .function && env.kindOf x == some .cell) then .cell else k) := by
  induction names with
  | nil => intro h; cases h
  | cons p r ih =>
    obtain ⟨n, k'⟩ := p
    intro h
    show List.lookup x ((if (k' == NameKind.free && env.scope.kind == .function && env.kindOf n == some .cell) = true then (n, NameKind.cell) else (n, k')) :: _) = _
    rw [List.lookup_cons] at h
    cases hx : x == n with
    | true =>
      rw [hx] at h
      cases h
      cases beq_iff_eq.mp hx
      by_cases hc : (k == NameKind.free && env.scope.kind == .function && env.kindOf x == some .cell) = true
      · rw [if_pos hc, if_pos hc, List.lookup_cons_self]
      · rw [if_neg hc, if_neg hc, List.lookup_cons_self]
    | false =>
      rw [hx] at h
      by_cases hc : (k' == NameKind.free && env.scope.kind == .function && env.kindOf n == some .cell) = true
      · rw [if_pos hc, List.lookup_cons, hx]; exact ih h
      · rw [if_neg hc, List.lookup_cons, hx]; exact ih h
section
variable {n : Nat} {f : Fx} {m : PySem.Str → Option Value} {ex : List (Addr × Obj)} {ρ : List Addr} {H : Hp} {h h' : Heap} {tk : Nat} {me : ME} {env : Env}
/-- an object that is new -/
theorem Rl.exNew (K : FxOK c mean mg mb f) (R : Rl c f m ex ρ H h) {C : Addr} {oC : Obj} (hk : ∀ b o, h.get? b = some o → h'.get? b = some o) (hC : h.objs.size ≤ C) (e : h'.get? C = some oC) : Rl c f m ((C, oC) :: ex) ρ H h' := by
  obtain ⟨F, fs, led, l, a, b, N, nd, off⟩ := R
  have lt : ∀ p ∈ ex ++ (led ++ fs), p.1 < C := fun p hp => Nat.lt_of_lt_of_le (Heap.lt_size (N p hp).1) hC
  have nof : C ∉ frs f.outer := fun hm => by
    obtain ⟨o', ho', _⟩ := (K.frames.mem hm).2
    obtain ⟨sl, q⟩ := a _ _ hm ho'
    exact Nat.lt_irrefl _ (lt _ (List.mem_append_right _ (List.mem_append_right _ q)))
  have hL : f.L < C := Nat.lt_of_lt_of_le F.ns.lt hC
  have hg : f.gz.get? C = none := by
    cases q : f.gz.get? C with
    | none => rfl
    | some o => exact absurd (Heap.lt_size (F.keep _ _ q)) (Nat.not_lt.mpr hC)
  refine ⟨F.keeps hk, fs, led, l, a, b, fun p hp => ?_, ?_, fun p hp => ?_⟩
  · rcases List.mem_cons.mp hp with rfl | hp
    · exact ⟨e, Ne.symm (Nat.ne_of_lt hL), hg⟩
    · exact ⟨hk _ _ (N p hp).1, (N p hp).2⟩
  · rw [List.cons_append, List.map_cons, List.nodup_cons]
    refine ⟨fun hm => ?_, nd⟩
    obtain ⟨p, hp, e⟩ := List.mem_map.mp hm
    refine absurd (lt p ?_) (by rw [e]; exact Nat.lt_irrefl _)
    rcases List.mem_append.mp hp with hp | hp
    · exact List.mem_append_left _ hp
    · exact List.mem_append_right _ (List.mem_append_left _ hp)
  · rcases List.mem_cons.mp hp with rfl | hp
    · exact nof
    · exact off p hp
theorem EnvOK.lift {ex' : List (Addr × Obj)} (EK : EnvOK f c me env m ex ρ) (hs : ∀ p ∈ ex, p ∈ ex') : EnvOK f c me env m ex' ρ := by
  refine ⟨EK.kind, EK.gl, EK.bi, ?_, EK.cl, EK.gs, EK.ls⟩
  obtain ⟨m₁, h1, h2⟩ := EK.loc
  rcases h1 with h1 | ⟨oC, hC, hn'⟩
  · exact ⟨m₁, .inl h1, h2⟩
  · exact ⟨m₁, .inr ⟨oC, hs _ hC, hn'⟩, h2⟩
theorem lookc_filt {x k : Nat} {fr : List Nat} {l : List (Nat × Nat)} : lookc x (l.filter fun p => hasc p.1 fr) = some k → lookc x l = some k ∧ hasc x fr = true := by
  induction l with
  | nil => intro h; cases h
  | cons p l ih =>
    intro h
    rw [List.filter_cons] at h
    rw [lookc]
    by_cases hd : hasc p.1 fr = true
    · rw [if_pos hd, lookc] at h
      by_cases e : p.1 = x
      · rw [if_pos e] at h ⊢; exact ⟨h, e ▸ hd⟩
      · rw [if_neg e] at h ⊢; exact ih h
    · rw [if_neg hd] at h
      obtain ⟨i1, i2⟩ := ih h
      rw [if_neg fun (e : p.1 = x) => hd (by rw [e]; exact i2)]
      exact ⟨i1, i2⟩
theorem frs_mem {sc : Scope} {y : PySem.Str × NameKind} (hy : y ∈ sc.names) (h : (y.2 == .free && inT y.1 && sc.names.lookup y.1 == some .free) = true) : cod y.1 ∈ frs? sc := List.mem_filterMap.mpr ⟨y, hy, if_pos h⟩
theorem frs_inv {sc : Scope} {x : Nat} (hx : x ∈ frs? sc) : x < tb.length ∧ sc.names.lookup (nm x) = some .free ∧ (nm x, NameKind.free) ∈ sc.names := by
  obtain ⟨y, hy, q⟩ := List.mem_filterMap.mp hx
  by_cases z : (y.2 == .free && inT y.1 && sc.names.lookup y.1 == some .free) = true
  · rw [if_pos z] at q
    cases q
    obtain ⟨z, z3⟩ := and_inv z
    obtain ⟨z1, z2⟩ := and_inv z
    obtain ⟨e1, e2⟩ := nm_cod z2
    rw [e1]
    exact ⟨e2, beq_iff_eq.mp z3, by rw [← beq_iff_eq.mp z1]; exact hy⟩
  · rw [if_neg z] at q; cases q
theorem gls_inv {sc : Scope} {x : Nat} (hx : x ∈ gls? sc) : x < tb.length ∧ sc.names.lookup (nm x) = some .globalImplicit := by
  obtain ⟨y, hy, q⟩ := List.mem_filterMap.mp hx
  by_cases z : (y.2 == .globalImplicit && inT y.1 && sc.names.lookup y.1 == some .globalImplicit) = true
  · rw [if_pos z] at q
    cases q
    obtain ⟨z, z3⟩ := and_inv z
    obtain ⟨z1, z2⟩ := and_inv z
    obtain ⟨e1, e2⟩ := nm_cod z2
    rw [e1]
    exact ⟨e2, beq_iff_eq.mp z3⟩
  · rw [if_neg z] at q; cases q
/-- what a comprehension's own scope tells -/
structure ScI (sc : Scope) (xs : List Nat) : Prop where
  kind : sc.kind = .function
  cell : ∀ y ∈ sc.names, y.2 ≠ .cell
  loc : ∀ y ∈ sc.names, y.2 = .local → sc.names.lookup y.1 = some .local
  fr : ∀ y ∈ sc.names, y.2 = .free → cod y.1 ∈ frs? sc ∧ inT y.1 = true
  xs : ∀ x ∈ xs, x < tb.length ∧ sc.names.lookup (nm x) = some .local
theorem scI {sc : Scope} {xs : List Nat} (h : scOK sc xs = true) : ScI sc xs := by
  obtain ⟨h, h3⟩ := and_inv h
  obtain ⟨h1, h2⟩ := and_inv h
  have h2 := List.all_eq_true.mp h2
  have h3 := List.all_eq_true.mp h3
  refine ⟨beq_iff_eq.mp h1, fun y hy => ?_, fun y hy e => ?_, fun y hy e => ?_, fun x hx => ?_⟩
  · obtain ⟨z, _⟩ := and_inv (h2 y hy)
    exact bne_iff_ne.mp (and_inv z).1
  · obtain ⟨z, _⟩ := and_inv (h2 y hy)
    rcases (Bool.or_eq_true _ _).mp (and_inv z).2 with z | z
    · exact absurd e (bne_iff_ne.mp z)
    · exact beq_iff_eq.mp z
  · obtain ⟨_, z⟩ := and_inv (h2 y hy)
    rcases (Bool.or_eq_true _ _).mp z with z | z
    · exact absurd e (bne_iff_ne.mp z)
    · obtain ⟨z1, z2⟩ := and_inv z
      refine ⟨frs_mem hy ?_, z1⟩
      rw [beq_iff_eq.mpr e, z1, z2]; rfl
  · obtain ⟨z1, z2⟩ := and_inv (h3 x hx)
    exact ⟨of_decide_eq_true z2, beq_iff_eq.mp z1⟩
/-- a comprehension's names at hand -/
theorem comp_env {sc : Scope} {xs : List Nat} {C : Addr} {oC : Obj} {m' : PySem.Str → Option Value} (EK : EnvOK f c me env m ex ρ) (hsc : ScI sc xs) (hfr : frOK me (frs? sc) = true) (hC : LCg.NsObj oC m') :
    closureFor sc env = pure (clOf env sc.names []) ∧ EnvOK f c (sub1 me (frs? sc) (gls? sc) xs) (compEnvC sc (clOf env sc.names []) C env) m [(C, oC)] ρ := by
  have cl : ∀ x ∈ frs? sc, ∃ k, lookc x me.cl = some k := fun x hx => Option.isSome_iff_exists.mp (List.all_eq_true.mp hfr x hx)
  have cells : ∀ y ∈ sc.names, y.2 = .free → (env.cells.lookup y.1).isSome = true := fun y hy hk => by
    obtain ⟨g1, g2⟩ := hsc.fr y hy hk
    obtain ⟨k, hk'⟩ := cl _ g1
    obtain ⟨_, _, a, _, ha⟩ := EK.cl _ _ hk'
    rw [(nm_cod g2).1] at ha
    rw [ha]; rfl
  refine ⟨closureFor_eq cells, hsc.kind, EK.gl, EK.bi, ⟨m', .inr ⟨oC, .head _, hC⟩, fun x v e => nomatch e⟩, fun x k e => ?_, fun x e => ?_, fun x e => ?_⟩
  · obtain ⟨e1, e2⟩ := lookc_filt e
    obtain ⟨hx, hk, a, ha, hl⟩ := EK.cl x k e1
    obtain ⟨_, g1, g2⟩ := frs_inv (hasc_iff.mp e2)
    refine ⟨hx, ?_, a, ha, ?_⟩
    · show List.lookup (nm x) (relabel sc env).names = _
      rw [relabel, relabel_at g1, if_pos]
      rw [EK.kind, hk]
      rfl
    · show (clOf env sc.names []).lookup (nm x) = some a
      rw [clOf_lookup (.inl g2), hl]; rfl
  · obtain ⟨g1, g2⟩ := gls_inv (hasc_iff.mp e)
    refine ⟨g1, ?_⟩
    show List.lookup (nm x) (relabel sc env).names = _
    rw [relabel, relabel_at g2]; rfl
  · obtain ⟨g1, g2⟩ := hsc.xs x (hasc_iff.mp e)
    refine ⟨g1, ?_⟩
    show List.lookup (nm x) (relabel sc env).names = _
    rw [relabel, relabel_at g2]; rfl
/-- a comprehension's names: its namespace C, its list D -/
noncomputable def JC (C D : Addr) (ex0 : List (Addr × Obj)) (m0 : PySem.Str → Option Value) (ρ : List Addr) (ys : List V) : Shape := fun m ex exE => m = m0 ∧ ∃ oC zs, ex = (C, oC) :: (D, LCg.lst zs) :: ex0 ∧ exE = [(C, oC)] ∧ RVs c.val ρ ys zs
theorem bd_comp (hL : env.locals ≠ f.L) {C D I : Addr} (hC : env.locals = C) {ex0 : List (Addr × Obj)} {m0 : PySem.Str → Option Value} {ρ₀ : List Addr} {ys : List V} {oI : Obj} : Bd f env fun m ex exE => ∃ ex', ex = (I, oI) :: ex' ∧ JC C D ex0 m0 ρ₀ ys m ex' exE := by
  rintro m _ _ ρ H h tk me x v y Φ Q ⟨_, rfl, rfl, oC, zs, rfl, rfl, rz⟩ R EK hB rv q
  unfold bindN at hB
  cases e : lookc x me.cl with
  | some k =>
    rw [e] at hB
    exact bind_cellN R EK e hB rv fun H' h' hΦ R' => q _ _ _ _ _ h' tk hΦ ⟨_, rfl, rfl, oC, zs, rfl, rfl, rz⟩ R' EK
  | none =>
    rw [e] at hB
    obtain ⟨hl, hB⟩ := grd_inv hB
    obtain ⟨hx, hk⟩ := EK.ls x hl
    obtain ⟨m₁, h1, h2⟩ := EK.loc
    have hn₁ : LCg.NsObj oC m₁ := by
      rcases h1 with h1 | ⟨oC2, hC2, hn'⟩
      · exact absurd h1.1 hL
      · rw [List.mem_singleton] at hC2
        cases hC2; exact hn'
    have R1 := R.perm (List.Perm.swap (C, oC) (I, oI) _)
    refine wpAny_storeName_local (s := f.st h tk) hk (by rw [hC]; exact hn₁.ns R1.head) (fun h' hn hs => ?_) (by rw [EK.kind]; rfl)
    rw [hC] at hn hs
    obtain ⟨oC', e', hn'⟩ := LCg.ns_obj hn
    exact q _ H _ _ _ h' _ hB ⟨_, rfl, rfl, oC', zs, rfl, rfl, rz⟩ ((R1.exBut (fun b o hb e => hs.extBut b o hb e) e').perm (List.Perm.swap (I, oI) (C, oC') _)) (EK.put hl rv ⟨m₁, h1, h2, rfl, .inr ⟨oC', by rw [hC]; exact .head _, hn'⟩⟩)
end
end N
end Mine
end
section
open PySem PySem.W PyProof.Rows PySem.Calls
set_option Elab.async false
set_option maxRecDepth 100000
set_option maxHeartbeats 1000000
namespace Mine
section
variable {prog : Program} {w : World} {A : Around} {E : Value → Shared → Prop} {s : Shared}
theorem turnC (elt target iter cx : PySem.Expr) (scope : Scope) (pos : Pos) (it acc : Value) (env : Env) :
    compTurn (.ListComp elt [⟨target, iter, [cx], 0⟩] scope pos) 0 it acc env = (standAt iter.pos >>= fun _ => pyNext it >>= fun r => match r with
      | none => pure (.done .next)
      | some v => letOwnedTupleGo target it v >>= fun _ => assign target env v >>= fun _ =>
        ((forIn [cx] true fun c r => if r = true then do let ok ← isTrue c env (eval c env); pure (ForInStep.yield ok) else pure (ForInStep.yield r)) >>= fun ok =>
          if ok = true then ((eval elt env >>= fun x => call (.builtin "list.append") [acc, x] >>= fun _ => pure ()) >>= fun _ => again (.compLoop (.ListComp elt [⟨target, iter, [cx], 0⟩] scope pos) 0 it acc env))
          else again (.compLoop (.ListComp elt [⟨target, iter, [cx], 0⟩] scope pos) 0 it acc env))) := by rfl
theorem turn2_0 (elt i1 i2 t1 t2 : PySem.Expr) (scope : Scope) (pos : Pos) (it acc : Value) (env : Env) :
    compTurn (.ListComp elt [⟨t1, i1, [], 0⟩, ⟨t2, i2, [], 0⟩] scope pos) 0 it acc env = (standAt i1.pos >>= fun _ => pyNext it >>= fun r => match r with
      | none => pure (.done .next)
      | some v => letOwnedTupleGo t1 it v >>= fun _ => assign t1 env v >>= fun _ =>
        (eval i2 env >>= fun x => standAt i2.pos >>= fun _ => foldedSetIterable i2 env x >>= fun x => holding [x] (pyIter x) >>= fun it2 =>
          runOwn (.compStart (.ListComp elt [⟨t1, i1, [], 0⟩, ⟨t2, i2, [], 0⟩] scope pos) 1 it2 acc env) env >>= fun _ =>
          again (.compLoop (.ListComp elt [⟨t1, i1, [], 0⟩, ⟨t2, i2, [], 0⟩] scope pos) 0 it acc env))) := by rfl
theorem turn2_1 (elt i1 i2 t1 t2 : PySem.Expr) (scope : Scope) (pos : Pos) (it acc : Value) (env : Env) :
    compTurn (.ListComp elt [⟨t1, i1, [], 0⟩, ⟨t2, i2, [], 0⟩] scope pos) 1 it acc env = (standAt i2.pos >>= fun _ => pyNext it >>= fun r => match r with
      | none => pure (.done .next)
      | some v => letOwnedTupleGo t2 it v >>= fun _ => assign t2 env v >>= fun _ =>
        ((eval elt env >>= fun x => call (.builtin "list.append") [acc, x] >>= fun _ => pure ()) >>= fun _ =>
          again (.compLoop (.ListComp elt [⟨t1, i1, [], 0⟩, ⟨t2, i2, [], 0⟩] scope pos) 1 it acc env))) := by rfl
theorem start2 {elt i1 i2 t1 t2 : PySem.Expr} {scope : Scope} {pos : Pos} {it acc : Value} {env : Env} {R : Result → Shared → Prop}
    (h0 : codeAny (model prog w) A (.compLoop (.ListComp elt [⟨t1, i1, [], 0⟩, ⟨t2, i2, [], 0⟩] scope pos) 1 it acc env) R s)
    (h : wpAny (model prog w) A (pyIter it) (fun it' s' => codeAny (model prog w) A (.compLoop (.ListComp elt [⟨t1, i1, [], 0⟩, ⟨t2, i2, [], 0⟩] scope pos) 1 it' acc env) R s')
      (notedBy (model prog w) A env fun x s' => R (.error x) s') s) :
    codeAny (model prog w) A (.compStart (.ListComp elt [⟨t1, i1, [], 0⟩, ⟨t2, i2, [], 0⟩] scope pos) 1 it acc env) R s := by
  refine codeAny_of_tree ?_
  show wpAny _ _ ((compStart (.ListComp elt [⟨t1, i1, [], 0⟩, ⟨t2, i2, [], 0⟩] scope pos) 1 it acc env).onRaise (fun x => do noteFrame x env; standAt theWindowsPlace)) _ _ s
  refine wpAny_notedAt ?_
  unfold compStart
  show wpAny _ _ (ask >>= _) _ _ s
  refine wpAny_bind (wpAny_askSetting (wpAny_ite ?_))
  split
  · exact wpAny_bind (wpAny_pure (wpAny_pure (And.intro rfl h0)))
  · exact wpAny_bind (wpAny_rule (wpAny_bind (wpAny_standAt (wpAny_bind (wpAny_mono h (fun it' s' h' => wpAny_pure (And.intro rfl h')) fun _ _ x => x)))))
end
namespace N
section
variable {n : Nat} {f : Fx} {m : PySem.Str → Option Value} {ex : List (Addr × Obj)} {ρ : List Addr} {H : Hp} {h h' : Heap} {tk : Nat} {me : ME} {env : Env}
/-- a member is computed and appended -/
noncomputable def MemW (f : Fx) (env : Env) (elt : PySem.Expr) (D : Addr) (q : Shared → Prop) (s : Shared) : Prop :=
  wpAny (model prg c.w) f.A (eval elt env) (fun x s => wpAny (model prg c.w) f.A (call (.builtin "list.append") [.ref D, x]) (fun _ s => q s) (fun _ _ => False) s) (fun _ _ => False) s
/-- a turn's emission, with or without a condition -/
noncomputable def EmW (f : Fx) (env : Env) (elt : PySem.Expr) (cs : List PySem.Expr) (D : Addr) (q : Shared → Prop) (s : Shared) : Prop := match cs with
  | [] => MemW f env elt D q s
  | cx :: _ => wpAny (model prg c.w) f.A (isTrue cx env (eval cx env)) (fun ok s => if ok = true then MemW f env elt D q s else q s) (fun _ _ => False) s
/-- a member is appended -/
theorem append_sound {D : Addr} {zs : List Value} {y : Value} {Q : Value → Shared → Prop} (R : Rl c f m ((D, LCg.lst zs) :: ex) ρ H h) (hz : zs.length ≤ 1000) (q : ∀ h', Rl c f m ((D, LCg.lst (zs ++ [y])) :: ex) ρ H h' → Q .none (f.st h' tk)) :
    wpAny (model prg c.w) f.A (call (.builtin "list.append") [.ref D, y]) Q (fun _ _ => False) (f.st h tk) :=
  append_at (s := f.st h tk) (hsz := by rw [List.size_toArray]; exact sizeLine_of hz) R.head fun h' hs e => q h' (R.exBut (fun b o hb e => hs.extBut b o hb e) (e.trans (congrArg some (LCg.lst_snoc zs y))))
theorem emit_sound (SE : SoundE c mean mg mb orc n) (ST : SoundT c mean mg mb orc n) (K : FxOK c mean mg mb f) (hr : room f n) {elt : PySem.Expr} {cs : List PySem.Expr} {I C D : Addr} {oI oC : Obj} {zs : List Value} {ys : List V} {Φ : List V → Hp → Prop} {q : Shared → Prop} (hz : ys.length ≤ 1000) (hE : emit (run orc n) me (cE elt) (cEs cs) ys H Φ)
    (R : Rl c f m ((I, oI) :: (C, oC) :: (D, LCg.lst zs) :: ex) ρ H h) (EK : EnvOK f c me env m [(C, oC)] ρ) (rz : RVs c.val ρ ys zs)
    (fin : ∀ ys' H' ρ' h' tk' zs', Φ ys' H' → ρ <+: ρ' → Rl c f m ((I, oI) :: (C, oC) :: (D, LCg.lst zs') :: ex) ρ' H' h' → RVs c.val ρ' ys' zs' → q (f.st h' tk')) : EmW f env elt cs D q (f.st h tk) := by
  have hsub : ∀ p ∈ [(C, oC)], p ∈ (I, oI) :: (C, oC) :: (D, LCg.lst zs) :: ex := fun p hp => by
    rw [List.mem_singleton.mp hp]; exact .tail _ (.head _)
  have one : ∀ {ρ3 : List Addr} {H3 : Hp} {h3 : Heap} {tk3 : Nat}, ρ <+: ρ3 → Rl c f m ((I, oI) :: (C, oC) :: (D, LCg.lst zs) :: ex) ρ3 H3 h3 → ((run orc n).E me (cE elt) H3 fun y H => Φ (ys ++ [y]) H) → MemW f env elt D q (f.st h3 tk3) := by
    intro ρ3 H3 h3 tk3 pre R3 hE
    refine SE f m _ ρ3 H3 h3 tk3 me env elt _ _ K hE R3 ((EK.up pre).lift hsub) hr ?_
    intro u H4 ρ4 h4 tk4 x hu pre4 R4 ru
    have p3 : ((I, oI) :: (C, oC) :: (D, LCg.lst zs) :: ex).Perm ((D, LCg.lst zs) :: (I, oI) :: (C, oC) :: ex) := (List.Perm.cons _ (List.Perm.swap ..)).trans (List.Perm.swap ..)
    refine append_sound (R4.perm p3) (by rw [rz.length]; exact hz) fun h5 R5 => ?_
    have p4 : ((D, LCg.lst (zs ++ [x])) :: (I, oI) :: (C, oC) :: ex).Perm ((I, oI) :: (C, oC) :: (D, LCg.lst (zs ++ [x])) :: ex) := (List.Perm.swap ..).trans (List.Perm.cons _ (List.Perm.swap ..))
    exact fin _ _ _ _ _ _ hu (pre.trans pre4) (R5.perm p4) ((rz.up (pre.trans pre4)).append (.cons ru .nil))
  cases cs with
  | nil => exact one pre_rfl R hE
  | cons cx cs =>
    obtain ⟨_, hE⟩ := grd_inv (show grd _ ((run orc n).T me (cE cx) H fun b H => ifs b ((run orc n).E me (cE elt) H fun y H => Φ (ys ++ [y]) H) (Φ ys H)) from hE)
    refine ST f m _ ρ H h tk me env cx _ _ K hE R (EK.lift hsub) hr ?_
    intro b H3 ρ3 h3 tk3 hb pre R3
    cases b with
    | true => rw [if_pos rfl]; exact one pre R3 hb
    | false => rw [if_neg (by decide)]; exact fin _ _ _ _ _ _ hb pre R3 (rz.up pre)
/-- one clause's loop -/
theorem compL_sound (SE : SoundE c mean mg mb orc n) (ST : SoundT c mean mg mb orc n) (K : FxOK c mean mg mb f) (hr : room f n) {elt t : PySem.Expr} {gens : List Comprehension} {scope : Scope} {pos pos0 : Pos} {d : Nat} {I C D : Addr} {B : Sem Fin} {cs : List PySem.Expr} {src : V} {st : Option (Option Nat)} {all : List V} {Ψ : List V → ME → Hp → Prop} {RR : Result → Shared → Prop}
    (hL : env.locals ≠ f.L) (hC : env.locals = C)
    (hturn : compTurn (.ListComp elt gens scope pos) d (.ref I) (.ref D) env = (standAt pos0 >>= fun _ => pyNext (.ref I) >>= fun r => match r with | none => pure (.done .next) | some v => letOwnedTupleGo t (.ref I) v >>= fun _ => assign t env v >>= fun _ => B))
    (hB : ∀ (Q : Fin → Shared → Prop) (s : Shared), EmW f env elt cs D (Q (.again (.compLoop (.ListComp elt gens scope pos) d (.ref I) (.ref D) env))) s → wpAny (model prg c.w) f.A B Q (fun _ _ => False) s)
    {oC oI : Obj} {zs : List Value} {ys : List V} (EK : EnvOK f c me env m [(C, oC)] ρ) (R : Rl c f m ((I, oI) :: (C, oC) :: (D, LCg.lst zs) :: ex) ρ H h) (it : ItAt c ρ src st all 0 oI) (hs : still src st all H = true) (rys : RVs c.val ρ ys zs)
    (hE : compL (run orc n) me (cE elt) (tgs t) (cEs cs) src st all all ys H Ψ)
    (fin : ∀ ys me H zs oC ρ' h tk, Ψ ys me H → ρ <+: ρ' → Rl c f m ((C, oC) :: (D, LCg.lst zs) :: ex) ρ' H h → EnvOK f c me env m [(C, oC)] ρ' → RVs c.val ρ' ys zs → RR (.ok .next) (f.st h tk)) :
    codeAny (model prg c.w) f.A (.compLoop (.ListComp elt gens scope pos) d (.ref I) (.ref D) env) RR (f.st h tk) := by
  refine loopB (LI f env I (JC C D ex m) ρ src st all fun ys vs me H => compL (run orc n) me (cE elt) (tgs t) (cEs cs) src st all vs ys H Ψ) hturn (fun k s x => x.turn (t := t)
    (Nx := fun (ys : List V) vs me H => grd (Nat.ble ys.length 1000) (emit (run orc n) me (cE elt) (cEs cs) ys H fun ys H => grd (still src st all H) (compL (run orc n) me (cE elt) (tgs t) (cEs cs) src st all vs ys H Ψ))) (fun ρ a oI => bd_comp hL hC) (fun a v vs me H h => h) ?_ ?_) all.length
    (.mk (i := 0) (a := ys) (Nat.zero_le _) hE pre_rfl ⟨rfl, oC, zs, rfl, rfl, rys⟩ R EK it hs)
  · rintro ys me H m' _ _ ρ' h tk hE pre ⟨rfl, oC, zs, rfl, rfl, rz⟩ R EK
    exact fin ys me H zs oC ρ' h tk hE pre R EK rz
  · rintro ys vs me H m' _ _ ρ' oI h tk hN pre ⟨rfl, oC, zs, rfl, rfl, rz⟩ R EK next
    obtain ⟨hz, hN⟩ := grd_inv hN
    refine hB _ _ (emit_sound SE ST K hr (Nat.le_of_ble_eq_true hz) hN R EK rz fun ys' H' ρ2 h' tk' zs' hΦ pre2 R2 rz2 => ⟨rfl, ?_⟩)
    exact next (a' := ys') hΦ pre2 ⟨rfl, oC, zs', rfl, rfl, rz2⟩ R2 (EK.up pre2)
end
end N
end Mine
end
section
open PySem PySem.W PyProof.Rows PySem.Calls
set_option Elab.async false
set_option maxRecDepth 100000
set_option maxHeartbeats 1000000
namespace Mine
namespace N
section
variable {n : Nat} {f : Fx} {m : PySem.Str → Option Value} {ex : List (Addr × Obj)} {ρ : List Addr} {H : Hp} {h h' : Heap} {tk : Nat} {me : ME} {env : Env}
theorem iter_self {A : Around} {E : Value → Shared → Prop} {Q : Value → Shared → Prop} {x : V} {st : Option (Option Nat)} {vs : List V} {i : Nat} {I : Addr} {oI : Obj} {s : Shared} (it : ItAt c ρ x st vs i oI) (hI : s.heap.get? I = some oI) (q : Q (.ref I) s) :
    wpAny (model prg c.w) A (pyIter (.ref I)) Q E s := by
  cases it with
  | list e e1 e2 _ => exact wpAny_pyIter_listiter ⟨oI, hI, e1, e2⟩ q
  | range => exact wpAny_pyIter_rangeiter hI q
  | dict e e' e1 e2 => exact wpAny_pyIter_keyiter ⟨oI, hI, e1, e2⟩ q
/-- an object beside the ledger goes into it -/
theorem Rl.into {D : Addr} {ob : Obj} {o : O} (R : Rl c f m ((D, ob) :: ex) ρ H h) (x : RO c (ρ ++ [D]) o D [(D, ob)]) : Rl c f m ex (ρ ++ [D]) (H ++ [o]) h := by
  obtain ⟨F, fs, led, l, a, b, N, nd, off⟩ := R
  have pm : ((D, ob) :: ex ++ led).Perm (ex ++ (led ++ [(D, ob)])) := by
    rw [List.cons_append, ← List.append_assoc]
    exact (List.perm_append_singleton _ _).symm
  refine ⟨F, fs, led ++ [(D, ob)], (l.up (List.prefix_append _ _)).snoc x, a, b, fun p hp => N p ?_, ((pm.map (·.1)).nodup_iff).mp nd, fun p hp => off p (pm.mem_iff.mpr hp)⟩
  rw [← List.append_assoc] at hp ⊢
  rcases List.mem_append.mp hp with hp | hp
  · exact List.mem_append_left _ (pm.mem_iff.mpr hp)
  · exact List.mem_append_right _ hp
theorem ns_of (hL : env.locals ≠ f.L) {C : Addr} {oC : Obj} (hC : env.locals = C) (EK : EnvOK f c me env m [(C, oC)] ρ) : ∃ m₁, LCg.NsObj oC m₁ := by
  obtain ⟨m₁, h1, h2⟩ := EK.loc
  rcases h1 with h1 | ⟨oC2, hC2, hn'⟩
  · exact absurd h1.1 hL
  · rw [List.mem_singleton] at hC2
    cases hC2; exact ⟨m₁, hn'⟩
/-- what the evaluator says of the rest of an outer clause -/
noncomputable abbrev EvLL (n : Nat) (elt t1 t2 i2 : PySem.Expr) (src : V) (st : Option (Option Nat)) (all : List V) (Ψ : List V → Hp → Prop) (ys vs : List V) (me : ME) (H : Hp) : Prop := compLL (run orc n) me (cE elt) (tgs t1) (tgs t2) (cE i2) src st all vs ys H Ψ
theorem compLL_sound (SE : SoundE c mean mg mb orc n) (ST : SoundT c mean mg mb orc n) (K : FxOK c mean mg mb f) (hr : room f n) {elt i1 i2 t1 t2 : PySem.Expr} {scope : Scope} {pos : Pos} {I C D : Addr} {src : V} {st : Option (Option Nat)} {all : List V} {Ψ : List V → Hp → Prop} {RR : Result → Shared → Prop}
    (hL : env.locals ≠ f.L) (hC : env.locals = C)
    {oC oI : Obj} {zs : List Value} {ys : List V} (EK : EnvOK f c me env m [(C, oC)] ρ) (R : Rl c f m ((I, oI) :: (C, oC) :: (D, LCg.lst zs) :: ex) ρ H h) (it : ItAt c ρ src st all 0 oI) (hs : still src st all H = true) (rys : RVs c.val ρ ys zs)
    (hE : compLL (run orc n) me (cE elt) (tgs t1) (tgs t2) (cE i2) src st all all ys H Ψ)
    (fin : ∀ ys me H zs oC ρ' h tk, Ψ ys H → ρ <+: ρ' → Rl c f m ((C, oC) :: (D, LCg.lst zs) :: ex) ρ' H h → EnvOK f c me env m [(C, oC)] ρ' → RVs c.val ρ' ys zs → RR (.ok .next) (f.st h tk)) :
    codeAny (model prg c.w) f.A (.compLoop (.ListComp elt [⟨t1, i1, [], 0⟩, ⟨t2, i2, [], 0⟩] scope pos) 0 (.ref I) (.ref D) env) RR (f.st h tk) := by
  refine loopB (LI f env I (JC C D ex m) ρ src st all (EvLL n elt t1 t2 i2 src st all Ψ)) (turn2_0 elt i1 i2 t1 t2 scope pos _ _ _) (fun k s x => x.turn (t := t1)
    (Nx := fun (ys : List V) vs me H => (run orc n).E me (cE i2) H fun s2 H => srcOf s2 H fun ws st2 H => compL (run orc n) me (cE elt) (tgs t2) [] s2 st2 ws ws ys H fun ys me H => grd (still src st all H) (compLL (run orc n) me (cE elt) (tgs t1) (tgs t2) (cE i2) src st all vs ys H Ψ)) (fun ρ a oI => bd_comp hL hC) (fun a v vs me H h => h) ?_ ?_) all.length
    (.mk (i := 0) (a := ys) (Nat.zero_le _) hE pre_rfl ⟨rfl, oC, zs, rfl, rfl, rys⟩ R EK it hs)
  · rintro ys me H m' _ _ ρ' h tk hE pre ⟨rfl, oC, zs, rfl, rfl, rz⟩ R EK
    exact fin ys me H zs oC ρ' h tk hE pre R EK rz
  · rintro ys vs me H m' _ _ ρ' oI h tk hN pre ⟨rfl, oC, zs, rfl, rfl, rz⟩ R EK next
    have hsub : ∀ p ∈ [(C, oC)], p ∈ (I, oI) :: (C, oC) :: (D, LCg.lst zs) :: ex := fun p hp => by
      rw [List.mem_singleton.mp hp]; exact .tail _ (.head _)
    refine wpAny_bind (SE f _ _ ρ' H h tk me env i2 _ _ K hN R (EK.lift hsub) hr ?_)
    intro u H3 ρ3 h3 tk3 x hu pre3 R3 ru
    refine wpAny_bind (wpAny_standAt (wpAny_bind (wpAny_of_eq (fold_iter hN x) (wpAny_bind (wpAny_holding ?_)))))
    refine iter_start K R3 hu ru fun ws st2 H4 ρ4 h4 oJ hF pre4 R4 itJ hs4 => ?_
    refine wpAny_bind (wpAny_runOwn ?_)
    have p3 : ((h3.objs.size, oJ) :: (I, oI) :: (C, oC) :: (D, LCg.lst zs) :: ex).Perm ((h3.objs.size, oJ) :: (C, oC) :: (D, LCg.lst zs) :: (I, oI) :: ex) := List.Perm.cons _ ((List.Perm.swap ..).trans (List.Perm.cons _ (List.Perm.swap ..)))
    have loop : ∀ RJ : Result → Shared → Prop, (∀ s', (∃ k', k' < k ∧ LI f env I (JC C D ex m') ρ src st all (EvLL n elt t1 t2 i2 src st all Ψ) k' s') → RJ (.ok .next) s') → codeAny (model prg c.w) f.A (.compLoop (.ListComp elt [⟨t1, i1, [], 0⟩, ⟨t2, i2, [], 0⟩] scope pos) 1 (.ref h3.objs.size) (.ref D) env) RJ (f.st h4 tk3) := by
      intro RJ hRJ
      refine compL_sound (cs := []) SE ST K hr hL hC (turn2_1 elt i1 i2 t1 t2 scope pos _ _ _) (fun Q s hb => wpAny_bind (wpAny_bind (wpAny_mono hb (fun x s₁ h₁ => wpAny_bind (wpAny_mono h₁ (fun _ s₂ h₂ => wpAny_pure (wpAny_pure h₂)) fun _ _ x => x)) fun _ _ x => x))) (EK.up (pre3.trans pre4)) (R4.perm p3) itJ hs4 (rz.up (pre3.trans pre4)) hF ?_
      intro ys5 me5 H5 zs5 oC5 ρ5 h5 tk5 hΨ pre5 R5 EK5 rys5
      have p5 : ((C, oC5) :: (D, LCg.lst zs5) :: (I, oI) :: ex).Perm ((I, oI) :: (C, oC5) :: (D, LCg.lst zs5) :: ex) := (List.Perm.cons _ (List.Perm.swap ..)).trans (List.Perm.swap ..)
      exact hRJ _ (next (a' := ys5) hΨ ((pre3.trans pre4).trans pre5) ⟨rfl, oC5, zs5, rfl, rfl, rys5⟩ (R5.perm p5) EK5)
    refine start2 ?l1 (iter_self itJ R4.head ?l1)
    exact loop _ fun s' h => wpAny_pure ⟨rfl, h⟩
/-- a comprehension, whatever its loop -/
theorem comp_run (SE : SoundE c mean mg mb orc n) (K : FxOK c mean mg mb f) (hr : room f n) {elt target iter : PySem.Expr} {ifs : List PySem.Expr} {gs : List Comprehension} {sc : Scope} {pos pos0 : Pos} {xs : List Nat} {use : Option (Value → Sem Unit)} {LOOP : V → Option (Option Nat) → List V → Hp → Prop} {FIN : List V → Hp → Prop} {Q : Value → Shared → Prop}
    (hsc : ScI sc xs) (hfr : frOK me (frs? sc) = true) (hE : (run orc n).E me (cE iter) H fun s H => srcOf s H fun vs st H => LOOP s st vs H) (R : Rl c f m ex ρ H h) (EK : EnvOK f c me env m ex ρ)
    (loop : ∀ (I C D : Addr) (cenv : Env) (oI oC : Obj) (s : V) (st : Option (Option Nat)) (vs : List V) (ρ' : List Addr) (H' : Hp) (h' : Heap) (tk' : Nat) (RR : Result → Shared → Prop), LOOP s st vs H' → ρ <+: ρ' → cenv.locals ≠ f.L → cenv.locals = C → EnvOK f c (sub1 me (frs? sc) (gls? sc) xs) cenv m [(C, oC)] ρ' →
      Rl c f m ((I, oI) :: (C, oC) :: (D, LCg.lst []) :: ex) ρ' H' h' → ItAt c ρ' s st vs 0 oI → still s st vs H' = true →
      (∀ ys me H zs oC ρ2 h tk, FIN ys H → ρ' <+: ρ2 → Rl c f m ((C, oC) :: (D, LCg.lst zs) :: ex) ρ2 H h → EnvOK f c me cenv m [(C, oC)] ρ2 → RVs c.val ρ2 ys zs → RR (.ok .next) (f.st h tk)) →
      codeAny (model prg c.w) f.A (.compLoop (.ListComp elt (⟨target, iter, ifs, 0⟩ :: gs) sc pos) 0 (.ref I) (.ref D) cenv) RR (f.st h' tk'))
    (fin : ∀ ys H' zs oC ρ' h' tk' C D, FIN ys H' → ρ <+: ρ' → Rl c f m ((C, oC) :: (D, LCg.lst zs) :: ex) ρ' H' h' → (∃ m₁, LCg.NsObj oC m₁) → RVs c.val ρ' ys zs → compPost (model prg c.w) f.A (fun _ _ => False) use Q (.ref D) C (.ok .next) (f.st h' tk')) :
    wpAny (model prg c.w) f.A (comprehension (.ListComp elt (⟨target, iter, ifs, 0⟩ :: gs) sc pos) sc env pos0 (newList []) false (eval iter env) use) Q (fun _ _ => False) (f.st h tk) := by
  have hclos := (comp_env (C := 0) (oC := { cls := .none, data := .dict #[] }) (m' := fun _ => none) EK hsc hfr ⟨#[], _, rfl, fun e he => by simp at he, fun _ => rfl⟩).1
  refine wpAny_comprehension_free (use := use) rfl (fold_iter hE) hclos hsc.kind hsc.loc ?_
  refine SE f m ex ρ H h tk me env iter _ _ K hE R EK hr ?_
  intro u H1 ρ1 h1' tk1 x hu pre1 R1 ru
  refine iter_start K R1 hu ru fun vs st H2 ρ2 h2' oI hF pre2 R2 itat hs => ?_
  refine wpAny_newObj_type (wpAny_newFunctionEnv hsc.cell (by intro y hy; simp at hy) (fun h₁ hns₁ hsb₁ => ?_) hsc.kind)
  dsimp only at hns₁ hsb₁ ⊢
  have R3 := R2.exPush K (LCg.lst [])
  obtain ⟨oC, eC, hoC⟩ := LCg.ns_obj hns₁
  have up : ∀ b o, (h2'.push (LCg.lst [])).get? b = some o → h₁.get? b = some o := fun b o e => hsb₁.extBut b o (Nat.ne_of_lt (Heap.lt_size e)) (Heap.get?_push_of_some _ e)
  have R4 : Rl c f m (((h2'.push (LCg.lst [])).objs.size, oC) :: (h2'.objs.size, LCg.lst []) :: (h1'.objs.size, oI) :: ex) ρ2 H2 h₁ := R3.exNew K up (Nat.le_refl _) eC
  have p : (((h2'.push (LCg.lst [])).objs.size, oC) :: (h2'.objs.size, LCg.lst []) :: (h1'.objs.size, oI) :: ex).Perm ((h1'.objs.size, oI) :: ((h2'.push (LCg.lst [])).objs.size, oC) :: (h2'.objs.size, LCg.lst []) :: ex) := (List.Perm.cons _ (List.Perm.swap ..)).trans (List.Perm.swap ..)
  have EC := (comp_env (C := (h2'.push (LCg.lst [])).objs.size) (EK.up (pre1.trans pre2)) hsc hfr hoC).2
  have hCL : (h2'.push (LCg.lst [])).objs.size ≠ f.L := Ne.symm (Nat.ne_of_lt R3.F.ns.lt)
  have lp : codeAny (model prg c.w) f.A (.compLoop (.ListComp elt (⟨target, iter, ifs, 0⟩ :: gs) sc pos) 0 (.ref h1'.objs.size) (.ref h2'.objs.size) (compEnvC sc (clOf env sc.names []) (h2'.push (LCg.lst [])).objs.size env))
      (compPost (model prg c.w) f.A (fun _ _ => False) use Q (.ref h2'.objs.size) (h2'.push (LCg.lst [])).objs.size) (f.st h₁ tk1) :=
    loop _ _ _ _ oI oC u st vs ρ2 H2 h₁ tk1 _ hF (pre1.trans pre2) hCL rfl EC (R4.perm p) itat hs fun ys me' H5 zs oC5 ρ5 h5 tk5 hΨ pre5 R5 EK5 rys5 => fin ys H5 zs oC5 ρ5 h5 tk5 _ _ hΨ ((pre1.trans pre2).trans pre5) R5 (ns_of hCL rfl EK5) rys5
  exact codeAny_compStart_list lp (iter_self itat (R4.perm p).head lp)
end
end N
end Mine
end
section
open PySem PySem.W PyProof.Rows PySem.Calls
set_option Elab.async false
set_option maxRecDepth 100000
set_option maxHeartbeats 1000000
namespace Mine
namespace N
section
variable {n : Nat} {f : Fx} {m : PySem.Str → Option Value} {ex : List (Addr × Obj)} {ρ : List Addr} {H : Hp} {h h' : Heap} {tk : Nat} {me : ME} {env : Env}
theorem emit_W {f : Fx} {D : Addr} {code : Code} {cenv : Env} {e : PySem.Expr} {Q : Fin → Shared → Prop} {s : Shared} (hb : MemW f cenv e D (Q (.again code)) s) :
    wpAny (model prg c.w) f.A ((eval e cenv >>= fun x => call (.builtin "list.append") [.ref D, x] >>= fun _ => pure ()) >>= fun _ => again code) Q (fun _ _ => False) s :=
  wpAny_bind (wpAny_bind (wpAny_mono hb (fun x s₁ h₁ => wpAny_bind (wpAny_mono h₁ (fun _ s₂ h₂ => wpAny_pure (wpAny_pure h₂)) fun _ _ x => x)) fun _ _ x => x))
/-- what is to be shown of a comprehension's end -/
noncomputable def FinC (f : Fx) (m : PySem.Str → Option Value) (ex : List (Addr × Obj)) (ρ : List Addr) (use : Option (Value → Sem Unit)) (Φ : V → Hp → Prop) (Q : Value → Shared → Prop) : Prop :=
  ∀ ys H' zs oC ρ' h' tk' C D, alloc (.list ys) H' Φ → ρ <+: ρ' → Rl c f m ((C, oC) :: (D, LCg.lst zs) :: ex) ρ' H' h' → (∃ m₁, LCg.NsObj oC m₁) → RVs c.val ρ' ys zs → compPost (model prg c.w) f.A (fun _ _ => False) use Q (.ref D) C (.ok .next) (f.st h' tk')
theorem lc_run (SE : SoundE c mean mg mb orc n) (ST : SoundT c mean mg mb orc n) (K : FxOK c mean mg mb f) (hr : room f n) {e : PySem.Expr} {gs : List Comprehension} {sc : Scope} {pos pos0 : Pos} {use : Option (Value → Sem Unit)} {Φ : V → Hp → Prop} {Q : Value → Shared → Prop}
    (hE : stepE (run orc n) me (lcB (cE e) sc (cG gs)) H Φ) (R : Rl c f m ex ρ H h) (EK : EnvOK f c me env m ex ρ) (fin : FinC f m ex ρ use Φ Q) :
    wpAny (model prg c.w) f.A (comprehension (.ListComp e gs sc pos) sc env pos0 (newList []) (firstAsync gs) (firstIter gs env) use) Q (fun _ _ => False) (f.st h tk) := by
  rcases gs with _ | ⟨⟨t, it, ifs, a⟩, _ | ⟨⟨t2, i2, ifs2, a2⟩, _ | ⟨⟨_, _, _, _⟩, _⟩⟩⟩
  · exact (show False from hE).elim
  · obtain ⟨hc, hE1⟩ := cif_E (show stepE (run orc n) me (cif ((a == 0) && Nat.ble (cEs ifs).length 1 && scOK sc (tgs t)) (.comp (cE e) (tgs t) (cE it) (cEs ifs) (frs? sc) (gls? sc))) H Φ from hE)
    obtain ⟨ha, hsc⟩ := and_inv hc
    obtain ⟨ha, hi⟩ := and_inv ha
    cases beq_iff_eq.mp ha
    obtain ⟨hfr, hE2⟩ := grd_inv (show grd (frOK me (frs? sc)) _ from hE1)
    refine comp_run (xs := tgs t) (use := use) SE K hr (scI hsc) hfr hE2 R EK ?_ (FIN := fun ys H => alloc (.list ys) H Φ) fun ys H' zs oC ρ' h' tk' C D => fin ys H' zs oC ρ' h' tk' C D
    intro I C D cenv oI oC s st vs ρ' H' h' tk' RR hLOOP pre hL hC EKc Rc it hs fin'
    rcases ifs with _ | ⟨cx, _ | ⟨_, _⟩⟩
    · exact compL_sound (cs := []) SE ST K hr hL hC (compTurn_list1 ..) (fun Q s hb => emit_W hb) EKc Rc it hs .nil hLOOP fun ys me H zs oC ρ2 h tk a b d e g => fin' ys me H zs oC ρ2 h tk a b d e g
    · refine compL_sound (cs := [cx]) SE ST K hr hL hC (turnC ..) (fun Q s hb => ?_) EKc Rc it hs .nil hLOOP fun ys me H zs oC ρ2 h tk a b d e g => fin' ys me H zs oC ρ2 h tk a b d e g
      refine wpAny_bind (wpAny_tests_one (wpAny_mono hb (fun ok s₁ h₁ => ?_) fun _ _ x => x))
      cases ok with
      | true => exact emit_W h₁
      | false => exact wpAny_pure h₁
    · exact absurd (Nat.le_of_ble_eq_true hi) (by rw [cEs_len]; simp)
  · obtain ⟨hc, hE1⟩ := cif_E (show stepE (run orc n) me (cif ((a == 0) && (a2 == 0) && (cEs ifs).isEmpty && (cEs ifs2).isEmpty && scOK sc (tgs t ++ tgs t2)) (.comp2 (cE e) (tgs t) (cE it) (tgs t2) (cE i2) (frs? sc) (gls? sc))) H Φ from hE)
    obtain ⟨hc, hsc⟩ := and_inv hc
    obtain ⟨hc, h4⟩ := and_inv hc
    obtain ⟨hc, h3⟩ := and_inv hc
    obtain ⟨h1, h2⟩ := and_inv hc
    cases beq_iff_eq.mp h1
    cases beq_iff_eq.mp h2
    cases ifs with
    | cons _ _ => cases h3
    | nil =>
      cases ifs2 with
      | cons _ _ => cases h4
      | nil =>
        obtain ⟨hfr, hE2⟩ := grd_inv (show grd (frOK me (frs? sc)) _ from hE1)
        refine comp_run (xs := tgs t ++ tgs t2) (use := use) SE K hr (scI hsc) hfr hE2 R EK ?_ (FIN := fun ys H => alloc (.list ys) H Φ) fun ys H' zs oC ρ' h' tk' C D => fin ys H' zs oC ρ' h' tk' C D
        intro I C D cenv oI oC s st vs ρ' H' h' tk' RR hLOOP pre hL hC EKc Rc it hs fin'
        exact compLL_sound SE ST K hr hL hC EKc Rc it hs .nil hLOOP fun ys me H zs oC ρ2 h tk a b d e g => fin' ys me H zs oC ρ2 h tk a b d e g
  · exact (show stepE (run orc n) me .bad H Φ from hE).elim
theorem sound_L (SE : SoundE c mean mg mb orc n) (ST : SoundT c mean mg mb orc n) : SoundL n := by
  intro f m ex ρ H h tk me env e gs sc pos Φ Q K hE R EK hr P
  rw [eval_ListComp]
  refine lc_run (use := none) SE ST K hr hE R EK ?_
  intro ys H' zs oC ρ' h' tk' C D hA pre R' ⟨m₁, hn⟩ rys
  refine ⟨m₁, hn.ns R'.head, fun h'' hs => ?_⟩
  have R2 := R'.exDrop fun b o hb e => hs.extBut b o hb e
  exact PE.new (P.up pre) hA R2.len (R2.into (.list (rys.up (List.prefix_append _ _))))
theorem sound_LA (SE : SoundE c mean mg mb orc n) (ST : SoundT c mean mg mb orc n) : SoundLA c mean mg mb orc (n + 1) := by
  intro f m ex ρ H h tk me e gs sc pos y py spos Φ Q K hy hsw hE R EK hr1 P
  have hr := room_up hr1
  rw [exec_Assign_Name_used _ _ _ _ hsw]
  refine wpAny_bind (wpAny_standAt (wpAny_bind ?_))
  show wpAny _ f.A (do let _ ← comprehension (.ListComp e gs sc pos) sc f.env _ (newList []) (firstAsync gs) (firstIter gs f.env) (some (assign (.Name y py) f.env))) _ _ _
  refine wpAny_bind (wpAny_mono (lc_run (use := some (assign (.Name y py) f.env)) (Q := fun _ s' => Q .next s') SE ST K hr (show stepE (run orc n) me (lcB (cE e) sc (cG gs)) H (fun v H => bindN me (cod y) v H Φ) from hE) R EK ?_) (fun _ s' hq => wpAny_pure (wpAny_pure hq)) fun _ _ e => e)
  intro ys H' zs oC ρ' h' tk' C D hA pre R' ⟨m₁, hn⟩ rys
  show wpAny _ f.A (assign (.Name y py) f.env (.ref D)) _ _ _
  unfold alloc at hA
  rw [fH_eq] at hA
  have R2 := (R'.perm (List.Perm.swap (D, LCg.lst zs) (C, oC) _)).into (.list (rys.up (List.prefix_append _ [D])))
  have hD : (ρ' ++ [D])[H'.length]? = some D := by rw [← R'.len, List.getElem?_append_right (Nat.le_refl _), Nat.sub_self]; rfl
  have pre2 := pre.trans (List.prefix_append ρ' [D])
  have R2' := R2.exDrop fun b o _ e => e
  have B : Bd f f.env (JF ((C, oC) :: ex)) := bd_fun K
  have := B (tk := tk') ⟨rfl, rfl⟩ R2 ((EK.up pre2).re K R2' []) hA (.ref hD) (Q := fun _ s'' => ∃ m, s''.heap.Ns C m ∧ ∀ h', Heap.SameBut C s''.heap h' → Q .next { s'' with heap := h' }) fun me3 H3 m3 ex3 exE3 h3 tk3 hΦ e3 R3 EK3 => by
    obtain ⟨e1, e2⟩ := e3
    subst e1; subst e2
    refine ⟨m₁, hn.ns R3.head, fun h4 hs => ?_⟩
    exact P me3 H3 m3 _ h4 tk3 hΦ pre2 (R3.exDrop fun b o hb e => hs.extBut b o hb e) EK3.re2
  rw [(nm_cod hy).1] at this
  exact wpAny_assign_Name this
/-- the evaluator tells rightly what the machine does -/
theorem sound_c : ZP ⟨c, mean, mg, mb, orc⟩ := by
  intro O
  intro n
  induction n using Nat.strongRecOn with
  | ind n ih =>
    cases n with
    | zero => exact ⟨by intro f m ex ρ H h tk me env e Φ Q K hE; exact hE.elim, by intro f m ex ρ H h tk me env e Φ Q K hE; exact hE.elim, by intro f m ex ρ H h tk me ss Ψ Q E K hE; exact hE.elim, by intro f m ex ρ H h tk v vs x xs Φ Q K hE; exact hE.elim, by intro f m ex ρ H h tk a vs xs Ψ Q E K hE; exact hE.elim, by intro f m ex ρ H h tk me e gs sc pos y py spos Φ Q K hy hsw hE; exact hE.elim, by intro a vs xs ρ H Ψ hE; exact hE.elim⟩
    | succ n =>
      obtain ⟨SE, ST, SS, SC, SX, SA, -⟩ := ih n (Nat.lt_succ_self _)
      exact ⟨sound_E SE ST SC (sound_L SE ST) (sound_Lm fun k hk => (ih k (by omega)).2.2.1), sound_T SE ST, sound_S SE SX (fun k hk => (ih k (Nat.lt_succ_of_le hk)).2.1) (fun k hk => (ih k (Nat.lt_succ_of_le hk)).2.2.1) SA, sound_C O SS (fun k hk => (ih k (by omega)).2.2.1), sound_X SS, sound_LA SE ST, sound_M SS⟩
theorem sound_all (z : Z) : ZP z := by
  have h : ZP zz → ∀ z', ZP z' := by unfold zz; exact Classical.choose_spec z_ex
  have e : zz = ⟨c, mean, mg, mb, orc⟩ := by unfold c mean mg mb orc; rfl
  exact h (e ▸ sound_c) z
end
end N
end Mine
end
section
open PySem PySem.W PyProof.Rows PySem.Calls
set_option Elab.async false
set_option maxRecDepth 100000
set_option maxHeartbeats 1000000
namespace Mine
namespace N
section
variable {c : Cx} {ρ₀ ρ : List Addr} {H : Hp} {led : List (Addr × Obj)} {k : Nat} {o : O}
/-- an object taken out of the ledger -/
theorem Led.take (l : Led c ρ₀ ρ H led) (h : H[k]? = some o) : ∃ a es led', ρ[k]? = some a ∧ RO c ρ₀ o a es ∧ led.Perm (es ++ led') ∧ Led c ρ₀ ρ (H.set k .stamp) led' := by
  obtain ⟨a, es, pre, post, h1, h2, rfl, h4⟩ := l.at h
  refine ⟨a, es, pre ++ post, h1, h2, ?_, h4 .stamp [] .stamp⟩
  rw [← List.append_assoc, ← List.append_assoc]
  exact List.perm_append_comm.append_right _
/-- and put back -/
theorem Led.put (l : Led c ρ₀ ρ H led) (h : H[k]? = some .stamp) {a : Addr} (ha : ρ[k]? = some a) {es : List (Addr × Obj)} (x : RO c ρ₀ o a es) : ∃ led', Led c ρ₀ ρ (H.set k o) led' ∧ led'.Perm (es ++ led) := by
  obtain ⟨a', es', pre, post, h1, h2, rfl, h4⟩ := l.at h
  rw [ha] at h1; cases h1
  cases h2
  refine ⟨_, h4 o es x, ?_⟩
  show (pre ++ (es ++ post)).Perm (es ++ (pre ++ post))
  rw [← List.append_assoc, ← List.append_assoc]
  exact List.perm_append_comm.append_right _
end
section
variable {c c2 : Cx} {mean : ExcName → Option Value} {mg mb : PySem.Str → Option Value} {n n' : Nat} {fa : Addr} {args : Args} {ρ : List Addr} {H : Hp} {Ψ : Fl → Hp → Prop}
theorem CtM.mono (h : n ≤ n') (C : CtM c mean mg mb n fa args ρ H Ψ) : CtM c mean mg mb n' fa args ρ H Ψ := by
  intro led l nd dp un gd outer base g h₁ gn dr tk os Q E B hs hz N Xb Tb X T hdp hu ret
  refine C led l nd dp un gd outer base g h₁ gn dr tk os Q E B hs hz N Xb Tb X T ?_ ?_ ret
  · unfold need at *; omega
  · unfold need at *; omega
/-- a contract over a part of the ledger, in a context of its own -/
structure Part (c1 c2 : Cx) (mean : ExcName → Option Value) (mg mb : PySem.Str → Option Value) (n : Nat) (fa : Addr) (args : Args) (ρ : List Addr) (Ψ : Fl → Hp → Prop) (led : List (Addr × Obj)) (ρ1 : List Addr) (H1 : Hp) (led1 rest : List (Addr × Obj)) (Ψ1 : Fl → Hp → Prop) : Prop where
  w : c1.w = c2.w
  perm : led.Perm (led1 ++ rest)
  l : Led c1 ρ1 ρ1 H1 led1
  ct : CtM c1 mean mg mb n fa args ρ1 H1 Ψ1
  ne : ∀ w H', ¬ Ψ1 (.exc w) H'
  back : ∀ fl ρ1' H1' mu r, Ψ1 fl H1' → ρ1 <+: ρ1' → Led c1 ρ1' ρ1' H1' mu → RFv c1.val ρ1' fl r → ∃ es junk fl' H' led', mu = es ++ junk ∧ Ψ fl' H' ∧ RFv c2.val ρ fl' r ∧ Led c2 ρ ρ H' led' ∧ led'.Perm (es ++ rest)
theorem ct_frame (sp : ∀ led, Led c2 ρ ρ H led → ∃ c1 ρ1 H1 led1 rest Ψ1, Part c1 c2 mean mg mb n fa args ρ Ψ led ρ1 H1 led1 rest Ψ1) : CtM c2 mean mg mb n fa args ρ H Ψ := by
  intro led l nd dp un gd outer base g h₁ gn dr tk os Q E B hs hz N Xb Tb X T hdp hu ret
  obtain ⟨c1, ρ1, H1, led1, rest, Ψ1, P⟩ := sp led l
  have N' : ∀ p ∈ led1 ++ rest, h₁.get? p.1 = some p.2 ∧ g.get? p.1 = none := fun p hp => N p (P.perm.mem_iff.mpr hp)
  have nd' := ((P.perm.map (·.1)).nodup_iff).mp nd
  rw [List.map_append, List.nodup_append] at nd'
  have C := P.ct
  unfold CtM at C
  rw [P.w] at C
  have gG : g.StaysIn (hideAll h₁ (led1.map (·.1))) := fun b o e => hideAll_get _ (hs b o e) fun hm => by
    obtain ⟨p, hp, rfl⟩ := List.mem_map.mp hm
    rw [(N' p (List.mem_append_left _ hp)).2] at e; cases e
  have rG : ∀ p ∈ rest, (hideAll h₁ (led1.map (·.1))).get? p.1 = some p.2 := fun p hp => hideAll_get _ (N' p (List.mem_append_right _ hp)).1 fun hm => nd'.2.2 _ hm _ (List.mem_map_of_mem hp) rfl
  have lG : ∀ p ∈ led1, (hideAll h₁ (led1.map (·.1))).get? p.1 = none := fun p hp => hideAll_none _ (List.mem_map_of_mem hp)
  have sG : (hideAll h₁ (led1.map (·.1))).StaysIn h₁ := fun b o e => of_hideAll _ e
  have zG : (hideAll h₁ (led1.map (·.1))).objs.size = h₁.objs.size := hideAll_size _ _
  generalize hideAll h₁ (led1.map (·.1)) = G at gG rG lG sG zG
  have Gn : ∀ {a}, G.get? a = none → g.get? a = none := fun {a} e => by
    cases q : g.get? a with
    | none => rfl
    | some o => rw [gG _ _ q] at e; cases e
  have nf : ∀ {p}, p ∈ led1 ++ rest → p.1 ∉ frs outer := fun hp hm => by
    obtain ⟨o, ho, _⟩ := (B.frames.mem hm).2
    rw [(N' _ hp).2] at ho; cases ho
  refine C led1 P.l nd'.1 dp un gd outer base G h₁ gn dr tk os Q E ⟨B.stack, fun b o e => gG b o (B.stays b o e), B.frames.of_keeps fun b o e _ => ⟨o, gG b o e, rfl⟩⟩ sG zG (fun p hp => ⟨(N' p (List.mem_append_left _ hp)).1, lG p hp⟩) Xb Tb (X.keeps gG) (T.keeps gG) hdp hu ?_
  intro b r mu' h' tk' s1 s2 s3 o
  cases b with
  | true =>
    obtain ⟨w, a, oe, d, od, tr, led', ρ', H', -, hΨ, -⟩ := o
    exact absurd hΨ (P.ne _ _)
  | false =>
    obtain ⟨fl, ρ1', H1', hΨ, hp, l', ndm, rv⟩ := o
    obtain ⟨es, junk, fl', H', led', rfl, hΨ', rv', l'', pm⟩ := P.back fl ρ1' H1' mu' r hΨ hp l' rv
    rw [List.map_append, List.nodup_append] at ndm
    have s3' : ∀ p ∈ es, h'.get? p.1 = some p.2 ∧ G.get? p.1 = none := fun p hp => s3 p (List.mem_append_left _ hp)
    refine ret false r led' h' tk' (fun b o e => s1 b o (hideAll_get _ (gG b o (of_hideAll _ e)) fun hm => by rw [hideAll_none _ hm] at e; cases e)) (fun b o hb e => s2 b o hb (gG b o e)) (fun p hp => ?_) ⟨fl', ρ, H', hΨ', List.prefix_refl _, l'', ?_, rv'⟩
    · rcases List.mem_append.mp (pm.mem_iff.mp hp) with hp | hp
      · exact ⟨(s3' p hp).1, Gn (s3' p hp).2⟩
      · exact ⟨s1 _ _ (hideAll_get _ (rG p hp) (nf (List.mem_append_right _ hp))), (N' p (List.mem_append_right _ hp)).2⟩
    · refine ((pm.map (·.1)).nodup_iff).mpr ?_
      rw [List.map_append, List.nodup_append]
      refine ⟨ndm.1, nd'.2.1, fun x hx y hy z => ?_⟩
      obtain ⟨p, hp, rfl⟩ := List.mem_map.mp hx
      obtain ⟨q, hq, rfl⟩ := List.mem_map.mp hy
      have := rG q hq
      rw [← z, (s3' p hp).2] at this; cases this
end
end N
end Mine
end
section
open PySem
set_option Elab.async false
set_option maxRecDepth 100000
namespace Mine
namespace N
section
variable {α : Type} {b : Bool} {o : Option α} {a : α} {P R : Prop} {k : α → Prop}
theorem grd_mk (h : b = true) (q : P) : grd b P := by rw [h]; exact q
theorem som_mk (h : o = some a) (q : k a) : som o k := by rw [h]; exact q
theorem ifs_t (h : b = true) (q : P) : ifs b P R := by rw [h]; exact q
theorem ifs_f (h : b = false) (q : R) : ifs b P R := by rw [h]; exact q
theorem som_b {β : Type} {o : Option β} {c : β} {g : β → Option α} (h : o = some c) (hg : g c = some a) (q : k a) : som (o.bind g) k := by rw [h]; show som (g c) k; rw [hg]; exact q
theorem bind_mk {β : Type} {g : α → Option β} {c : β} (h : o = some a) (q : g a = some c) : o.bind g = some c := by rw [h]; exact q
end
theorem fH_mk {H : Hp} {k : Hp → Prop} (q : k H) : fH H k := by rw [fH_eq]; exact q
theorem fH_as {H H' : Hp} {k : Hp → Prop} (h : H = H') (q : k H') : fH H k := by rw [fH_eq, h]; exact q
theorem ob_mk {H : Hp} {a : Nat} {o : O} (h : H[a]? = some o) : obOf H (.ref a) = some o := h
variable {orc : Orc} {n : Nat} {H : Hp} {Φ : V → Hp → Prop}
theorem X_go {r : Rec} {fi : FI} {vs : List V} {Ψ : Fl → Hp → Prop} (hc : fi.cs = []) (hl : Nat.beq fi.ps.length vs.length = true) (q : r.S ⟨fi.ps.zip vs, [], fi.gl, fi.ls⟩ fi.body H fun f _ H => grd f.nc (Ψ f H)) : stepX r fi vs H Ψ := by
  refine grd_mk hl (fH_mk ?_)
  rw [hc]
  show r.S ⟨(fi.ps.zip vs).filter fun p => !false, [], fi.gl, fi.ls⟩ fi.body (H ++ []) _
  have e : ((fi.ps.zip vs).filter fun p => !hasc p.1 []) = fi.ps.zip vs := List.filter_eq_self.mpr fun _ _ => rfl
  rw [List.append_nil]
  have := q
  rw [← e] at this
  exact this
theorem B_go {b : BI} {vs : List V} (q : builtin b vs H Φ) : cal (run orc (n + 1)) (.bi b) vs H Φ := by
  rw [cal_eq]; exact q
theorem C_go {a : Nat} {fi : FI} {vs : List V} (ho : orc (n + 1) a vs H = none) (hf : lookc a funs = some fi) (q : stepX (run orc n) fi vs H (retF Φ)) : cal (run orc (n + 1)) (.fn a) vs H Φ := by
  rw [cal_eq]
  show (match orc (n + 1) a vs H with
    | some p => Φ p.1 p.2
    | none => match lookc a funs with
      | some fi => stepX (run orc n) fi vs H (retF Φ)
      | none => som (lookc a clss) fun i => alloc (.inst a []) H fun x H => cal (run orc n) (.fn i) (x :: vs) H fun u H => grd u.isNone (Φ x H))
  rw [ho]; dsimp only; rw [hf]; exact q
end N
end Mine
end
section
open PySem
set_option Elab.async false
set_option maxRecDepth 100000
namespace Mine
namespace N
/-- a shape as the law draws it: a leaf (an int; an access), a node (a record; an array) of n parts -/
inductive Sh
  | leaf (b : Bool) (i : Int)
  | node (b : Bool) (lo : Int) (n : Nat) (k : Nat → Sh)
/-- how many leaves of a kind there are -/
noncomputable def lid (b : Bool) : Int := match b with
  | true => 4
  | false => 9
/-- depth, sizes, ranges; e: how many parts an array may have -/
noncomputable def Wf (e : Nat) : Nat → Sh → Prop
  | _, .leaf b i => 0 ≤ i ∧ i < lid b
  | 0, .node _ _ _ _ => False
  | d + 1, .node b _ n k => 1 ≤ n ∧ n ≤ (match b with | true => e | false => 2) ∧ ∀ i, i < n → Wf 3 d (k i)
/-- f holds from i on, r times -/
noncomputable def allN (f : Nat → Bool) (i : Nat) : Nat → Bool
  | 0 => true
  | r + 1 => f i && allN f (i + 1) r
/-- the same, as values go -/
noncomputable def eqv : Sh → Sh → Bool
  | .leaf _ i, t => (match t with
    | .leaf _ j => decide (i = j)
    | .node _ _ _ _ => false)
  | .node _ _ n k, t => (match t with
    | .leaf _ _ => false
    | .node _ _ m l => Nat.beq n m && allN (fun i => eqv (k i) (l i)) 0 n)
/-- the same object but for a dict's stamp -/
noncomputable def St (o p : O) : Prop := o = p ∨ ∃ a b es, o = .dict a es ∧ p = .dict b es
/-- what stays: tuples, and whatever is not X, but for stamps -/
structure Ext (X : Nat → Prop) (H H' : Hp) : Prop where
  le : H.length ≤ H'.length
  tup : ∀ (a : Nat) (xs : List V), H[a]? = some (O.tup xs) → H'[a]? = some (O.tup xs)
  obj : ∀ (a : Nat) (o : O), ¬ X a → H[a]? = some o → ∃ p, H'[a]? = some p ∧ St o p
noncomputable def no (_ : Nat) : Prop := False
theorem St.refl {o : O} : St o o := .inl rfl
theorem St.trans {o p q : O} (a : St o p) (b : St p q) : St o q := by
  rcases a with rfl | ⟨s, t, es, rfl, rfl⟩
  · exact b
  · rcases b with rfl | ⟨_, u, _, e, rfl⟩
    · exact .inr ⟨_, _, _, rfl, rfl⟩
    · cases e; exact .inr ⟨_, _, _, rfl, rfl⟩
theorem Ext.refl {X : Nat → Prop} {H : Hp} : Ext X H H := ⟨Nat.le_refl _, fun _ _ h => h, fun _ _ _ h => ⟨_, h, .refl⟩⟩
theorem Ext.trans {X : Nat → Prop} {H H' H'' : Hp} (a : Ext X H H') (b : Ext X H' H'') : Ext X H H'' :=
  ⟨Nat.le_trans a.le b.le, fun c xs h => b.tup c xs (a.tup c xs h), fun c o hx h => by
    obtain ⟨p, h1, s1⟩ := a.obj c o hx h
    obtain ⟨q, h2, s2⟩ := b.obj c p hx h1
    exact ⟨q, h2, s1.trans s2⟩⟩
theorem Ext.mono {X Y : Nat → Prop} {H H' : Hp} (a : Ext X H H') (h : ∀ x, X x → Y x) : Ext Y H H' := ⟨a.le, a.tup, fun c o hx => a.obj c o fun z => hx (h c z)⟩
theorem Ext.push {X : Nat → Prop} {H t : Hp} : Ext X H (H ++ t) :=
  ⟨by rw [List.length_append]; exact Nat.le_add_right _ _, fun a xs h => by rw [List.getElem?_append_left (List.getElem?_eq_some_iff.mp h).1]; exact h, fun a o _ h => ⟨o, by rw [List.getElem?_append_left (List.getElem?_eq_some_iff.mp h).1]; exact h, .refl⟩⟩
/-- an object is overwritten -/
theorem Ext.set {X : Nat → Prop} {H : Hp} {k : Nat} {o p : O} (hk : H[k]? = some o) (ht : ∀ xs, o ≠ .tup xs) (hX : X k ∨ St o p) : Ext X H (H.set k p) := by
  refine ⟨by rw [List.length_set]; exact Nat.le_refl _, fun a xs h => ?_, fun a q hx h => ?_⟩
  · rw [List.getElem?_set_ne fun z => ?_]; exact h
    subst z; rw [hk] at h; cases h; exact ht _ rfl
  · by_cases z : k = a
    · subst z
      rw [hk] at h; cases h
      exact ⟨p, List.getElem?_set_self (List.getElem?_eq_some_iff.mp hk).1, hX.resolve_left hx⟩
    · exact ⟨q, by rw [List.getElem?_set_ne z]; exact h, .refl⟩
/-- a new object is overwritten -/
theorem Ext.fresh {X : Nat → Prop} {H H' : Hp} (e : Ext X H H') {i : Nat} {p : O} (hi : H.length ≤ i) : Ext X H (H'.set i p) := by
  have ne : ∀ {a : Nat} {o : O}, H[a]? = some o → i ≠ a := fun h => by have := (List.getElem?_eq_some_iff.mp h).1; omega
  refine ⟨by rw [List.length_set]; exact e.le, fun a xs h => ?_, fun a o hx h => ?_⟩
  · rw [List.getElem?_set_ne (ne h)]; exact e.tup a xs h
  · rw [List.getElem?_set_ne (ne h)]; exact e.obj a o hx h
/-- an object that is no dict stays as it is -/
theorem Ext.at {X : Nat → Prop} {H H' : Hp} (a : Ext X H H') {k : Nat} {o : O} (hk : H[k]? = some o) (hx : ¬ X k) (hd : ∀ st es, o ≠ .dict st es) : H'[k]? = some o := by
  obtain ⟨p, h, rfl | ⟨s, _, es, e, _⟩⟩ := a.obj k o hx hk
  · exact h
  · exact absurd e (hd _ _)
theorem Ext.cel {H H' : Hp} (e : Ext no H H') {k : Nat} {v : Option V} (hk : H[k]? = some (.cell v)) : H'[k]? = some (.cell v) := e.at hk id fun _ _ z => nomatch z
theorem Ext.lst {H H' : Hp} (e : Ext no H H') {k : Nat} {v : List V} (hk : H[k]? = some (.list v)) : H'[k]? = some (.list v) := e.at hk id fun _ _ z => nomatch z
/-- an object is made -/
theorem fH_new {H : Hp} {o : O} {k : Hp → Prop} (q : ∀ H', Ext no H H' → H'.length = H.length + 1 → H'[H.length]? = some o → k H') : fH (H ++ [o]) k := by
  refine fH_mk (q _ .push List.length_append ?_)
  rw [List.getElem?_append_right (Nat.le_refl _), Nat.sub_self]; rfl
theorem fH_app {H t : Hp} {k : Hp → Prop} (q : ∀ H', Ext no H H' → H'.length = H.length + t.length → (∀ (i : Nat) (o : O), t[i]? = some o → H'[H.length + i]? = some o) → k H') : fH (H ++ t) k :=
  fH_mk (q _ .push List.length_append fun i o h => by rw [List.getElem?_append_right (Nat.le_add_right _ _), Nat.add_sub_cancel_left]; exact h)
/-- an object is overwritten -/
theorem fH_put {H : Hp} {a : Nat} {o p : O} {k : Hp → Prop} (ha : H[a]? = some o) (ht : ∀ xs, o ≠ .tup xs) (q : ∀ H', Ext (· = a) H H' → H'.length = H.length → H'[a]? = some p → k H') : fH (H.set a p) k :=
  fH_mk (q _ (.set ha ht (.inl rfl)) List.length_set (List.getElem?_set_self (List.getElem?_eq_some_iff.mp ha).1))
/-- what was written is new -/
theorem Ext.drop {X Y : Nat → Prop} {H H' H'' : Hp} (e : Ext X H H') (e' : Ext Y H' H'') (h : ∀ x, Y x → H.length ≤ x) : Ext X H H'' := by
  have ne : ∀ {a : Nat} {o : O}, H[a]? = some o → ¬ Y a := fun h1 h2 => absurd (List.getElem?_eq_some_iff.mp h1).1 (Nat.not_lt.mpr (h _ h2))
  refine ⟨Nat.le_trans e.le e'.le, fun a xs h => e'.tup _ _ (e.tup _ _ h), fun a o hx h => ?_⟩
  obtain ⟨p, h1, s1⟩ := e.obj a o hx h
  obtain ⟨q, h2, s2⟩ := e'.obj a p (ne h) h1
  exact ⟨q, h2, s1.trans s2⟩
/-- a drawn tuple and its list -/
structure SA (H : Hp) (G : Nat → Prop) (b : Bool) (lo : Int) (a c : Nat) (vs : List V) : Prop where
  t : H[a]? = some (.tup (match b with
    | true => [.str 15, .i lo, .ref c]
    | false => [.str 16, .ref c]))
  l : H[c]? = some (.list vs)
  g : G c
theorem SA.up {X G G' : Nat → Prop} {H H' : Hp} {b : Bool} {lo : Int} {a c : Nat} {vs : List V} (s : SA H G b lo a c vs) (e : Ext X H H') (hx : ∀ b, G b → ¬ X b) (hG : ∀ b, G b → G' b) : SA H' G' b lo a c vs :=
  ⟨e.tup _ _ s.t, e.at s.l (hx _ s.g) (fun _ _ z => nomatch z), hG _ s.g⟩
/-- a node of a shape -/
inductive SN (H : Hp) (G : Nat → Prop) (b : Bool) (lo : Int) (sub : Nat → V → Prop) : Nat → V → Prop
  | mk {a c : Nat} {vs : List V} (s : SA H G b lo a c vs) (k : ∀ i x, vs[i]? = some x → sub i x) : SN H G b lo sub vs.length (.ref a)
/-- the shape at a value; its lists are among G -/
noncomputable def SH (H : Hp) (G : Nat → Prop) : Sh → V → Prop
  | .leaf b i, v => (match b with
    | false => v = .i i
    | true => ∃ a, v = .ref a ∧ H[a]? = some (.tup [.str 17, .i i]))
  | .node b lo n k, v => SN H G b lo (fun i x => SH H G (k i) x) n v
theorem SH.up {X G G' : Nat → Prop} {H H' : Hp} (e : Ext X H H') (hx : ∀ b, G b → ¬ X b) (hG : ∀ b, G b → G' b) {S : Sh} : ∀ {v : V}, SH H G S v → SH H' G' S v := by
  induction S with
  | leaf b i =>
    intro v h
    cases b with
    | false => exact h
    | true => exact let ⟨a, h1, h2⟩ := h; ⟨a, h1, e.tup _ _ h2⟩
  | node b lo n k ih =>
    intro v h
    cases h with
    | mk s h => exact .mk (s.up e hx hG) fun i x hi => ih i (h i x hi)
theorem SH.ext {G : Nat → Prop} {H H' : Hp} {S : Sh} {v : V} (h : SH H G S v) (e : Ext no H H') : SH H' G S v := h.up e (fun _ _ => id) fun _ h => h
/-- its lists are there -/
theorem SH.bd {G : Nat → Prop} {H : Hp} {S : Sh} : ∀ {v : V}, SH H G S v → SH H (fun b => G b ∧ b < H.length) S v := by
  induction S with
  | leaf b i => intro v h; cases b <;> exact h
  | node b lo n k ih =>
    intro v h
    cases h with
    | mk s h => exact .mk ⟨s.t, s.l, s.g, (List.getElem?_eq_some_iff.mp s.l).1⟩ fun i x hi => ih i (h i x hi)
/-- the cells that the law makes -/
noncomputable def cellv (c0 : Nat) (i : Int) : V := if i = 3 then .none else .ref (c0 + i.toNat)
/-- the parts of what may be changed: apart, and apart from a, b, c -/
structure Own (F : Nat → Prop) (K : Nat → Nat → Prop) (a b c : Nat) : Prop where
  fa : F a
  fb : F b
  fc : F c
  ne : c ≠ b
  own : ∀ i x, K i x → F x ∧ x ≠ a ∧ x ≠ b ∧ x ≠ c
  dis : ∀ i j x, K i x → K j x → i = j
theorem Own.mono {F F' : Nat → Prop} {K : Nat → Nat → Prop} {a b c : Nat} (o : Own F K a b c) (h : ∀ x, F x → F' x) : Own F' K a b c := ⟨h _ o.fa, h _ o.fb, h _ o.fc, o.ne, fun i x q => ⟨h _ (o.own i x q).1, (o.own i x q).2⟩, o.dis⟩
/-- an array: the instance, its bounds' list and tuple, its items' list -/
structure AV (H : Hp) (lo : Int) (a b e c : Nat) (vs : List V) : Prop where
  o : H[a]? = some (.inst 159 [(26, .ref b), (27, .ref c)])
  bs : H[b]? = some (.list [.ref e])
  bt : H[e]? = some (.tup [.i lo, .i (lo + vs.length - 1)])
  it : H[c]? = some (.list vs)
theorem AV.up {X : Nat → Prop} {H H' : Hp} {lo : Int} {a b u c : Nat} {vs : List V} (s : AV H lo a b u c vs) (e : Ext X H H') (ha : ¬ X a) (hb : ¬ X b) (hc : ¬ X c) : AV H' lo a b u c vs :=
  ⟨e.at s.o ha (fun _ _ z => nomatch z), e.at s.bs hb (fun _ _ z => nomatch z), e.tup _ _ s.bt, e.at s.it hc (fun _ _ z => nomatch z)⟩
/-- a record: the instance, its fields' dict -/
structure RcV (H : Hp) (t a d : Nat) (vs : List V) : Prop where
  o : H[a]? = some (.inst 180 [(28, .ref t), (23, .ref d)])
  ds : ∃ st, H[d]? = some (.dict st ([6, 7].zip vs))
  le : vs.length ≤ 2
theorem Ext.dct {X : Nat → Prop} {H H' : Hp} (e : Ext X H H') {k : Nat} {st : Option Nat} {es : List (Nat × V)} (hk : H[k]? = some (.dict st es)) (hx : ¬ X k) : ∃ st', H'[k]? = some (.dict st' es) := by
  obtain ⟨p, h, rfl | ⟨s, s', _, e1, rfl⟩⟩ := e.obj k _ hx hk
  · exact ⟨_, h⟩
  · cases e1; exact ⟨_, h⟩
theorem RcV.up {X : Nat → Prop} {H H' : Hp} {t a d : Nat} {vs : List V} (s : RcV H t a d vs) (e : Ext X H H') (ha : ¬ X a) (hd : ¬ X d) : RcV H' t a d vs :=
  ⟨e.at s.o ha (fun _ _ z => nomatch z), let ⟨_, h⟩ := s.ds; e.dct h hd, s.le⟩
/-- a node of a value -/
inductive MN (t : Nat) (H : Hp) (lo : Int) (sub : Nat → V → (Nat → Prop) → Prop) : Bool → Nat → V → (Nat → Prop) → Prop
  | arr {F : Nat → Prop} {K : Nat → Nat → Prop} {a b u c : Nat} {vs : List V} (s : AV H lo a b u c vs) (o : Own F K a b c) (k : ∀ i x, vs[i]? = some x → sub i x (K i)) : MN t H lo sub true vs.length (.ref a) F
  | rcd {F : Nat → Prop} {K : Nat → Nat → Prop} {a d : Nat} {vs : List V} (s : RcV H t a d vs) (o : Own F K a a d) (k : ∀ i x, vs[i]? = some x → sub i x (K i)) : MN t H lo sub false vs.length (.ref a) F
/-- the value made after a shape; the objects that it may change are among F; t: the records' type; c0: the first cell -/
noncomputable def MV (t c0 : Nat) (H : Hp) : Sh → V → (Nat → Prop) → Prop
  | .leaf b i, v, _ => (match b with
    | false => v = .i i
    | true => v = cellv c0 i)
  | .node b lo n k, v, F => MN t H lo (fun i x K => MV t c0 H (k i) x K) b n v F
theorem MV.up {t c0 : Nat} {X : Nat → Prop} {H H' : Hp} (e : Ext X H H') {S : Sh} : ∀ {v : V} {F F' : Nat → Prop}, (∀ x, F x → ¬ X x) → (∀ x, F x → F' x) → MV t c0 H S v F → MV t c0 H' S v F' := by
  induction S with
  | leaf b i => exact fun _ _ h => h
  | node b lo n k ih =>
    intro v F F' hx hF h
    cases h with
    | arr s o h => exact .arr (s.up e (hx _ o.fa) (hx _ o.fb) (hx _ o.fc)) (o.mono hF) fun i x q => ih i (fun y hy => hx _ (o.own i y hy).1) (fun _ z => z) (h i x q)
    | rcd s o h => exact .rcd (s.up e (hx _ o.fa) (hx _ o.fc)) (o.mono hF) fun i x q => ih i (fun y hy => hx _ (o.own i y hy).1) (fun _ z => z) (h i x q)
/-- its objects are there -/
theorem MV.bd {t c0 : Nat} {H : Hp} {S : Sh} {v : V} {F : Nat → Prop} (h : MV t c0 H S v F) : MV t c0 H S v fun x => F x ∧ x < H.length := by
  induction S generalizing v F with
  | leaf b i => exact h
  | node b lo n k ih =>
    have lt : ∀ {a : Nat} {o : O}, H[a]? = some o → a < H.length := fun h => (List.getElem?_eq_some_iff.mp h).1
    cases h with
    | arr s o h => exact .arr (K := fun i x => _ ∧ x < H.length) s ⟨⟨o.fa, lt s.o⟩, ⟨o.fb, lt s.bs⟩, ⟨o.fc, lt s.it⟩, o.ne, fun i x q => ⟨⟨(o.own i x q.1).1, q.2⟩, (o.own i x q.1).2⟩, fun i j x q q' => o.dis i j x q.1 q'.1⟩ fun i x q => ih i (h i x q)
    | rcd s o h =>
      have ld : _ < H.length := let ⟨_, h⟩ := s.ds; lt h
      exact .rcd (K := fun i x => _ ∧ x < H.length) s ⟨⟨o.fa, lt s.o⟩, ⟨o.fb, lt s.o⟩, ⟨o.fc, ld⟩, o.ne, fun i x q => ⟨⟨(o.own i x q.1).1, q.2⟩, (o.own i x q.1).2⟩, fun i j x q q' => o.dis i j x q.1 q'.1⟩ fun i x q => ih i (h i x q)
end N
end Mine
end
section
open PySem
set_option Elab.async false
set_option maxRecDepth 100000
namespace Mine
namespace N
/-- only table and line are known to the oracle -/
noncomputable def NoO (orc : Orc) : Prop := ∀ i a xs H, a ≠ 508 → a ≠ 513 → orc i a xs H = none
noncomputable def rollv (ys : List V) (s m : Int) : Int := match ys[s.toNat]?.bind V.pln? with
  | some c => c.fmod m
  | none => (7 * s + s.fdiv 3 + 2).fmod m
theorem small_of {i : Int} (h : -1000000 ≤ i) (h' : i ≤ 1000000) : small i = true := by
  unfold small; rw [decide_eq_true h, decide_eq_true h']; rfl
theorem mod_mk {c d : Int} (h : 0 < d) : arith .Mod c d = some (c.fmod d) := by
  show gO _ _ = _
  rw [decide_eq_true h]; rfl
theorem div_mk {c d : Int} (h : 0 < d) (h1 : small c = true) (h2 : small d = true) : arith .FloorDiv c d = some (c.fdiv d) := by
  show gO _ _ = _
  rw [decide_eq_true h, h1, h2]; rfl
theorem mul_mk {c d : Int} (h1 : small c = true) (h2 : small d = true) : arith .Mult c d = some (c * d) := by
  show gO _ _ = _
  rw [h1, h2]; rfl
/-- the cup: its list, the texts; b: how many rolls it has room for -/
structure Cup (H : Hp) (k y : Nat) (ys : List V) (b : Nat) : Prop where
  cup : ∃ s : Int, 0 ≤ s ∧ s + b ≤ 10000 ∧ H[k]? = some (.list [.ref y, .i s])
  txt : H[y]? = some (.list ys)
  ne : k ≠ y
  len : ys.length ≤ 1000
  itg : ∀ v ∈ ys, ∃ c, v = .i c
theorem Cup.up {X : Nat → Prop} {H H' : Hp} {k y b : Nat} {ys : List V} (C : Cup H k y ys b) (e : Ext X H H') (hk : ¬ X k) (hy : ¬ X y) : Cup H' k y ys b :=
  ⟨let ⟨s, h1, h2, h3⟩ := C.cup; ⟨s, h1, h2, e.at h3 hk fun _ _ z => nomatch z⟩, e.at C.txt hy (fun _ _ z => nomatch z), C.ne, C.len, C.itg⟩
theorem Cup.new {H t : Hp} {k y b : Nat} {ys : List V} (C : Cup H k y ys b) : Cup (H ++ t) k y ys b := C.up (X := no) .push id id
theorem Cup.as {H : Hp} {k y b c : Nat} {ys : List V} (C : Cup H k y ys c) (h : b = c) : Cup H k y ys b := h ▸ C
theorem Cup.less {H : Hp} {k y b c : Nat} {ys : List V} (C : Cup H k y ys (b + c)) : Cup H k y ys b :=
  ⟨let ⟨s, h1, h2, h3⟩ := C.cup; ⟨s, h1, by omega, h3⟩, C.txt, C.ne, C.len, C.itg⟩
theorem Cup.lt {H : Hp} {k y b : Nat} {ys : List V} (C : Cup H k y ys b) : k < H.length ∧ y < H.length := by
  obtain ⟨s, -, -, h⟩ := C.cup
  exact ⟨(List.getElem?_eq_some_iff.mp h).1, (List.getElem?_eq_some_iff.mp C.txt).1⟩
theorem lt2 {r : Int} (h : 0 ≤ r) (h' : r < 2) : r = 0 ∨ r = 1 := by omega
theorem lt3 {r : Int} (h : 0 ≤ r) (h' : r < 3) : r = 0 ∨ r = 1 ∨ r = 2 := by omega
theorem lt4 {r : Int} (h : 0 ≤ r) (h' : r < 4) : r = 0 ∨ r = 1 ∨ r = 2 ∨ r = 3 := by omega
theorem fuel {i n : Nat} (h : i ≤ n) : ∃ j, n = j + i := ⟨n - i, (Nat.sub_add_cancel h).symm⟩
theorem up_ {a j i : Nat} (h : a ≤ j) : a ≤ j + i := Nat.le_trans h (Nat.le_add_right _ _)
section
variable {orc : Orc} {n : Nat} {H : Hp} {Φ : V → Hp → Prop} {k y b : Nat} {ys : List V} {s m : Int}
theorem roll_ev (ho : ∀ i xs H, orc i 453 xs H = none) (hn : 20 ≤ n) (hk : H[k]? = some (.list [.ref y, .i s])) (hy : H[y]? = some (.list ys)) (hky : k ≠ y) (h0 : 0 ≤ s) (hs : s ≤ 10000) (hl : ys.length ≤ 1000) (hi : ∀ v ∈ ys, ∃ c, v = .i c) (hm : 0 < m)
    (q : Φ (.i (rollv ys s m)) (H.set k (.list [.ref y, .i (s + 1)]))) : cal (run orc n) (.fn 453) [.ref k, .i m] H Φ := by
  obtain ⟨j, rfl⟩ : ∃ j, n = j + 20 := ⟨n - 20, by omega⟩
  refine C_go (ho _ _ _) rfl (X_go rfl rfl ?_)
  refine som_b hk rfl ?_
  refine som_mk hk ?_
  have hk2 : (H.set k (.list [.ref y, .i (s + 1)]))[k]? = some (.list [.ref y, .i (s + 1)]) := List.getElem?_set_self (List.getElem?_eq_some_iff.mp hk).1
  have hy2 : (H.set k (.list [.ref y, .i (s + 1)]))[y]? = some (.list ys) := by rw [List.getElem?_set_ne hky]; exact hy
  generalize hH : H.set k (.list [.ref y, .i (s + 1)]) = H2 at q hk2 hy2
  refine fH_as hH ?_
  refine som_b hk2 rfl ?_
  refine B_go ?_
  refine som_mk (a := ys.length) (bind_mk (ob_mk hy2) ?_) ?_
  · show gO _ _ = _
    rw [Nat.ble_eq_true_of_le hl]; rfl
  cases hlt : decide (s < (ys.length : Int)) with
  | true =>
    refine ifs_t hlt ?_
    have hlt2 := of_decide_eq_true hlt
    have hsn : s.toNat < ys.length := by omega
    obtain ⟨cv, hc⟩ := hi _ (List.getElem_mem hsn)
    have hat : ys[s.toNat]? = some (.i cv) := by rw [List.getElem?_eq_getElem hsn, hc]
    refine som_b hk2 rfl ?_
    refine som_mk (a := .i cv) (bind_mk hy2 ?_) ?_
    · show at? ys s = _
      unfold at?
      rw [if_pos ⟨h0, by omega⟩]; exact hat
    refine som_mk (mod_mk hm) ?_
    have : rollv ys s m = cv.fmod m := by unfold rollv; rw [hat]; rfl
    rw [this] at q
    exact q
  | false =>
    refine ifs_f hlt ?_
    have hs2 : small s = true := small_of (by omega) (by omega)
    refine som_mk (mul_mk rfl hs2) ?_
    refine som_mk (div_mk (by decide) hs2 rfl) ?_
    refine som_mk (mod_mk hm) ?_
    have : rollv ys s m = (7 * s + s.fdiv 3 + 2).fmod m := by
      have hlt2 := of_decide_eq_false hlt
      unfold rollv
      rw [List.getElem?_eq_none (by omega)]; rfl
    rw [this] at q
    exact q
/-- a roll: what is known of it -/
theorem roll (hO : NoO orc) (hn : 20 ≤ n) (C : Cup H k y ys (b + 1)) (hm : 0 < m)
    (q : ∀ r H', 0 ≤ r → r < m → Cup H' k y ys b → Ext (· = k) H H' → Φ (.i r) H') : cal (run orc n) (.fn 453) [.ref k, .i m] H Φ := by
  obtain ⟨s, h0, hb, hk⟩ := C.cup
  refine roll_ev (fun i xs H => hO i _ xs H (by decide) (by decide)) hn hk C.txt C.ne h0 (by omega) C.len C.itg hm (q _ _ ?_ ?_ ⟨⟨s + 1, by omega, by omega, List.getElem?_set_self (List.getElem?_eq_some_iff.mp hk).1⟩, ?_, C.ne, C.len, C.itg⟩ (.set hk (fun _ z => nomatch z) (.inl rfl)))
  · unfold rollv; split <;> exact Int.fmod_nonneg_of_pos _ hm
  · unfold rollv; split <;> exact Int.fmod_lt_of_pos _ hm
  · rw [List.getElem?_set_ne C.ne]; exact C.txt
end
end N
end Mine
end
section
open PySem
set_option Elab.async false
set_option maxRecDepth 100000
namespace Mine
namespace N
section
variable {orc : Orc} {n : Nat} {H : Hp} {Φ : V → Hp → Prop} {k y b : Nat} {ys : List V}
noncomputable def cost : Nat → Nat
  | 0 => 2
  | d + 1 => cost d + cost d + 3
theorem get_push {H : Hp} {o : O} : (H ++ [o])[H.length]? = some o := by
  rw [List.getElem?_append_right (Nat.le_refl _), Nat.sub_self]; rfl
theorem get_up {H t : Hp} {a : Nat} {o : O} (h : H[a]? = some o) : (H ++ t)[a]? = some o := by
  rw [List.getElem?_append_left (List.getElem?_eq_some_iff.mp h).1]; exact h
theorem get_off {H t : Hp} {i : Nat} {o : O} (h : t[i]? = some o) : (H ++ t)[H.length + i]? = some o := by
  rw [List.getElem?_append_right (Nat.le_add_right _ _), Nat.add_sub_cancel_left]; exact h
theorem src_mk {H : Hp} {a : Nat} {o : O} {Ψ : List V → Option (Option Nat) → Hp → Prop} (h : H[a]? = some o) (q : srcO a o H Ψ) : srcOf (.ref a) H Ψ := som_mk (a := a) rfl (som_mk h q)
theorem shape (hO : NoO orc) : ∀ (d : Nat) {e : Int} {n b : Nat} {H : Hp} {Φ : V → Hp → Prop}, e = d → 40 + 40 * d ≤ n → Cup H k y ys (b + cost d) →
    (∀ v H' S, Wf 3 d S → SH H' (H.length ≤ ·) S v → Cup H' k y ys b → Ext (· = k) H H' → Φ v H') → cal (run orc n) (.fn 458) [.ref k, .i e] H Φ := by
  intro d
  induction d with
  | zero =>
    intro e n b H Φ he hn C q
    cases he
    obtain ⟨j, rfl⟩ : ∃ j, n = j + 40 := ⟨n - 40, by omega⟩
    obtain ⟨kH, yH⟩ := C.lt
    refine C_go (hO _ _ _ _ (by decide) (by decide)) rfl (grd_mk rfl (fH_mk ?_))
    have e1 : Ext (· = k) H (H ++ [.cell none, .cell (some (.i 0)), .cell (some (.ref k))]) := .push
    have C1 := C.new (t := [.cell none, .cell (some (.i 0)), .cell (some (.ref k))])
    have c1 : (H ++ [.cell none, .cell (some (.i 0)), .cell (some (.ref k))])[H.length + 1]? = some (.cell (some (.i 0))) := get_off rfl
    have c2 : (H ++ [.cell none, .cell (some (.i 0)), .cell (some (.ref k))])[H.length + 2]? = some (.cell (some (.ref k))) := get_off rfl
    refine som_b (bind_mk c1 rfl) rfl ?_
    refine som_b (bind_mk c2 rfl) rfl ?_
    refine roll hO (Nat.le_add_left_of_le (by decide)) C1 ?c fun r H2 r0 r2 C2 e2 => ?_
    case c => decide
    have c3 := e2.at c2 (show ¬ H.length + 2 = k by omega) fun _ _ z => nomatch z
    rcases lt2 r0 r2 with rfl | rfl
    · refine som_b (bind_mk c3 rfl) rfl ?_
      refine roll hO (Nat.le_add_left_of_le (by decide)) C2 ?c fun r H3 r0 r2 C3 e3 => ?_
      case c => decide
      exact q _ _ (.leaf false r) ⟨r0, r2⟩ rfl C3 ((e1.trans e2).trans e3)
    · refine som_b (bind_mk c3 rfl) rfl ?_
      refine roll hO (Nat.le_add_left_of_le (by decide)) C2 ?c fun r H3 r0 r2 C3 e3 => ?_
      case c => decide
      refine fH_mk ?_
      exact q _ _ (.leaf true r) ⟨r0, r2⟩ ⟨_, rfl, get_push⟩ C3.new (((e1.trans e2).trans e3).trans .push)
  | succ d ih =>
    intro e n b H Φ he hn C q
    obtain ⟨j, rfl⟩ : ∃ j, n = j + 40 := ⟨n - 40, by omega⟩
    obtain ⟨kH, yH⟩ := C.lt
    have hj : 40 + 40 * d ≤ j := by omega
    have h20 : 20 ≤ j := by omega
    have he1 : e - 1 = d := by omega
    refine C_go (hO _ _ _ _ (by decide) (by decide)) rfl (grd_mk rfl (fH_mk ?_))
    have e1 : Ext (· = k) H (H ++ [.cell none, .cell (some (.i e)), .cell (some (.ref k))]) := .push
    have C1 := C.new (t := [.cell none, .cell (some (.i e)), .cell (some (.ref k))])
    have c0 : (H ++ [.cell none, .cell (some (.i e)), .cell (some (.ref k))])[H.length]? = some (.cell none) := get_off (i := 0) rfl
    have c1 : (H ++ [.cell none, .cell (some (.i e)), .cell (some (.ref k))])[H.length + 1]? = some (.cell (some (.i e))) := get_off rfl
    have c2 : (H ++ [.cell none, .cell (some (.i e)), .cell (some (.ref k))])[H.length + 2]? = some (.cell (some (.ref k))) := get_off rfl
    refine som_b (bind_mk c1 rfl) rfl ?_
    refine ifs_t (decide_eq_true (by omega)) ?_
    refine som_b (bind_mk c2 rfl) rfl ?_
    refine roll hO (up_ h20) C1 ?c fun r H2 r0 r2 C2 e2 => ?_
    case c => decide
    have nk : ∀ {i : Nat}, ¬ H.length + i = k := by omega
    have d0 := e2.at c0 (nk (i := 0)) fun _ _ z => nomatch z
    have d1 := e2.at c1 nk fun _ _ z => nomatch z
    have d2 := e2.at c2 nk fun _ _ z => nomatch z
    have e12 := e1.trans e2
    have l2 : H.length + 3 ≤ H2.length := by have := e2.le; rw [List.length_append] at this; exact this
    clear c0 c1 c2 C1 e1 e2
    rcases lt4 r0 r2 with rfl | rfl | rfl | rfl
    · refine som_b (bind_mk d2 rfl) rfl ?_
      refine roll hO (up_ h20) C2 ?c fun r H3 q0 q2 C3 e3 => ?_
      case c => decide
      exact q _ _ (.leaf false r) ⟨q0, q2⟩ rfl C3.less (e12.trans e3)
    · refine som_b (bind_mk d2 rfl) rfl ?_
      refine som_b (bind_mk d1 rfl) rfl ?_
      refine ih he1 (up_ hj) (C2.as (show b + cost d + 2 + cost d = b + (cost d + cost d + 2) by omega)) fun v H3 S wS sS C3 e3 => ?_
      have g0 := e3.at d0 (nk (i := 0)) fun _ _ z => nomatch z
      have g2 := e3.at d2 nk fun _ _ z => nomatch z
      refine som_b g0 rfl ?_
      have e4 : Ext (· = H.length) H3 (H3.set H.length (.cell (some v))) := .set g0 (fun _ z => nomatch z) (.inl rfl)
      have e14 : Ext (· = k) H (H3.set H.length (.cell (some v))) := (e12.trans e3).fresh (Nat.le_refl _)
      have f0 : (H3.set H.length (.cell (some v)))[H.length]? = some (.cell (some v)) := List.getElem?_set_self (List.getElem?_eq_some_iff.mp g0).1
      generalize hH4 : H3.set H.length (.cell (some v)) = H4 at e4 e14 f0
      refine fH_as hH4 ?_
      have f2 := e4.at g2 (show ¬ H.length + 2 = H.length by omega) fun _ _ z => nomatch z
      have C4 := C3.up e4 (show ¬ k = H.length by omega) (show ¬ y = H.length by omega)
      have sS4 := sS.up e4 (fun b (h : H2.length ≤ b) (z : b = H.length) => by omega) fun _ h => h
      refine som_b (bind_mk f2 rfl) rfl ?_
      refine roll hO (up_ h20) C4 ?c fun lo H5 lo0 lo2 C5 e5 => ?_
      case c => decide
      have h0 := e5.at f0 (nk (i := 0)) fun _ _ z => nomatch z
      have h2 := e5.at f2 nk fun _ _ z => nomatch z
      refine som_b (bind_mk h2 rfl) rfl ?_
      refine roll hO (up_ h20) C5 ?c fun r H6 q0 q2 C6 e6 => ?_
      case c => decide
      have i0 := e6.at h0 (nk (i := 0)) fun _ _ z => nomatch z
      have e16 := (e14.trans e5).trans e6
      have sS6 := sS4.up (e5.trans e6) (G' := (H.length ≤ ·)) (fun b (h : H2.length ≤ b) (z : b = k) => by omega) fun b (h : H2.length ≤ b) => by omega
      clear h0 h2 f0 f2 sS4 C4 C5 e4 e5 e6 e14 g0 g2 sS
      have fin : ∀ (m : Nat) (ws : List V) (t : Hp), 1 ≤ m → m ≤ 3 → ws.length = m → (∀ x ∈ ws, x = v) → Φ (.ref (H6 ++ t ++ [O.list ws]).length) (H6 ++ t ++ [O.list ws] ++ [O.tup [.str 15, .i (lo - 2), .ref (H6 ++ t).length]]) := fun m ws t m1 m2 hl hx => by
        have E : Ext no H6 (H6 ++ t ++ [O.list ws] ++ [O.tup [.str 15, .i (lo - 2), .ref (H6 ++ t).length]]) := (Ext.push.trans .push).trans .push
        subst hl
        refine q _ _ (.node true (lo - 2) ws.length fun _ => S) ⟨m1, m2, fun _ _ => wS⟩ (.mk (c := (H6 ++ t).length) ⟨get_push, get_up get_push, ?_⟩ fun i x hi => ?_) (C6.less.up E id id) (e16.trans (E.mono fun _ h => h.elim))
        · have := e16.le
          rw [List.length_append]
          show H.length ≤ _
          omega
        · rw [hx x (List.mem_of_getElem? hi)]
          exact sS6.up E (fun _ _ => id) fun _ h => h
      have j0 := get_up (t := [O.range 0 0 (1 + r)]) i0
      rcases lt3 q0 q2 with rfl | rfl | rfl
      · refine B_go (fH_mk (src_mk get_push ?_))
        refine som_b (bind_mk j0 rfl) rfl (fH_mk (fH_mk ?_))
        exact fin 1 [v] _ (by decide) (by decide) rfl (by simp)
      · refine B_go (fH_mk (src_mk get_push ?_))
        refine som_b (bind_mk j0 rfl) rfl ?_
        refine som_b (bind_mk j0 rfl) rfl (fH_mk (fH_mk ?_))
        exact fin 2 [v, v] _ (by decide) (by decide) rfl (by simp)
      · refine B_go (fH_mk (src_mk get_push ?_))
        refine som_b (bind_mk j0 rfl) rfl ?_
        refine som_b (bind_mk j0 rfl) rfl ?_
        refine som_b (bind_mk j0 rfl) rfl (fH_mk (fH_mk ?_))
        exact fin 3 [v, v, v] _ (by decide) (by decide) rfl (by simp)
    · refine som_b (bind_mk d2 rfl) rfl ?_
      refine roll hO (up_ h20) C2 ?c fun r H3 q0 q2 C3 e3 => ?_
      case c => decide
      have g1 := get_up (t := [O.range 0 0 (1 + r)]) (e3.at d1 nk fun _ _ z => nomatch z)
      have g2 := get_up (t := [O.range 0 0 (1 + r)]) (e3.at d2 nk fun _ _ z => nomatch z)
      have C4 := (C3.as (show b + 1 + cost d + cost d = b + (cost d + cost d + 1) by omega)).new (t := [O.range 0 0 (1 + r)])
      have e14 : Ext (· = k) H (H3 ++ [O.range 0 0 (1 + r)]) := (e12.trans e3).trans .push
      clear d0 d1 d2 C2 C3 e12 l2
      have fin : ∀ (m : Nat) (ws : List V) (H5 : Hp) (K : Nat → Sh), 1 ≤ m → m ≤ 2 → ws.length = m → Ext (· = k) H H5 → Cup H5 k y ys b → (∀ i, i < m → Wf 3 d (K i)) → (∀ i x, ws[i]? = some x → SH H5 (H.length ≤ ·) (K i) x) →
          Φ (.ref (H5 ++ [O.list ws]).length) (H5 ++ [O.list ws] ++ [O.tup [.str 16, .ref H5.length]])   := fun m ws H5 K m1 m2 hl e C hw hs => by
        have E : Ext no H5 (H5 ++ [O.list ws] ++ [O.tup [.str 16, .ref H5.length]]) := Ext.push.trans .push
        subst hl
        exact q _ _ (.node false 0 ws.length K) ⟨m1, m2, hw⟩ (.mk ⟨get_push, get_up get_push, e.le⟩ fun i x hi => (hs i x hi).ext E) (C.up E id id) (e.trans (E.mono fun _ h => h.elim))
      rcases lt2 q0 q2 with rfl | rfl
      · refine B_go (fH_mk (src_mk get_push ?_))
        refine som_b (bind_mk g2 rfl) rfl ?_
        refine som_b (bind_mk g1 rfl) rfl ?_
        refine ih he1 (up_ hj) C4 fun v H5 S wS sS C5 e5 => ?_
        refine fH_mk (fH_mk ?_)
        refine fin 1 [v] H5 (fun _ => S) (by decide) (by decide) rfl (e14.trans e5) C5.less.less (fun _ _ => wS) fun i x hi => ?_
        rw [List.mem_singleton.mp (List.mem_of_getElem? hi)]
        exact sS.up (X := no) .refl (fun _ _ => id) fun b h => Nat.le_trans e14.le h
      · refine B_go (fH_mk (src_mk get_push ?_))
        refine som_b (bind_mk g2 rfl) rfl ?_
        refine som_b (bind_mk g1 rfl) rfl ?_
        refine ih he1 (up_ hj) C4 fun v H5 S wS sS C5 e5 => ?_
        have h1 := e5.at g1 nk fun _ _ z => nomatch z
        have h2 := e5.at g2 nk fun _ _ z => nomatch z
        refine som_b (bind_mk h2 rfl) rfl ?_
        refine som_b (bind_mk h1 rfl) rfl ?_
        refine ih he1 (up_ hj) C5 fun w H6 T wT sT C6 e6 => ?_
        refine fH_mk (fH_mk ?_)
        refine fin 2 [v, w] H6 (fun i => match i with | 0 => S | _ + 1 => T) (by decide) (by decide) rfl ((e14.trans e5).trans e6) C6.less (fun i _ => by cases i <;> assumption) fun i x hi => ?_
        have := e14.le
        match i, hi with
        | 0, hi =>
          cases hi
          exact sS.up e6 (fun b (h : (H3 ++ [O.range 0 0 (1 + 1)]).length ≤ b) (z : b = k) => by omega) fun b h => Nat.le_trans e14.le h
        | 1, hi =>
          cases hi
          exact sT.up (X := no) .refl (fun _ _ => id) fun b h => Nat.le_trans e14.le (Nat.le_trans e5.le h)
        | i + 2, hi => cases hi
    · refine som_b (bind_mk d2 rfl) rfl ?_
      refine roll hO (up_ h20) C2 ?c fun r H3 q0 q2 C3 e3 => ?_
      case c => decide
      refine fH_mk ?_
      exact q _ _ (.leaf true r) ⟨q0, q2⟩ ⟨_, rfl, get_push⟩ C3.less.new ((e12.trans e3).trans .push)
end
end N
end Mine
end
section
open PySem
set_option Elab.async false
set_option maxRecDepth 100000
namespace Mine
namespace N
section
variable {orc : Orc} {n : Nat} {H : Hp} {Φ : V → Hp → Prop}
theorem K_go {a i : Nat} {vs : List V} (ho : orc (n + 1) a vs H = none) (hf : lookc a funs = none) (hc : lookc a clss = some i) (q : cal (run orc n) (.fn i) (.ref H.length :: vs) (H ++ [.inst a []]) fun u H' => grd u.isNone (Φ (.ref H.length) H')) : cal (run orc (n + 1)) (.fn a) vs H Φ := by
  rw [cal_eq]
  show (match orc (n + 1) a vs H with
    | some p => Φ p.1 p.2
    | none => match lookc a funs with
      | some fi => stepX (run orc n) fi vs H (retF Φ)
      | none => som (lookc a clss) fun i => alloc (.inst a []) H fun x H => cal (run orc n) (.fn i) (x :: vs) H fun u H => grd u.isNone (Φ x H))
  rw [ho]; dsimp only; rw [hf, hc]; exact fH_mk q
theorem set_push {H : Hp} {o p : O} : (H ++ [o]).set H.length p = H ++ [p] := by
  rw [List.set_append_right _ _ (Nat.le_refl _), Nat.sub_self]; rfl
theorem mk_arr (hO : NoO orc) (hn : 20 ≤ n) {x y : V} (q : Φ (.ref H.length) (H ++ [.inst 159 [(26, x), (27, y)]])) : cal (run orc n) (.fn 159) [x, y] H Φ := by
  obtain ⟨j, rfl⟩ : ∃ j, n = j + 20 := ⟨n - 20, by omega⟩
  refine K_go (hO _ _ _ _ (by decide) (by decide)) rfl rfl (C_go (hO _ _ _ _ (by decide) (by decide)) rfl (X_go rfl rfl ?_))
  refine som_b get_push rfl (fH_as set_push ?_)
  refine som_b get_push rfl (fH_as set_push ?_)
  exact q
theorem mk_rec (hO : NoO orc) (hn : 20 ≤ n) {x y : V} (q : Φ (.ref H.length) (H ++ [.inst 180 [(28, x), (23, y)]])) : cal (run orc n) (.fn 180) [x, y] H Φ := by
  obtain ⟨j, rfl⟩ : ∃ j, n = j + 20 := ⟨n - 20, by omega⟩
  refine K_go (hO _ _ _ _ (by decide) (by decide)) rfl rfl (C_go (hO _ _ _ _ (by decide) (by decide)) rfl (X_go rfl rfl ?_))
  refine som_b get_push rfl (fH_as set_push ?_)
  refine som_b get_push rfl (fH_as set_push ?_)
  exact q
theorem lookc_self {α : Type} {c : Nat} {v : α} : ∀ {l : List (Nat × α)}, lookc c (putc c v l) = some v := by
  intro l
  induction l with
  | nil => exact if_pos rfl
  | cons p r ih =>
    rw [putc]
    by_cases h : p.1 = c
    · rw [if_pos h]; exact if_pos h
    · rw [if_neg h]; exact (if_neg h).trans ih
theorem eqb_refl (x : V) : eqb x x = true := by
  unfold eqb
  rw [Nat.beq_refl, Nat.beq_refl, decide_eq_true rfl]; rfl
theorem eqbs_refl : ∀ xs : List V, eqbs xs xs = true := by
  intro xs
  induction xs with
  | nil => rfl
  | cons x xs ih =>
    show (eqb x x && eqbs xs xs) = true
    rw [eqb_refl, ih]; rfl
/-- a list that is gone over is still the same -/
theorem still_mk {a : Nat} {vs : List V} (h : H[a]? = some (.list vs)) : still (.ref a) (some none) vs H = true := by
  show (match H[a]? with
    | some o => stillO none vs o
    | none => false) = true
  rw [h]; exact eqbs_refl vs
theorem isi_tup {a : Nat} {xs : List V} (h : H[a]? = some (.tup xs)) : isi (.ref a) (.bi .int) H = some false := by
  show ((H[a]?.bind O.tup?).map fun _ => true).map (!·) = some false
  rw [h]; rfl
/-- made values in a row -/
structure MVs (t c0 : Nat) (H : Hp) (k : Nat → Sh) (lo : Nat) (ys : List V) (K : Nat → Nat → Prop) : Prop where
  own : ∀ j x, K j x → j < ys.length ∧ lo ≤ x ∧ x < H.length
  dis : ∀ i j x, K i x → K j x → i = j
  mv : ∀ j y, ys[j]? = some y → MV t c0 H (k j) y (K j)
theorem MVs.nil {t c0 lo : Nat} {k : Nat → Sh} : MVs t c0 H k lo [] fun _ _ => False := ⟨fun _ _ h => h.elim, fun _ _ _ h => h.elim, fun _ _ h => nomatch h⟩
theorem MVs.up {t c0 lo : Nat} {k : Nat → Sh} {H H' : Hp} {ys : List V} {K : Nat → Nat → Prop} (m : MVs t c0 H k lo ys K) {X : Nat → Prop} (e : Ext X H H') (hx : ∀ x, lo ≤ x → ¬ X x) : MVs t c0 H' k lo ys K :=
  ⟨fun j x h => ⟨(m.own j x h).1, (m.own j x h).2.1, Nat.lt_of_lt_of_le (m.own j x h).2.2 e.le⟩, m.dis, fun j y h => (m.mv j y h).up e (fun x hK => hx x (m.own j x hK).2.1) fun _ h => h⟩
theorem MVs.snoc {t c0 lo : Nat} {k : Nat → Sh} {H H' : Hp} {ys : List V} {K : Nat → Nat → Prop} (m : MVs t c0 H k lo ys K) (hlo : lo ≤ H.length) (e : Ext no H H') {y : V} (h : MV t c0 H' (k ys.length) y (H.length ≤ ·)) :
    MVs t c0 H' k lo (ys ++ [y]) fun j x => K j x ∨ j = ys.length ∧ H.length ≤ x ∧ x < H'.length := by
  have m' := m.up e fun _ _ => id
  have h := h.bd
  refine ⟨fun j x h => ?_, fun i j x h h' => ?_, fun j z hz => ?_⟩
  · rw [List.length_append]
    rcases h with h | ⟨rfl, h1, h2⟩
    · exact ⟨Nat.lt_succ_of_lt (m'.own j x h).1, (m'.own j x h).2⟩
    · exact ⟨Nat.lt_succ_self _, Nat.le_trans hlo h1, h2⟩
  · rcases h with h | ⟨rfl, h1, h2⟩ <;> rcases h' with h' | ⟨rfl, h3, h4⟩
    · exact m.dis i j x h h'
    · exact absurd (m.own i x h).2.2 (Nat.not_lt.mpr h3)
    · exact absurd (m.own j x h').2.2 (Nat.not_lt.mpr h1)
    · rfl
  · by_cases hj : j < ys.length
    · rw [List.getElem?_append_left hj] at hz
      exact (m'.mv j z hz).up .refl (fun _ _ => id) fun _ h => .inl h
    · rw [List.getElem?_append_right (Nat.not_lt.mp hj)] at hz
      obtain ⟨h1, h2⟩ := List.getElem?_eq_some_iff.mp hz
      have h1 : j - ys.length < 1 := h1
      have hj' : j = ys.length := by omega
      subst hj'
      have : z = y := by rw [← h2]; simp
      subst this
      exact h.up (X := no) .refl (fun _ _ => id) fun _ h => .inr ⟨rfl, h⟩
end
end N
end Mine
end
section
open PySem
set_option Elab.async false
set_option maxRecDepth 100000
namespace Mine
namespace N
section
variable {orc : Orc}
noncomputable def cellsV (c0 : Nat) : List V := [.ref c0, .ref (c0 + 1), .ref (c0 + 2), .none]
/-- a name is bound, which no captured name is -/
theorem bindX1 {me : ME} {x : Nat} {v : V} {H : Hp} {Φ : ME → Hp → Prop} {l : List (Nat × V)} (hc : lookc x me.cl = none) (hl : hasc x me.lc = true) (hp : putc x v me.loc = l) (q : Φ ⟨l, me.cl, me.gl, me.lc⟩ H) : bindX me [x] v H Φ := by
  show (match lookc x me.cl with
    | some k => som (H[k]?.bind O.cell?) fun _ => seto k (.cell (some v)) H (Φ me)
    | none => grd (hasc x me.lc) (Φ { me with loc := putc x v me.loc } H))
  rw [hc]
  refine grd_mk hl ?_
  rw [hp]; exact q
/-- one name's place -/
noncomputable def One (x : Nat) (l : List (Nat × V)) : Prop := l = [] ∨ ∃ u, l = [(x, u)]
theorem One.put {x : Nat} {l : List (Nat × V)} {v : V} (h : One x l) : putc x v l = [(x, v)] := by
  rcases h with rfl | ⟨u, rfl⟩
  · rfl
  · exact if_pos rfl
/-- what a call of _law_value gives -/
noncomputable def ValC (orc : Orc) (d : Nat) : Prop := ∀ {e : Nat} {S : Sh} {v : V} {n t c0 l : Nat} {H : Hp} {G : Nat → Prop} {Φ : V → Hp → Prop}, Wf e d S → e ≤ 4 → 40 + 40 * d ≤ n → SH H G S v → H[l]? = some (.list (cellsV c0)) →
  (∀ v' H', MV t c0 H' S v' (H.length ≤ ·) → Ext no H H' → Φ v' H') → cal (run orc n) (.fn 463) [v, .ref t, .ref l] H Φ
theorem val_loop {d j t c0 l L c lo : Nat} {G : Nat → Prop} {k : Nat → Sh} {vs : List V} {Ψ : List V → ME → Hp → Prop} (ih : ValC orc d) (hj : 40 + 40 * d ≤ j) (hw : ∀ i, i < vs.length → Wf 3 d (k i)) (hz : vs.length ≤ 1000) : ∀ (ws pre ys : List V) (K : Nat → Nat → Prop) (H : Hp) (ml : List (Nat × V)), vs = pre ++ ws → pre.length = ys.length →
    One 22 ml → lo ≤ H.length → H[L]? = some (.cell (some (.ref l))) → H[L + 1]? = some (.cell (some (.ref t))) → H[c]? = some (.list vs) → H[l]? = some (.list (cellsV c0)) → (∀ i x, vs[i]? = some x → SH H G (k i) x) → MVs t c0 H k lo ys K →
    (∀ ys' K' H' me, ys'.length = vs.length → MVs t c0 H' k lo ys' K' → Ext no H H' → Ψ ys' me H') →
    compL (run orc (j + 20)) ⟨ml, [(20, L), (19, L + 1)], [158], [22]⟩ (.call (.nm 158) [.nm 22, .nm 19, .nm 20]) [22] [] (.ref c) (some none) vs ws ys H Ψ := by
  intro ws
  induction ws with
  | nil =>
    intro pre ys K H ml hv hl _ _ _ _ _ _ _ m q
    exact q ys K H _ (by rw [hv, List.append_nil]; exact hl.symm) m .refl
  | cons w ws ihw =>
    intro pre ys K H ml hv hl ho hlo h20 h19 hc hcl hs m q
    have hlt : ys.length < vs.length := by rw [hv, List.length_append, ← hl]; exact Nat.lt_add_of_pos_right (Nat.succ_pos _)
    have hw1 : vs[ys.length]? = some w := by rw [hv, ← hl, List.getElem?_append_right (Nat.le_refl _), Nat.sub_self]; rfl
    refine bindX1 rfl rfl ho.put (grd_mk (Nat.ble_eq_true_of_le (Nat.le_of_lt (Nat.lt_of_lt_of_le hlt hz))) ?_)
    refine som_b (bind_mk h19 rfl) rfl ?_
    refine som_b (bind_mk h20 rfl) rfl ?_
    refine ih (hw _ hlt) (by decide) (up_ hj) (hs _ _ hw1) hcl fun y H' my e => ?_
    have hc' := e.at hc id fun _ _ z => nomatch z
    refine grd_mk (still_mk hc') ?_
    exact ihw (pre ++ [w]) (ys ++ [y]) _ H' _ (by rw [hv, List.append_assoc]; rfl) (by rw [List.length_append, List.length_append, hl]; rfl) (.inr ⟨w, rfl⟩) (Nat.le_trans hlo e.le) (e.at h20 id fun _ _ z => nomatch z) (e.at h19 id fun _ _ z => nomatch z) hc' (e.at hcl id fun _ _ z => nomatch z)
      (fun i x hi => (hs i x hi).ext e) (m.snoc hlo e my) fun ys' K' H2 me h1 h2 e2 => q ys' K' H2 me h1 h2 (e.trans e2)
theorem len_mk {H : Hp} {a : Nat} {xs : List V} (h : H[a]? = some (.list xs)) (hz : xs.length ≤ 1000) : (obOf H (.ref a)).bind lenO = some xs.length := by
  refine bind_mk (ob_mk h) ?_
  show gO _ _ = _
  rw [Nat.ble_eq_true_of_le hz]; rfl
theorem len1 {H : Hp} {o : O} : (H ++ [o]).length = H.length + 1 := List.length_append
theorem val_leaf (hO : NoO orc) {b : Bool} {i : Int} {v : V} {n t c0 l : Nat} {H : Hp} {G : Nat → Prop} {Φ : V → Hp → Prop} (wf : 0 ≤ i ∧ i < lid b) (hn : 40 ≤ n) (hs : SH H G (.leaf b i) v) (hl : H[l]? = some (.list (cellsV c0)))
    (q : ∀ v' H', MV t c0 H' (.leaf b i) v' (H.length ≤ ·) → Ext no H H' → Φ v' H') : cal (run orc n) (.fn 463) [v, .ref t, .ref l] H Φ := by
  obtain ⟨j, rfl⟩ := fuel hn
  refine C_go (hO _ _ _ _ (by decide) (by decide)) rfl (grd_mk rfl (fH_mk ?_))
  cases b with
  | false =>
    cases hs
    refine B_go ?_
    exact q _ _ rfl .push
  | true =>
    obtain ⟨a, rfl, h⟩ := hs
    have h := get_up (t := [.cell (some (.ref l)), .cell (some (.ref t))]) h
    have hl := get_up (t := [.cell (some (.ref l)), .cell (some (.ref t))]) hl
    have h20 : (H ++ [.cell (some (.ref l)), .cell (some (.ref t))])[H.length]? = _ := get_off (i := 0) rfl
    refine B_go (som_mk (isi_tup h) ?_)
    refine som_b h rfl ?_
    refine som_b (bind_mk h20 rfl) rfl ?_
    refine som_b h rfl ?_
    rcases lt4 wf.1 wf.2 with rfl | rfl | rfl | rfl <;> exact som_b hl rfl (q _ _ rfl .push)
theorem fg_mk {i : Nat} (h : i < 2) : fgAt 25 i = some (.str (i + 6)) := by
  match i, h with
  | 0, _ => rfl
  | 1, _ => rfl
theorem at_mk {vs : List V} {i : Nat} {x : V} (h : vs[i]? = some x) (hi : i < 1000) : at? vs i = some x := by
  unfold at?
  rw [if_pos ⟨Int.natCast_nonneg i, Int.ofNat_lt.mpr hi⟩]; exact h
theorem small_nat {n : Nat} (h : n ≤ 1000) : small n = true := small_of (by omega) (by omega)
theorem le_nat {n : Nat} (h : n ≤ 1000) : decide ((n : Int) - 0 ≤ 1000) = true := decide_eq_true (by omega)
theorem and_mk {a b : Bool} (h : a = true) (h' : b = true) : (a && b) = true := by rw [h, h']; rfl
theorem putz {ys : List V} {v : V} (h : ys.length < 2) : putc (ys.length + 6) v ([6, 7].zip ys) = [6, 7].zip (ys ++ [v]) ∧ Nat.ble ([6, 7].zip ys).length 499 = true := by
  rcases ys with _ | ⟨y, _ | ⟨z, ys⟩⟩
  · exact ⟨rfl, rfl⟩
  · exact ⟨rfl, rfl⟩
  · exact absurd (show 2 < 2 from Nat.lt_of_le_of_lt (Nat.le_add_left 2 _) h) (by decide)
/-- the locals within the loop over a record's parts -/
noncomputable def Two (a d : V) (l : List (Nat × V)) : Prop := l = [(18, a), (23, d)] ∨ ∃ u, l = [(18, a), (23, d), (24, u)]
theorem Two.put {a d v : V} {l : List (Nat × V)} (h : Two a d l) : putc 24 v l = [(18, a), (23, d), (24, v)] := by
  rcases h with rfl | ⟨u, rfl⟩ <;> rfl
theorem valr_loop {d j t c0 l L a c D lo : Nat} {G : Nat → Prop} {k : Nat → Sh} {vs : List V} {Ψ : Fl → ME → Hp → Prop} (ih : ValC orc d) (hj : 40 + 40 * d ≤ j) (hw : ∀ i, i < vs.length → Wf 3 d (k i)) (hz : vs.length ≤ 2) (D1 : D < lo) (D2 : L + 1 < D) (D3 : l < D) (D4 : ∀ x, G x → x < D) (src : V) (all : List V) :
    ∀ (r : Nat) (ys : List V) (K : Nat → Nat → Prop) (H : Hp) (ml : List (Nat × V)), ys.length + r = vs.length → Two (.ref a) (.ref D) ml → lo ≤ H.length → H[L]? = some (.cell (some (.ref l))) → H[L + 1]? = some (.cell (some (.ref t))) → H[a]? = some (.tup [.str 16, .ref c]) → H[c]? = some (.list vs) → G c → H[l]? = some (.list (cellsV c0)) → (∃ st, H[D]? = some (.dict st ([6, 7].zip ys))) → (∀ i x, vs[i]? = some x → SH H G (k i) x) → MVs t c0 H k lo ys K →
    (∀ ys' K' H' ml', ys'.length = vs.length → Two (.ref a) (.ref D) ml' → MVs t c0 H' k lo ys' K' → Ext (· = D) H H' → (∃ st, H'[D]? = some (.dict st ([6, 7].zip ys'))) → Ψ .next ⟨ml', [(20, L), (19, L + 1)], [123, 120, 126, 117, 118, 158, 127], [18, 21, 23, 24]⟩ H') →
    forL (run orc (j + 20)) [24] [.asg (.sub (.nm 23) (.sub (.str 25) (.nm 24))) (.call (.nm 158) [.sub (.sub (.nm 18) (.int 1)) (.nm 24), .nm 19, .nm 20])] src none all (intsF 0 ys.length r) ⟨ml, [(20, L), (19, L + 1)], [123, 120, 126, 117, 118, 158, 127], [18, 21, 23, 24]⟩ H Ψ := by
  intro r
  induction r with
  | zero => intro ys K H ml hi ho _ _ _ _ _ _ _ hd _ m q; exact q ys K H ml hi ho m .refl hd
  | succ r ihr =>
    intro ys K H ml hi ho hlo c20 c19 h hc hG hl hd hk m q
    have hlt : ys.length < vs.length := hi ▸ Nat.lt_add_of_pos_right (Nat.succ_pos _)
    have h2 := Nat.lt_of_lt_of_le hlt hz
    have x1 := List.getElem?_eq_getElem hlt
    refine bindX1 rfl rfl ho.put ?_
    refine som_b h rfl (som_b hc (at_mk x1 (Nat.lt_trans h2 (by decide))) ?_)
    refine som_b (bind_mk c19 rfl) rfl (som_b (bind_mk c20 rfl) rfl ?_)
    refine ih (hw _ hlt) (by decide) (up_ hj) (hk _ _ x1) hl fun v H1 mv e1 => ?_
    obtain ⟨st, hd⟩ := hd
    obtain ⟨st, hd⟩ := e1.dct hd id
    obtain ⟨z1, z2⟩ := putz (v := v) h2
    refine som_mk (fg_mk h2) (som_mk (a := D) rfl (som_mk hd (grd_mk z2 (fH_put hd (fun _ z => nomatch z) fun H2 e2 _ hd2 => ?_))))
    rw [z1] at hd2
    have e := (e1.mono (Y := (· = D)) fun _ h => h.elim).trans e2
    have ne : ∀ {x : Nat}, x < D → ¬ x = D := fun h => Nat.ne_of_lt h
    have key := ihr (ys ++ [v]) _ H2 [(18, .ref a), (23, .ref D), (24, .i ys.length)] (by rw [List.length_append]; exact (Nat.succ_add ys.length r).trans hi) (.inr ⟨_, rfl⟩) (Nat.le_trans hlo e.le) (e.at c20 (ne (Nat.lt_of_succ_lt D2)) fun _ _ z => nomatch z) (e.at c19 (ne D2) fun _ _ z => nomatch z) (e.tup _ _ h) (e.at hc (ne (D4 _ hG)) fun _ _ z => nomatch z) hG (e.at hl (ne D3) fun _ _ z => nomatch z) ⟨_, hd2⟩ (fun i x hi => (hk i x hi).up e (fun b hb => ne (D4 b hb)) fun _ h => h) ((m.snoc hlo e1 mv).up e2 fun x hx => Nat.ne_of_gt (Nat.lt_of_lt_of_le D1 hx)) fun ys' K' H' ml' h1 h2 h3 h4 => q ys' K' H' ml' h1 h2 h3 (e.trans h4)
    rw [List.length_append] at key
    exact key
theorem value (hO : NoO orc) : ∀ d, ValC orc d := by
  intro d
  induction d with
  | zero =>
    intro e S v n t c0 l H G Φ wf he hn hs hl q
    cases S with
    | leaf b i => exact val_leaf hO wf hn hs hl q
    | node _ _ _ _ => exact wf.elim
  | succ d ih =>
    intro e S v n t c0 l H G Φ wf he hn hs hl q
    cases S with
    | leaf b i => exact val_leaf hO wf (Nat.le_trans (Nat.le_add_right _ _) hn) hs hl q
    | node b lo m k =>
      obtain ⟨m1, m2, wf⟩ := wf
      obtain ⟨j, rfl⟩ := fuel (Nat.le_trans (Nat.le_add_right _ _) hn)
      have hj : 40 + 40 * d ≤ j := Nat.le_of_add_le_add_right (b := 40) hn
      have h20 : 20 ≤ j := Nat.le_trans (Nat.le_add_right_of_le (by decide)) hj
      cases hs.bd with
      | @mk a c vs s hk =>
      obtain ⟨h, hc, hG⟩ := s
      have lH := (List.getElem?_eq_some_iff.mp hl).1
      refine C_go (hO _ _ _ _ (by decide) (by decide)) rfl (grd_mk rfl (fH_app fun H1 e1 L1 g1 => ?_))
      have L1 : H1.length = H.length + 2 := L1
      have h := e1.tup _ _ h
      have hl := e1.lst hl
      have hc := e1.lst hc
      have hk := fun i x hi => (hk i x hi).ext e1
      have c20 : H1[H.length]? = some (.cell (some (.ref l))) := g1 0 _ rfl
      have c19 : H1[H.length + 1]? = some (.cell (some (.ref t))) := g1 1 _ rfl
      clear g1
      refine B_go (som_mk (isi_tup h) ?_)
      cases b with
      | true =>
        have hz : vs.length ≤ 1000 := Nat.le_trans m2 (Nat.le_trans he (by decide))
        refine som_b h rfl ?_
        refine som_b h rfl ?_
        refine som_b h rfl ?_
        refine src_mk hc (grd_mk (Nat.ble_eq_true_of_le hz) ?_)
        refine val_loop ih (up_ hj) wf hz vs [] [] _ _ _ rfl rfl (.inl rfl) (Nat.le_refl _) c20 c19 hc hl hk .nil fun ys K H2 me hy mv e2 => ?_
        have h2 := get_up (t := [.list ys]) (e2.tup _ _ h)
        refine fH_mk ?_
        refine som_b h2 rfl ?_
        refine som_b h2 rfl ?_
        refine B_go (som_mk (len_mk get_push (hy ▸ hz)) ?_)
        refine fH_mk (fH_mk (mk_arr hO (up_ h20) ?_))
        have hL := e2.le
        have E : Ext no H2 (H2 ++ [O.list ys] ++ [O.tup [.i lo, .i (lo + ys.length - 1)]] ++ [O.list [V.ref (H2 ++ [O.list ys]).length]] ++ [O.inst 159 [(26, .ref (H2 ++ [O.list ys] ++ [O.tup [.i lo, .i (lo + ys.length - 1)]]).length), (27, .ref H2.length)]]) := ((Ext.push.trans .push).trans .push).trans .push
        have e12 := e1.trans e2
        have p1 := Ext.push (X := no) (H := H2) (t := [O.list ys])
        have p2 := p1.trans (.push (t := [O.tup [.i lo, .i (lo + ys.length - 1)]]))
        have p3 := p2.trans (.push (t := [O.list [V.ref (H2 ++ [O.list ys]).length]]))
        refine q _ _ (hy ▸ .arr ⟨get_push, get_up get_push, get_up (get_up get_push), get_up (get_up (get_up get_push))⟩ ⟨(e12.trans p3).le, (e12.trans p2).le, e12.le, fun z => ?_, fun i x hK => ?_, mv.dis⟩ fun i x hi => (mv.mv i x hi).up E (fun _ _ => id) fun _ h => h) (e12.trans E)
        · have := p1.le
          rw [z, len1, len1] at this
          exact absurd this (Nat.not_succ_le_self _)
        · obtain ⟨h1, h2, h3⟩ := mv.own i x hK
          exact ⟨Nat.le_trans e1.le h2, Nat.ne_of_lt (Nat.lt_of_lt_of_le h3 p3.le), Nat.ne_of_lt (Nat.lt_of_lt_of_le h3 p2.le), Nat.ne_of_lt h3⟩
      | false =>
        refine som_b h rfl ?_
        refine som_b h rfl ?_
        refine fH_new fun H2 n2 l2 hd => ?_
        have h := n2.tup _ _ h
        have hc := n2.lst hc
        have hl := n2.lst hl
        have c19 := n2.cel c19
        have c20 := n2.cel c20
        have e2 := e1.trans n2
        have hk := fun i x hi => (hk i x hi).ext n2
        have le1 := e1.le
        have l12 : H1.length < H2.length := l2 ▸ Nat.lt_succ_self _
        clear e1 n2
        have fin : ∀ {H' : Hp} {st : Option Nat} {ys : List V} {K : Nat → Nat → Prop}, Ext no H H' → H'[H1.length]? = some (.dict st ([6, 7].zip ys)) → ys.length = vs.length → vs.length ≤ 2 → MVs t c0 H' k H2.length ys K → H2.length ≤ H'.length → Φ (.ref H'.length) (H' ++ [.inst 180 [(28, .ref t), (23, .ref H1.length)]]) := fun {H' st ys K} e hd hy h2 mv hle => by
          have E := Ext.push (X := no) (H := H') (t := [O.inst 180 [(28, .ref t), (23, .ref H1.length)]])
          exact q _ _ (hy ▸ .rcd ⟨get_push, ⟨st, get_up hd⟩, hy ▸ h2⟩ ⟨e.le, e.le, le1, fun z => Nat.ne_of_lt (Nat.lt_of_lt_of_le l12 hle) z, fun i x hK => let ⟨_, h2, h3⟩ := mv.own i x hK; ⟨Nat.le_trans e2.le h2, Nat.ne_of_lt h3, Nat.ne_of_lt h3, Nat.ne_of_gt (Nat.lt_of_lt_of_le l12 h2)⟩, mv.dis⟩ fun i x hi => (mv.mv i x hi).up E (fun _ _ => id) fun _ h => h) (e.trans E)
        have nD : ∀ x, H2.length ≤ x → ¬ x = H1.length := fun x hx => Nat.ne_of_gt (Nat.lt_of_lt_of_le l12 hx)
        have hD : ∀ x, x = H1.length → H.length ≤ x := fun x hx => hx ▸ le1
        refine som_b h rfl ?_
        have h2 : vs.length ≤ 2 := m2
        have hz : vs.length ≤ 1000 := Nat.le_trans h2 (by decide)
        refine B_go (som_mk (len_mk hc hz) (B_go (grd_mk (and_mk rfl (small_nat hz)) (fH_new fun H3 n3 l3 hr => src_mk hr (grd_mk (and_mk (and_mk rfl (small_nat hz)) (le_nat hz)) ?_)))))
        refine valr_loop ih (up_ hj) wf h2 l12 (L1 ▸ Nat.lt_succ_self _) (Nat.lt_of_lt_of_le lH le1) (fun x hx => Nat.lt_of_lt_of_le hx.2 le1) _ _ vs.length [] _ H3 _ (Nat.zero_add _) (.inl rfl) n3.le (n3.cel c20) (n3.cel c19) (n3.tup _ _ h) (n3.lst hc) hG (n3.lst hl) (n3.dct hd id) (fun i x hi => (hk i x hi).ext n3) .nil fun ys K H4 ml hy ho mv e4 hd4 => ?_
        obtain ⟨st, hd4⟩ := hd4
        have c4 := e4.at (n3.cel c19) (Nat.ne_of_lt (L1 ▸ Nat.lt_succ_self _)) fun _ _ z => nomatch z
        have F := fin ((e2.trans n3).drop e4 hD) hd4 hy h2 mv (Nat.le_trans n3.le e4.le)
        rcases ho with rfl | ⟨u, rfl⟩
        · exact som_b (bind_mk c4 rfl) rfl (mk_rec hO (up_ h20) F)
        · exact som_b (bind_mk c4 rfl) rfl (mk_rec hO (up_ h20) F)
end
end N
end Mine
end
section
open PySem
set_option Elab.async false
set_option maxRecDepth 100000
namespace Mine
namespace N
/-- all stays but for the stamps of dicts among Y -/
structure Stm (Y : Nat → Prop) (H H' : Hp) : Prop where
  e : Ext no H H'
  ex : ∀ (a : Nat) (o : O), ¬ Y a → H[a]? = some o → H'[a]? = some o
theorem Stm.refl {Y : Nat → Prop} {H : Hp} : Stm Y H H := ⟨.refl, fun _ _ _ h => h⟩
theorem Stm.trans {Y : Nat → Prop} {H H' H'' : Hp} (a : Stm Y H H') (b : Stm Y H' H'') : Stm Y H H'' := ⟨a.e.trans b.e, fun c o hy h => b.ex c o hy (a.ex c o hy h)⟩
theorem Stm.mono {Y Z : Nat → Prop} {H H' : Hp} (a : Stm Y H H') (h : ∀ x, Y x → Z x) : Stm Z H H' := ⟨a.e, fun c o hz => a.ex c o fun y => hz (h c y)⟩
/-- what is made anew is of no account -/
theorem Stm.drop {Y Z : Nat → Prop} {H H' H'' : Hp} (a : Stm Y H H') (b : Ext Z H' H'') (hb : ∀ (c : Nat) (o : O), ¬ Z c → H'[c]? = some o → H''[c]? = some o) (h : ∀ x, Z x → H.length ≤ x) : Stm Y H H'' :=
  ⟨a.e.drop b h, fun c o hy hc => hb c o (fun z => absurd (List.getElem?_eq_some_iff.mp hc).1 (Nat.not_lt.mpr (h c z))) (a.ex c o hy hc)⟩
theorem Stm.push {Y : Nat → Prop} {H t : Hp} : Stm Y H (H ++ t) := ⟨.push, fun a o _ h => get_up h⟩
theorem fH_nw {H : Hp} {o : O} {k : Hp → Prop} (q : ∀ H', Stm no H H' → H'.length = H.length + 1 → H'[H.length]? = some o → k H') : fH (H ++ [o]) k :=
  fH_mk (q _ .push List.length_append get_push)
theorem fH_pt {H : Hp} {a : Nat} {o p : O} {k : Hp → Prop} (ha : H[a]? = some o) (ht : ∀ xs, o ≠ .tup xs) (q : ∀ H', Ext (· = a) H H' → (∀ (b : Nat) (o : O), ¬ b = a → H[b]? = some o → H'[b]? = some o) → H'[a]? = some p → k H') : fH (H.set a p) k :=
  fH_mk (q _ (.set ha ht (.inl rfl)) (fun b o hb h => by rw [List.getElem?_set_ne (Ne.symm hb)]; exact h) (List.getElem?_set_self (List.getElem?_eq_some_iff.mp ha).1))
/-- the law's three cells -/
structure Cells (H : Hp) (c0 : Nat) : Prop where
  a : H[c0]? = some (.inst 110 [(29, .i 5), (37, .i 1), (52, .none)])
  b : H[c0 + 1]? = some (.inst 110 [(29, .i 5), (37, .i 2), (52, .none)])
  c : H[c0 + 2]? = some (.inst 110 [(29, .i 6), (37, .i 3), (52, .none)])
theorem Cells.up {X : Nat → Prop} {H H' : Hp} {c0 : Nat} (C : Cells H c0) (e : Ext X H H') (h0 : ¬ X c0) (h1 : ¬ X (c0 + 1)) (h2 : ¬ X (c0 + 2)) : Cells H' c0 :=
  ⟨e.at C.a h0 (fun _ _ z => nomatch z), e.at C.b h1 (fun _ _ z => nomatch z), e.at C.c h2 (fun _ _ z => nomatch z)⟩
theorem Cells.ext {H H' : Hp} {c0 : Nat} (C : Cells H c0) (e : Ext no H H') : Cells H' c0 := C.up e id id id
section
variable {orc : Orc}
theorem isi_inst {H : Hp} {a C D : Nat} {es : List (Nat × V)} (h : H[a]? = some (.inst C es)) (hC : ((lookc C clss).isSome && hasc D icls) = true) : isi (.ref a) (.fn D) H = some (Nat.beq C D) := by
  show (H[a]?.bind O.inst?).bind (fun p => gO ((lookc p.1 clss).isSome && hasc D icls) (Nat.beq p.1 D)) = _
  rw [h]
  show gO _ _ = _
  rw [hC]; rfl
theorem lt_of_at {H : Hp} {a : Nat} {o : O} (h : H[a]? = some o) : a < H.length := (List.getElem?_eq_some_iff.mp h).1
theorem src_dct {H : Hp} {a : Nat} {st : Option Nat} {es : List (Nat × V)} {Ψ : List V → Option (Option Nat) → Hp → Prop} (h : H[a]? = some (.dict st es)) (hz : Nat.ble es.length 1000 = true) (q : ∀ H' s, Stm (· = a) H H' → H'[a]? = some (.dict (some s) es) → Ψ (keysV es) (some (some s)) H') : srcOf (.ref a) H Ψ := by
  refine src_mk h (grd_mk hz ?_)
  cases st with
  | some s => exact q H s .refl h
  | none =>
    have h1 := get_up (t := [O.stamp]) h
    refine fH_mk (q _ H.length ⟨Ext.push.trans (.set h1 (fun _ z => nomatch z) (.inr (.inr ⟨_, _, _, rfl, rfl⟩))), fun b o hb hh => ?_⟩ (List.getElem?_set_self (lt_of_at h1)))
    rw [List.getElem?_set_ne (Ne.symm hb)]; exact get_up hh
theorem still_dct {H : Hp} {a s : Nat} {es : List (Nat × V)} (h : H[a]? = some (.dict (some s) es)) : still (.ref a) (some (some s)) (keysV es) H = true := by
  show (match H[a]? with
    | some o => stillO (some s) (keysV es) o
    | none => false) = true
  rw [h]
  show (Nat.beq s s && eqbs (keysV es) (keysV es)) = true
  rw [Nat.beq_refl, eqbs_refl]; rfl
/-- what a call of copy_value gives -/
noncomputable def CopC (orc : Orc) (d : Nat) : Prop := ∀ {e : Nat} {S : Sh} {v : V} {n t c0 : Nat} {H : Hp} {F : Nat → Prop} {Φ : V → Hp → Prop}, Wf e d S → e ≤ 4 → 40 + 40 * d ≤ n → MV t c0 H S v F → Cells H c0 →
  (∀ v' H', MV t c0 H' S v' (H.length ≤ ·) → Stm F H H' → Φ v' H') → cal (run orc n) (.fn 196) [v] H Φ
theorem cop_loop {d j t c0 c lo : Nat} {F : Nat → Prop} {k : Nat → Sh} {KK : Nat → Nat → Prop} {vs : List V} {Ψ : List V → ME → Hp → Prop} (ih : CopC orc d) (hj : 40 + 40 * d ≤ j) (hw : ∀ i, i < vs.length → Wf 3 d (k i)) (hz : vs.length ≤ 1000) (hF : ∀ i x, KK i x → F x) : ∀ (ws pre ys : List V) (K : Nat → Nat → Prop) (H : Hp) (ml : List (Nat × V)), vs = pre ++ ws → pre.length = ys.length →
    One 30 ml → lo ≤ H.length → H[c]? = some (.list vs) → Cells H c0 → (∀ i x, vs[i]? = some x → MV t c0 H (k i) x (KK i)) → MVs t c0 H k lo ys K →
    (∀ ys' K' H' me, ys'.length = vs.length → MVs t c0 H' k lo ys' K' → Stm F H H' → Ψ ys' me H') →
    compL (run orc (j + 20)) ⟨ml, [], [133], [30]⟩ (.call (.nm 133) [.nm 30]) [30] [] (.ref c) (some none) vs ws ys H Ψ := by
  intro ws
  induction ws with
  | nil =>
    intro pre ys K H ml hv hl _ _ _ _ _ m q
    exact q ys K H _ (by rw [hv, List.append_nil]; exact hl.symm) m .refl
  | cons w ws ihw =>
    intro pre ys K H ml hv hl ho hlo hc hC hs m q
    have hlt : ys.length < vs.length := by rw [hv, List.length_append, ← hl]; exact Nat.lt_add_of_pos_right (Nat.succ_pos _)
    have hw1 : vs[ys.length]? = some w := by rw [hv, ← hl, List.getElem?_append_right (Nat.le_refl _), Nat.sub_self]; rfl
    refine bindX1 rfl rfl ho.put (grd_mk (Nat.ble_eq_true_of_le (Nat.le_of_lt (Nat.lt_of_lt_of_le hlt hz))) ?_)
    refine ih (hw _ hlt) (by decide) (up_ hj) (hs _ _ hw1) hC fun y H' my e => ?_
    have hc' := e.e.lst hc
    refine grd_mk (still_mk hc') ?_
    exact ihw (pre ++ [w]) (ys ++ [y]) _ H' _ (by rw [hv, List.append_assoc]; rfl) (by rw [List.length_append, List.length_append, hl]; rfl) (.inr ⟨w, rfl⟩) (Nat.le_trans hlo e.e.le) hc' (hC.ext e.e)
      (fun i x hi => (hs i x hi).up e.e (fun _ _ => id) fun _ h => h) (m.snoc hlo e.e my) fun ys' K' H2 me h1 h2 e2 => q ys' K' H2 me h1 h2 ((e.mono fun x h => hF _ x h).trans e2)
theorem cop_leaf (hO : NoO orc) {b : Bool} {i : Int} {v : V} {n t c0 : Nat} {H : Hp} {F : Nat → Prop} {Φ : V → Hp → Prop} (wf : 0 ≤ i ∧ i < lid b) (hn : 40 ≤ n) (hs : MV t c0 H (.leaf b i) v F) (hC : Cells H c0)
    (q : Φ v H) : cal (run orc n) (.fn 196) [v] H Φ := by
  obtain ⟨j, rfl⟩ := fuel hn
  refine C_go (hO _ _ _ _ (by decide) (by decide)) rfl (X_go rfl rfl ?_)
  cases b with
  | false =>
    cases hs
    refine B_go (B_go ?_)
    exact q
  | true =>
    cases hs
    have key : ∀ {a : Nat} {es : List (Nat × V)}, H[a]? = some (.inst 110 es) → Φ (.ref a) H → (run orc (j + 39)).S ⟨f196.ps.zip [.ref a], [], f196.gl, f196.ls⟩ f196.body H fun f _ H => grd f.nc (retF Φ f H) := fun h q => B_go (som_mk (isi_inst h rfl) (B_go (som_mk (isi_inst h rfl) q)))
    rcases lt4 wf.1 wf.2 with rfl | rfl | rfl | rfl
    · exact key hC.a q
    · exact key hC.b q
    · exact key hC.c q
    · exact B_go (B_go q)
theorem lk_zip {vs : List V} {i : Nat} {s : V} (h : vs.length ≤ 2) (g : vs[i]? = some s) : lookc (i + 6) ([6, 7].zip vs) = some s ∧ (∀ w, putc (i + 6) w ([6, 7].zip vs) = [6, 7].zip (vs.set i w)) ∧ i < 2 ∧ Nat.ble ([6, 7].zip vs).length 499 = true := by
  rcases vs with _ | ⟨x, _ | ⟨y, _ | ⟨z, vs⟩⟩⟩
  · cases g
  · match i, g with
    | 0, g => cases g; exact ⟨rfl, fun _ => rfl, by decide, rfl⟩
    | i + 1, g => cases g
  · match i, g with
    | 0, g => cases g; exact ⟨rfl, fun _ => rfl, by decide, rfl⟩
    | 1, g => cases g; exact ⟨rfl, fun _ => rfl, by decide, rfl⟩
    | i + 2, g => cases g
  · exact absurd (show 3 ≤ 2 from Nat.le_trans (Nat.le_add_left 3 _) h) (by decide)
/-- the names from the i-th on -/
noncomputable def kN (i : Nat) : Nat → List V
  | 0 => []
  | r + 1 => .str (i + 6) :: kN (i + 1) r
theorem keys_zip {vs : List V} (h : vs.length ≤ 2) : keysV ([6, 7].zip vs) = kN 0 vs.length := by
  rcases vs with _ | ⟨x, _ | ⟨y, _ | ⟨z, vs⟩⟩⟩
  · rfl
  · rfl
  · rfl
  · exact absurd (show 3 ≤ 2 from Nat.le_trans (Nat.le_add_left 3 _) h) (by decide)
theorem lenz {vs : List V} (h : vs.length ≤ 2) : ([6, 7].zip vs).length = vs.length := by
  rw [List.length_zip]; exact Nat.min_eq_right h
/-- the locals within the loop over a record's fields -/
noncomputable def Two3 (a d : V) (l : List (Nat × V)) : Prop := l = [(29, a), (23, d)] ∨ ∃ u, l = [(29, a), (23, d), (31, u)]
theorem Two3.put {a d v : V} {l : List (Nat × V)} (h : Two3 a d l) : putc 31 v l = [(29, a), (23, d), (31, v)] := by
  rcases h with rfl | ⟨u, rfl⟩ <;> rfl
theorem copr_loop {d j t c0 a dd D lo sn : Nat} {B : Hp} {F : Nat → Prop} {k : Nat → Sh} {KK : Nat → Nat → Prop} {vs : List V} {Ψ : Fl → ME → Hp → Prop} (ih : CopC orc d) (hj : 40 + 40 * d ≤ j) (hw : ∀ i, i < vs.length → Wf 3 d (k i)) (hz : vs.length ≤ 2) (hF : ∀ i x, KK i x → F x) (dK : ∀ i, ¬ KK i dd) (D1 : D < lo) (D2 : ∀ i x, KK i x → ¬ x = D) (hB : B.length ≤ D) (aD : ¬ a = D) (dD : ¬ dd = D) (cD : c0 + 2 < D) {all : List V} (hall : all = keysV ([6, 7].zip vs)) :
    ∀ (r : Nat) (ys : List V) (K : Nat → Nat → Prop) (H : Hp) (ml : List (Nat × V)), ys.length + r = vs.length → Two3 (.ref a) (.ref D) ml → Stm F B H → lo ≤ H.length → H[a]? = some (.inst 180 [(28, .ref t), (23, .ref dd)]) → H[dd]? = some (.dict (some sn) ([6, 7].zip vs)) → Cells H c0 → (∃ st, H[D]? = some (.dict st ([6, 7].zip ys))) → (∀ i x, vs[i]? = some x → MV t c0 H (k i) x (KK i)) → MVs t c0 H k lo ys K →
    (∀ ys' K' H' ml', ys'.length = vs.length → Two3 (.ref a) (.ref D) ml' → MVs t c0 H' k lo ys' K' → Stm F B H' → lo ≤ H'.length → H'[a]? = some (.inst 180 [(28, .ref t), (23, .ref dd)]) → (∃ st, H'[D]? = some (.dict st ([6, 7].zip ys'))) → Ψ .next ⟨ml', [], [123, 126, 119, 127, 133], [29, 23, 31]⟩ H') →
    forL (run orc (j + 20)) [31] [.asg (.sub (.nm 23) (.nm 31)) (.call (.nm 133) [.sub (.attr (.nm 29) 23) (.nm 31)])] (.ref dd) (some (some sn)) all (kN ys.length r) ⟨ml, [], [123, 126, 119, 127, 133], [29, 23, 31]⟩ H Ψ := by
  intro r
  induction r with
  | zero => intro ys K H ml hi ho hS hlo o h hC hd hk m q; exact q ys K H ml hi ho m hS hlo o hd
  | succ r ihr =>
    intro ys K H ml hi ho hS hlo o h hC hd hk m q
    have hlt : ys.length < vs.length := hi ▸ Nat.lt_add_of_pos_right (Nat.succ_pos _)
    have x1 := List.getElem?_eq_getElem hlt
    refine bindX1 rfl rfl ho.put ?_
    refine som_b (ob_mk o) rfl (som_b h (lk_zip hz x1).1 ?_)
    refine ih (hw _ hlt) (by decide) (up_ hj) (hk _ _ x1) hC fun v H1 mv e1 => ?_
    obtain ⟨st, hd⟩ := hd
    obtain ⟨st, hd⟩ := e1.e.dct hd id
    obtain ⟨z1, z2⟩ := putz (v := v) (Nat.lt_of_lt_of_le hlt hz)
    have h1 := e1.ex _ _ (dK _) h
    refine som_mk hd (grd_mk z2 (fH_pt hd (fun _ z => nomatch z) fun H2 e2 x2 hd2 => ?_))
    rw [z1] at hd2
    have h2 := x2 _ _ dD h1
    refine grd_mk (by rw [hall]; exact still_dct h2) ?_
    have e := (e1.e.mono (Y := (· = D)) fun _ h => h.elim).trans e2
    have key := ihr (ys ++ [v]) _ H2 [(29, .ref a), (23, .ref D), (31, .str (ys.length + 6))] (by rw [List.length_append]; exact (Nat.succ_add ys.length r).trans hi) (.inr ⟨_, rfl⟩) ((hS.trans (e1.mono (hF _))).drop e2 x2 fun x h => h ▸ hB) (Nat.le_trans hlo e.le) (e.at o aD fun _ _ z => nomatch z) h2 (hC.up e (Nat.ne_of_lt (Nat.lt_of_le_of_lt (Nat.le_add_right _ _) cD)) (Nat.ne_of_lt (Nat.lt_of_le_of_lt (Nat.le_succ _) cD)) (Nat.ne_of_lt cD)) ⟨_, hd2⟩ (fun i x hi => (hk i x hi).up e (D2 i) fun _ h => h) ((m.snoc hlo e1.e mv).up e2 fun x hx => Nat.ne_of_gt (Nat.lt_of_lt_of_le D1 hx)) q
    rw [List.length_append] at key
    exact key
theorem copy (hO : NoO orc) : ∀ d, CopC orc d := by
  intro d
  induction d with
  | zero =>
    intro e S v n t c0 H F Φ wf he hn hs hC q
    cases S with
    | leaf b i => exact cop_leaf hO wf hn hs hC (q _ _ hs .refl)
    | node _ _ _ _ => exact wf.elim
  | succ d ih =>
    intro e S v n t c0 H F Φ wf he hn hs hC q
    cases S with
    | leaf b i => exact cop_leaf hO wf (Nat.le_trans (Nat.le_add_right _ _) hn) hs hC (q _ _ hs .refl)
    | node b lo m k =>
      obtain ⟨m1, m2, wf⟩ := wf
      obtain ⟨j, rfl⟩ := fuel (Nat.le_trans (Nat.le_add_right _ _) hn)
      have hj : 40 + 40 * d ≤ j := Nat.le_of_add_le_add_right (b := 40) hn
      have h20 : 20 ≤ j := Nat.le_trans (Nat.le_add_right_of_le (by decide)) hj
      refine C_go (hO _ _ _ _ (by decide) (by decide)) rfl (X_go rfl rfl ?_)
      cases hs with
      | @arr _ KK a bb u c vs s o hk =>
        have hz : vs.length ≤ 1000 := Nat.le_trans m2 (Nat.le_trans he (by decide))
        refine B_go (som_mk (isi_inst s.o rfl) ?_)
        refine som_b (ob_mk s.o) rfl ?_
        refine B_go (som_b (ob_mk s.bs) rfl (fH_nw fun H1 n1 l1 hb => ?_))
        have s1 := s.up n1.e id id id
        refine som_b (ob_mk s1.o) rfl (src_mk s1.it (grd_mk (Nat.ble_eq_true_of_le hz) ?_))
        refine cop_loop ih (up_ hj) wf hz (fun i x h => (o.own i x h).1) vs [] [] _ H1 _ rfl rfl (.inl rfl) (Nat.le_refl _) s1.it (hC.ext n1.e) (fun i x hi => (hk i x hi).up n1.e (fun _ _ => id) fun _ h => h) .nil fun ys K H2 me hy mv e2 => ?_
        refine fH_nw fun H3 n3 l3 hi => mk_arr hO (up_ h20) ?_
        have e13 := e2.e.trans n3.e
        have n5 := Stm.push (Y := F) (H := H3) (t := [O.inst 159 [(26, .ref H.length), (27, .ref H2.length)]])
        have hu := n5.e.tup _ _ (e13.tup _ _ (n1.e.tup _ _ s.bt))
        have lb := lt_of_at hb
        have l23 : H2.length < H3.length := lt_of_at hi
        have lH2 := Nat.le_trans n1.e.le e2.e.le
        have lbH2 : H.length < H2.length := Nat.lt_of_lt_of_le lb e2.e.le
        refine q _ _ (hy ▸ .arr ⟨get_push, get_up (e13.lst hb), hy.symm ▸ hu, get_up hi⟩ ⟨Nat.le_trans lH2 n3.e.le, Nat.le_refl _, lH2, fun z => Nat.ne_of_gt lbH2 z, fun i x hK => let ⟨_, h2, h3⟩ := mv.own i x hK; ⟨Nat.le_trans n1.e.le h2, Nat.ne_of_lt (Nat.lt_trans h3 l23), Nat.ne_of_gt (Nat.lt_of_lt_of_le lb h2), Nat.ne_of_lt h3⟩, mv.dis⟩ fun i x hi => ((mv.mv i x hi).up (n3.e.trans n5.e) (fun _ _ => id) fun _ h => h)) ((((n1.mono fun _ h => h.elim).trans e2).trans (n3.mono fun _ h => h.elim)).trans n5)
      | @rcd _ KK a dd vs s o hk =>
        refine B_go (som_mk (isi_inst s.o rfl) (B_go (som_mk (isi_inst s.o rfl) ?_)))
        refine fH_nw fun H1 n1 l1 hd => ?_
        have s1 := s.up n1.e id id
        obtain ⟨o1, ⟨st, ds⟩, le⟩ := s1
        have lt : ∀ {b : Nat} {o : O}, H[b]? = some o → ¬ b = H.length := fun h => Nat.ne_of_lt (lt_of_at h)
        have aD := lt s.o
        have dD : ¬ dd = H.length := let ⟨_, h⟩ := s.ds; lt h
        have hk := fun i x hi => ((hk i x hi).bd.up n1.e (F' := fun z => KK i z ∧ z < H.length) (fun _ _ => id) fun _ h => h)
        have dK : ∀ i, ¬ (KK i dd ∧ dd < H.length) := fun i h => (o.own i dd h.1).2.2.2 rfl
        have l1 : H.length < H1.length := lt_of_at hd
        have hF : ∀ i x, KK i x ∧ x < H.length → F x := fun i x h => (o.own i x h.1).1
        have sD : ∀ x, x = H.length → H.length ≤ x := fun x h => Nat.le_of_eq h.symm
        have fin : ∀ {H' : Hp} {st : Option Nat} {ys : List V} {K : Nat → Nat → Prop}, Stm F H H' → H'[H.length]? = some (.dict st ([6, 7].zip ys)) → ys.length = vs.length → MVs t c0 H' k H1.length ys K → H1.length ≤ H'.length → Φ (.ref H'.length) (H' ++ [.inst 180 [(28, .ref t), (23, .ref H.length)]]) := fun {H' st ys K} e hd hy mv hle => by
          have E := Stm.push (Y := F) (H := H') (t := [O.inst 180 [(28, .ref t), (23, .ref H.length)]])
          exact q _ _ (hy ▸ .rcd ⟨get_push, ⟨st, get_up hd⟩, hy ▸ le⟩ ⟨e.e.le, e.e.le, Nat.le_refl _, fun z => Nat.ne_of_lt (Nat.lt_of_lt_of_le l1 hle) z, fun i x hK => let ⟨_, h2, h3⟩ := mv.own i x hK; ⟨Nat.le_trans n1.e.le h2, Nat.ne_of_lt h3, Nat.ne_of_lt h3, Nat.ne_of_gt (Nat.lt_of_lt_of_le l1 h2)⟩, mv.dis⟩ fun i x hi => (mv.mv i x hi).up E.e (fun _ _ => id) fun _ h => h) (e.trans E)
        have nD : ∀ x, H1.length ≤ x → ¬ x = H.length := fun x hx => Nat.ne_of_gt (Nat.lt_of_lt_of_le l1 hx)
        have hz : vs.length ≤ 2 := le
        refine som_b (ob_mk o1) rfl (src_dct ds (Nat.ble_eq_true_of_le (lenz hz ▸ Nat.le_trans hz (by decide))) fun H2 sn e2 ds2 => ?_)
        rw [keys_zip hz]
        refine copr_loop (B := H) (D := H.length) (lo := H1.length) ih (up_ hj) wf hz hF dK l1 (fun i x h => Nat.ne_of_lt h.2) (Nat.le_refl _) aD dD (lt_of_at hC.c) (keys_zip hz).symm vs.length [] _ H2 _ (Nat.zero_add _) (.inl rfl) ((n1.mono fun _ h => h.elim).trans (e2.mono fun x h => h ▸ o.fc)) e2.e.le (e2.e.at o1 id fun _ _ z => nomatch z) ds2 ((hC.ext n1.e).ext e2.e) (e2.e.dct hd id) (fun i x hi => (hk i x hi).up e2.e (fun _ _ => id) fun _ h => h) .nil fun ys K H4 ml hy ho mv hS hlo o4 hd4 => ?_
        obtain ⟨st4, hd4⟩ := hd4
        have Fi := fin hS hd4 hy mv hlo
        rcases ho with rfl | ⟨u, rfl⟩
        · exact som_b (ob_mk o4) rfl (mk_rec hO (up_ h20) Fi)
        · exact som_b (ob_mk o4) rfl (mk_rec hO (up_ h20) Fi)
end
end N
end Mine
end
section
open PySem
set_option Elab.async false
set_option maxRecDepth 100000
namespace Mine
namespace N
/-- of like form: the same but for leaves and bounds -/
noncomputable def Cp : Sh → Sh → Prop
  | .leaf b _, t => (match t with
    | .leaf c _ => b = c
    | .node _ _ _ _ => False)
  | .node b _ n k, t => (match t with
    | .leaf _ _ => False
    | .node c _ m l => b = c ∧ (b = false → n = m) ∧ ∀ i, i < n → i < m → Cp (k i) (l i))
/-- the records' type -/
structure Ty (H : Hp) (t : Nat) : Prop where
  at_ : ∃ es, H[t]? = some (.inst 435 es) ∧ lookc 38 es = some (.bool false)
theorem Ty.ext {H H' : Hp} {t : Nat} (T : Ty H t) {X : Nat → Prop} (e : Ext X H H') (hx : ¬ X t) : Ty H' t := let ⟨es, h, h'⟩ := T.at_; ⟨es, e.at h hx (fun _ _ z => nomatch z), h'⟩
section
variable {orc : Orc}
theorem nset (hO : NoO orc) {n : Nat} {H : Hp} {Φ : V → Hp → Prop} {i : Int} (hn : 20 ≤ n) (q : Φ (.i i) H) : cal (run orc n) (.fn 191) [.i i] H Φ := by
  obtain ⟨j, rfl⟩ := fuel hn
  refine C_go (hO _ _ _ _ (by decide) (by decide)) rfl (X_go rfl rfl ?_)
  exact B_go q
/-- the lengths of an array of one dimension -/
theorem lens (hO : NoO orc) {n : Nat} {H : Hp} {Φ : V → Hp → Prop} {lo : Int} {a b u c : Nat} {vs : List V} (hn : 40 ≤ n) (s : AV H lo a b u c vs) (h1 : 1 ≤ vs.length)
    (q : ∀ H', Stm no H H' → H'[H.length]? = some (.list [.i vs.length]) → Φ (.ref H.length) H') : cal (run orc n) (.fn 208) [.ref a] H Φ := by
  obtain ⟨j, rfl⟩ := fuel hn
  refine C_go (hO _ _ _ _ (by decide) (by decide)) rfl (X_go rfl rfl ?_)
  refine som_b (ob_mk s.o) rfl (src_mk s.bs (grd_mk rfl (grd_mk rfl ?_)))
  refine som_b (ob_mk s.bt) rfl ?_
  refine B_go (grd_mk (still_mk s.bs) ?_)
  refine fH_nw fun H1 n1 l1 hi => q H1 n1 (hi.trans ?_)
  have : (if lo + (vs.length : Int) - 1 - lo + 1 < 0 then 0 else lo + (vs.length : Int) - 1 - lo + 1) = vs.length := by
    rw [if_neg (by omega)]; omega
  exact congrArg (fun z => some (O.list [V.i z])) this
theorem veq_nil {H : Hp} {a b : Nat} {vs : List V} (hx : H[a]? = some (.list vs)) (hy : H[b]? = some (.list [])) (h : 1 ≤ vs.length) : veq H (.ref a) (.ref b) = some false :=
  bind_mk (ob_mk hx) (bind_mk (ob_mk hy) (by cases vs with
    | nil => exact absurd h (by decide)
    | cons _ _ => rfl))
theorem veq_one {H : Hp} {a b : Nat} {i j : Int} (hx : H[a]? = some (.list [.i i])) (hy : H[b]? = some (.list [.i j])) : veq H (.ref a) (.ref b) = some (decide (i = j)) :=
  bind_mk (ob_mk hx) (bind_mk (ob_mk hy) (by
    show (some (decide (i = j))).bind (fun b => ifs b (some true) (some false)) = _
    cases decide (i = j) <;> rfl))
/-- what a call of equal_values gives -/
noncomputable def EqC (orc : Orc) (d : Nat) : Prop := ∀ {e e' : Nat} {S T : Sh} {v w : V} {n t c0 : Nat} {H : Hp} {F F' : Nat → Prop} {Φ : V → Hp → Prop}, Wf e d S → Wf e' d T → e ≤ 4 → e' ≤ 4 → Cp S T → 40 + 45 * d ≤ n → MV t c0 H S v F → MV t c0 H T w F' → Cells H c0 → Ty H t →
  (∀ H', Stm F H H' → Φ (.bool (eqv S T)) H') → cal (run orc n) (.fn 229) [v, w] H Φ
theorem allN_t {f : Nat → Bool} {i r : Nat} (h : f i = true) : allN f i (r + 1) = allN f (i + 1) r := by
  show (f i && _) = _
  rw [h]; rfl
theorem allN_f {f : Nat → Bool} {i r : Nat} (h : f i = false) : allN f i (r + 1) = false := by
  show (f i && _) = _
  rw [h]; rfl
/-- the place of a name behind two others -/
noncomputable def One3 (x : Nat) (y z : V) (l : List (Nat × V)) : Prop := l = [(32, y), (33, z)] ∨ ∃ u, l = [(32, y), (33, z), (x, u)]
theorem One3.put {y z : V} {l : List (Nat × V)} {v : V} (h : One3 34 y z l) : putc 34 v l = [(32, y), (33, z), (34, v)] := by
  rcases h with rfl | ⟨u, rfl⟩ <;> rfl
theorem eq_loop {d j t c0 a a' b b' u u' c c' : Nat} {lo lo' : Int} {F : Nat → Prop} {k l : Nat → Sh} {KK KK' : Nat → Nat → Prop} {vs ws : List V} {Ψ : Fl → ME → Hp → Prop} (ih : EqC orc d) (hj : 40 + 45 * d ≤ j) (hw : ∀ i, i < vs.length → Wf 3 d (k i)) (hw' : ∀ i, i < vs.length → Wf 3 d (l i)) (hcp : ∀ i, i < vs.length → Cp (k i) (l i)) (hz : vs.length ≤ 1000) (hl : vs.length = ws.length) (hF : ∀ i x, KK i x → F x) (src : V) (all : List V) :
    ∀ (r i : Nat) (H : Hp) (ml : List (Nat × V)), i + r = vs.length → One3 34 (.ref a) (.ref a') ml → AV H lo a b u c vs → AV H lo' a' b' u' c' ws → Cells H c0 → Ty H t → (∀ i x, vs[i]? = some x → MV t c0 H (k i) x (KK i)) → (∀ i x, ws[i]? = some x → MV t c0 H (l i) x (KK' i)) →
    (∀ H' me, Stm F H H' → allN (fun i => eqv (k i) (l i)) i r = true → Ψ .next me H') → (∀ H' me, Stm F H H' → allN (fun i => eqv (k i) (l i)) i r = false → Ψ (.ret (.bool false)) me H') →
    forL (run orc (j + 20)) [34] [.ifs (.not (.call (.nm 137) [.sub (.attr (.nm 32) 27) (.nm 34), .sub (.attr (.nm 33) 27) (.nm 34)])) [.ret (.bool false)] []] src none all (intsF 0 i r) ⟨ml, [], [134, 118, 117, 137], [32, 33, 34]⟩ H Ψ := by
  intro r
  induction r with
  | zero => intro i H ml _ _ _ _ _ _ _ _ q1 _; exact q1 H _ .refl rfl
  | succ r ihr =>
    intro i H ml hi ho s s' hC hT hk hk' q1 q2
    have hlt : i < vs.length := hi ▸ Nat.lt_add_of_pos_right (Nat.succ_pos _)
    have hlt' : i < ws.length := hl ▸ hlt
    have h1000 := Nat.lt_of_lt_of_le hlt hz
    have x1 := List.getElem?_eq_getElem hlt
    have x2 := List.getElem?_eq_getElem hlt'
    refine bindX1 rfl rfl ho.put ?_
    refine som_b (ob_mk s.o) rfl (som_b s.it (at_mk x1 h1000) ?_)
    refine som_b (ob_mk s'.o) rfl (som_b s'.it (at_mk x2 h1000) ?_)
    refine ih (hw i hlt) (hw' i hlt) (by decide) (by decide) (hcp i hlt) (up_ hj) (hk _ _ x1) (hk' _ _ x2) hC hT fun H1 e1 => ?_
    have e1 := e1.mono (hF i)
    cases he : eqv (k i) (l i) with
    | false =>
      exact q2 _ _ e1 (allN_f he)
    | true =>
      have nt : ¬ no t := id
      exact ihr (i + 1) H1 _ ((Nat.succ_add i r).trans hi) (.inr ⟨_, rfl⟩) (s.up e1.e id id id) (s'.up e1.e id id id) (hC.ext e1.e) (hT.ext e1.e id) (fun i x q => (hk i x q).up e1.e (fun _ _ => id) fun _ h => h) (fun i x q => (hk' i x q).up e1.e (fun _ _ => id) fun _ h => h)
        (fun H' me e h => q1 H' me (e1.trans e) ((allN_t he).trans h)) fun H' me e h => q2 H' me (e1.trans e) ((allN_t he).trans h)
theorem eqv_node {b b' : Bool} {lo lo' : Int} {n m : Nat} {k l : Nat → Sh} {r : Bool} (h : n = m) (hr : allN (fun i => eqv (k i) (l i)) 0 n = r) : eqv (.node b lo n k) (.node b' lo' m l) = r := by
  subst h
  show (Nat.beq n n && allN _ 0 n) = r
  rw [Nat.beq_refl, hr]; rfl
theorem eq_arr {d n t c0 a a' b b' u u' c c' : Nat} {lo lo' : Int} {H : Hp} {F : Nat → Prop} {k l : Nat → Sh} {KK KK' : Nat → Nat → Prop} {vs ws : List V} {Φ : V → Hp → Prop} (hO : NoO orc) (ih : EqC orc d) (hn : 70 + 45 * d ≤ n) (h1 : 1 ≤ vs.length) (h1' : 1 ≤ ws.length) (hw : ∀ i, i < vs.length → Wf 3 d (k i)) (hw' : ∀ i, i < ws.length → Wf 3 d (l i)) (hcp : ∀ i, i < vs.length → i < ws.length → Cp (k i) (l i))
    (hz : vs.length ≤ 1000) (hF : ∀ i x, KK i x → F x) (s : AV H lo a b u c vs) (s' : AV H lo' a' b' u' c' ws) (hC : Cells H c0) (hT : Ty H t) (hk : ∀ i x, vs[i]? = some x → MV t c0 H (k i) x (KK i)) (hk' : ∀ i x, ws[i]? = some x → MV t c0 H (l i) x (KK' i))
    (q : ∀ H', Stm F H H' → Φ (.bool (eqv (.node true lo vs.length k) (.node true lo' ws.length l))) H') : cal (run orc n) (.fn 215) [.ref a, .ref a'] H Φ := by
  obtain ⟨j, rfl⟩ := fuel (Nat.le_trans (show 30 ≤ 70 + 45 * d from Nat.le_add_right_of_le (by decide)) hn)
  have hj : 40 + 45 * d ≤ j := Nat.le_of_add_le_add_right (b := 30) (Nat.le_trans (Nat.le_of_eq (by omega)) hn)
  have h40 : 40 ≤ j := Nat.le_trans (Nat.le_add_right _ _) hj
  refine C_go (hO _ _ _ _ (by decide) (by decide)) rfl (X_go rfl rfl ?_)
  refine som_b (ob_mk s.o) rfl ?_
  refine fH_nw fun H1 n1 l1 hb => ?_
  refine som_mk (veq_nil (n1.e.lst s.it) hb h1) ?_
  have s1 := s.up n1.e id id id
  refine lens hO (up_ h40) s1 h1 fun H2 n2 i2 => ?_
  have n12 := n1.trans n2
  refine lens hO (up_ h40) (s'.up n12.e id id id) h1' fun H3 n3 i3 => ?_
  have n13 := n12.trans n3
  refine som_mk (a := !decide ((vs.length : Int) = ws.length)) ?_ ?_
  · show (veq H3 (.ref H1.length) (.ref H2.length)).map (!·) = _
    rw [veq_one (n3.e.lst i2) i3]; rfl
  have z : ∀ {H' : Hp}, Stm no H H' → Stm F H H' := fun h => h.mono fun _ h => h.elim
  cases hd : decide ((vs.length : Int) = ws.length) with
  | false =>
    have hne : ¬ vs.length = ws.length := fun h => of_decide_eq_false hd (by rw [h])
    have : eqv (.node true lo vs.length k) (.node true lo' ws.length l) = false := by
      show (Nat.beq vs.length ws.length && _) = false
      rw [Bool.eq_false_iff.mpr fun h => hne (Nat.eq_of_beq_eq_true h)]; rfl
    rw [this] at q
    exact q H3 (z n13)
  | true =>
    have he : vs.length = ws.length := Int.ofNat.inj (of_decide_eq_true hd)
    have s3 := s.up n13.e id id id
    refine som_b (ob_mk s3.o) rfl ?_
    refine B_go (som_mk (len_mk s3.it hz) ?_)
    refine B_go (grd_mk (and_mk rfl (small_nat hz)) ?_)
    refine fH_nw fun H4 n4 l4 hr => src_mk hr (grd_mk (and_mk (and_mk rfl (small_nat hz)) (le_nat hz)) ?_)
    have n14 := n13.trans n4
    refine eq_loop ih (up_ hj) hw (fun i h => hw' i (he ▸ h)) (fun i h => hcp i h (he ▸ h)) hz he hF _ _ vs.length 0 H4 _ (Nat.zero_add _) (.inl rfl) (s.up n14.e id id id) (s'.up n14.e id id id) (hC.ext n14.e) (hT.ext n14.e id) (fun i x q => (hk i x q).up n14.e (fun _ _ => id) fun _ h => h) (fun i x q => (hk' i x q).up n14.e (fun _ _ => id) fun _ h => h) (fun H' me e h => ?_) fun H' me e h => ?_
    · have := q H' ((z n14).trans e)
      rw [eqv_node he h] at this
      exact this
    · have := q H' ((z n14).trans e)
      rw [eqv_node he h] at this
      exact this
theorem notin_mk {H : Hp} {a c : Nat} {st : Option Nat} {es : List (Nat × V)} {v : V} (h : H[a]? = some (.dict st es)) (hl : lookc c es = some v) : (vin H (.str c) (.ref a)).map (!·) = some false := by
  have : vin H (.str c) (.ref a) = some true := bind_mk (ob_mk h) (by
    show (some (lookc c es).isSome) = _
    rw [hl]; rfl)
  rw [this]; rfl
theorem One3.put1 {y z : V} {l : List (Nat × V)} {v : V} (h : l = [(32, y), (33, z)] ∨ ∃ u, l = [(32, y), (33, z), (31, u)]) : putc 31 v l = [(32, y), (33, z), (31, v)] := by
  rcases h with rfl | ⟨u, rfl⟩ <;> rfl
theorem eqr_loop {d j t c0 a a' dd dd' sn : Nat} {F : Nat → Prop} {k l : Nat → Sh} {KK KK' : Nat → Nat → Prop} {vs ws : List V} {Ψ : Fl → ME → Hp → Prop} (ih : EqC orc d) (hj : 40 + 45 * d ≤ j) (hw : ∀ i, i < vs.length → Wf 3 d (k i)) (hw' : ∀ i, i < vs.length → Wf 3 d (l i)) (hcp : ∀ i, i < vs.length → Cp (k i) (l i)) (hz : vs.length ≤ 2) (hl : vs.length = ws.length) (hF : ∀ i x, KK i x → F x) (dK : ∀ i, ¬ KK i dd) {all : List V} (hall : all = keysV ([6, 7].zip vs)) :
    ∀ (r i : Nat) (H : Hp) (ml : List (Nat × V)), i + r = vs.length → (ml = [(32, .ref a), (33, .ref a')] ∨ ∃ u, ml = [(32, .ref a), (33, .ref a'), (31, u)]) → H[a]? = some (.inst 180 [(28, .ref t), (23, .ref dd)]) → H[a']? = some (.inst 180 [(28, .ref t), (23, .ref dd')]) → H[dd]? = some (.dict (some sn) ([6, 7].zip vs)) → (∃ st, H[dd']? = some (.dict st ([6, 7].zip ws))) → Cells H c0 → Ty H t → (∀ i x, vs[i]? = some x → MV t c0 H (k i) x (KK i)) → (∀ i x, ws[i]? = some x → MV t c0 H (l i) x (KK' i)) →
    (∀ H' me r', Stm F H H' → allN (fun i => eqv (k i) (l i)) i r = r' → Ψ (match r' with | true => .next | false => .ret (.bool false)) me H') →
    forL (run orc (j + 20)) [31] [.ifs (.boo false [.cmp (.nm 31) (.NotIn) (.attr (.nm 33) 23), .not (.call (.nm 137) [.sub (.attr (.nm 32) 23) (.nm 31), .sub (.attr (.nm 33) 23) (.nm 31)])]) [.ret (.bool false)] []] (.ref dd) (some (some sn)) all (kN i r) ⟨ml, [], [117, 137], [32, 33, 31]⟩ H Ψ := by
  intro r
  induction r with
  | zero => intro i H ml _ _ _ _ _ _ _ _ _ _ q; exact q H _ true .refl rfl
  | succ r ihr =>
    intro i H ml hi ho o o' h h' hC hT hk hk' q
    have hlt : i < vs.length := hi ▸ Nat.lt_add_of_pos_right (Nat.succ_pos _)
    have x1 := List.getElem?_eq_getElem hlt
    have x2 := List.getElem?_eq_getElem (hl ▸ hlt)
    have g1 := (lk_zip hz x1).1
    have g2 := (lk_zip (hl ▸ hz) x2).1
    obtain ⟨st, h'⟩ := h'
    refine bindX1 rfl rfl (One3.put1 ho) ?_
    refine som_b (ob_mk o') rfl (som_mk (notin_mk h' g2) ?_)
    refine som_b (ob_mk o) rfl (som_b h g1 ?_)
    refine som_b (ob_mk o') rfl (som_b h' g2 ?_)
    refine ih (hw i hlt) (hw' i hlt) (by decide) (by decide) (hcp i hlt) (up_ hj) (hk _ _ x1) (hk' _ _ x2) hC hT fun H1 e1 => ?_
    have h1 := e1.ex _ _ (dK i) h
    have e1 := e1.mono (hF i)
    cases he : eqv (k i) (l i) with
    | false => exact q _ _ false e1 (allN_f he)
    | true =>
      refine grd_mk ?_ (ihr (i + 1) H1 _ ((Nat.succ_add i r).trans hi) (.inr ⟨_, rfl⟩) (e1.e.at o id fun _ _ z => nomatch z) (e1.e.at o' id fun _ _ z => nomatch z) h1 (e1.e.dct h' id) (hC.ext e1.e) (hT.ext e1.e id) (fun i x q => (hk i x q).up e1.e (fun _ _ => id) fun _ h => h) (fun i x q => (hk' i x q).up e1.e (fun _ _ => id) fun _ h => h) fun H' me r' e h => q H' me r' (e1.trans e) ((allN_t he).trans h))
      rw [hall]; exact still_dct h1
theorem eq_rcd {d n t c0 a a' dd dd' : Nat} {lo lo' : Int} {H : Hp} {F : Nat → Prop} {k l : Nat → Sh} {KK KK' : Nat → Nat → Prop} {vs ws : List V} {Φ : V → Hp → Prop} (hO : NoO orc) (ih : EqC orc d) (hn : 70 + 45 * d ≤ n) (h1 : 1 ≤ vs.length) (hw : ∀ i, i < vs.length → Wf 3 d (k i)) (hw' : ∀ i, i < ws.length → Wf 3 d (l i)) (he : vs.length = ws.length) (hcp : ∀ i, i < vs.length → i < ws.length → Cp (k i) (l i))
    (o : Own F KK a a dd) (s : RcV H t a dd vs) (s' : RcV H t a' dd' ws) (hC : Cells H c0) (hT : Ty H t) (hk : ∀ i x, vs[i]? = some x → MV t c0 H (k i) x (KK i)) (hk' : ∀ i x, ws[i]? = some x → MV t c0 H (l i) x (KK' i))
    (q : ∀ H', Stm F H H' → Φ (.bool (eqv (.node false lo vs.length k) (.node false lo' ws.length l))) H') : cal (run orc n) (.fn 222) [.ref a, .ref a'] H Φ := by
  obtain ⟨j, rfl⟩ := fuel (Nat.le_trans (show 30 ≤ 70 + 45 * d from Nat.le_add_right_of_le (by decide)) hn)
  have hj : 40 + 45 * d ≤ j := Nat.le_of_add_le_add_right (b := 30) (Nat.le_trans (Nat.le_of_eq (by omega)) hn)
  refine C_go (hO _ _ _ _ (by decide) (by decide)) rfl (X_go rfl rfl ?_)
  obtain ⟨es, ht, htag⟩ := hT.at_
  obtain ⟨st, ds⟩ := s.ds
  obtain ⟨st', ds'⟩ := s'.ds
  refine som_b (ob_mk s.o) rfl ?_
  refine som_mk (a := .bool false) (bind_mk (ob_mk ht) ?_) ?_
  · show (lookc 38 es).bind _ = _
    rw [htag]; rfl
  have hz : vs.length ≤ 2 := s.le
  have ln : ∀ {xs : List V}, xs.length ≤ 2 → Nat.ble ([6, 7].zip xs).length 1000 = true := fun h => Nat.ble_eq_true_of_le (lenz h ▸ Nat.le_trans h (by decide))
  have L : ∀ {H : Hp} {x : Nat} {st : Option Nat} {xs : List V}, xs.length ≤ 2 → H[x]? = some (.dict st ([6, 7].zip xs)) → (obOf H (.ref x)).bind lenO = some xs.length := fun {H x st xs} h hd => bind_mk (ob_mk hd) (by
    show gO _ _ = _
    rw [ln h, lenz h]; rfl)
  refine som_b (ob_mk s.o) rfl (B_go (som_mk (L hz ds) ?_))
  refine som_b (ob_mk s'.o) rfl (B_go (som_mk (L s'.le ds') ?_))
  refine som_mk (a := false) (congrArg some (show (!decide ((vs.length : Int) = ws.length)) = false by rw [he, decide_eq_true rfl]; rfl)) ?_
  refine som_b (ob_mk s.o) rfl (src_dct ds (ln hz) fun H2 sn e2 d2 => ?_)
  rw [keys_zip hz]
  have n := e2.mono (Z := F) fun x h => h ▸ o.fc
  refine eqr_loop ih (up_ hj) hw (fun i h => hw' i (he ▸ h)) (fun i h => hcp i h (he ▸ h)) hz he (fun i x h => (o.own i x h).1) (fun i h => (o.own i dd h).2.2.2 rfl) (keys_zip hz).symm vs.length 0 H2 _ (Nat.zero_add _) (.inl rfl) (e2.e.at s.o id fun _ _ z => nomatch z) (e2.e.at s'.o id fun _ _ z => nomatch z) d2 (e2.e.dct ds' id) (hC.ext e2.e) (hT.ext e2.e id) (fun i x q => (hk i x q).up e2.e (fun _ _ => id) fun _ h => h) (fun i x q => (hk' i x q).up e2.e (fun _ _ => id) fun _ h => h) fun H' me r' e h => ?_
  have := q H' (n.trans e)
  rw [eqv_node he h] at this
  cases r' <;> exact this
end
end N
end Mine
end
section
open PySem
set_option Elab.async false
set_option maxRecDepth 100000
set_option maxHeartbeats 1000000
namespace Mine
namespace N
section
variable {orc : Orc}
theorem Cells.num {H : Hp} {c0 : Nat} (C : Cells H c0) {i : Int} (h0 : 0 ≤ i) (h3 : i < 3) : cellv c0 i = .ref (c0 + i.toNat) ∧ ∃ x, H[c0 + i.toNat]? = some (.inst 110 [(29, .i x), (37, .i (i + 1)), (52, .none)]) := by
  rcases lt3 h0 h3 with rfl | rfl | rfl
  · exact ⟨rfl, 5, C.a⟩
  · exact ⟨rfl, 5, C.b⟩
  · exact ⟨rfl, 6, C.c⟩
theorem three {i : Int} (h : i < 4) : i = 3 ∨ i < 3 := by omega
theorem eq_leaf (hO : NoO orc) {b : Bool} {i i' : Int} {v w : V} {n t c0 : Nat} {H : Hp} {F F' : Nat → Prop} {Φ : V → Hp → Prop} (wf : 0 ≤ i ∧ i < lid b) (wf' : 0 ≤ i' ∧ i' < lid b) (hn : 40 ≤ n) (hs : MV t c0 H (.leaf b i) v F) (hs' : MV t c0 H (.leaf b i') w F') (hC : Cells H c0)
    (q : Φ (.bool (decide (i = i'))) H) : cal (run orc n) (.fn 229) [v, w] H Φ := by
  obtain ⟨j, rfl⟩ := fuel hn
  have h20 : 20 ≤ j + 20 := Nat.le_add_left _ _
  refine C_go (hO _ _ _ _ (by decide) (by decide)) rfl (X_go rfl rfl ?_)
  cases b with
  | false =>
    cases hs
    cases hs'
    refine B_go (B_go (B_go ?_))
    exact nset hO (Nat.le_add_left_of_le (by decide)) (nset hO (Nat.le_add_left_of_le (by decide)) q)
  | true =>
    cases hs
    cases hs'
    rcases three wf.2 with rfl | h3
    · refine B_go (B_go ?_)
      rcases three wf'.2 with rfl | h3'
      · exact q
      · obtain ⟨e, -⟩ := hC.num wf'.1 h3'
        rw [e]
        rw [decide_eq_false (fun z => by omega)] at q
        exact q
    · obtain ⟨e, x, h⟩ := hC.num wf.1 h3
      rw [e]
      refine B_go (som_mk (isi_inst h rfl) (B_go (som_mk (isi_inst h rfl) ?_)))
      rcases three wf'.2 with rfl | h3'
      · rw [decide_eq_false (fun z => by omega)] at q
        exact q
      · obtain ⟨e', x', h'⟩ := hC.num wf'.1 h3'
        rw [e']
        refine B_go (som_mk (isi_inst h rfl) ?_)
        refine som_b (ob_mk h) rfl (som_b (ob_mk h') rfl ?_)
        have : decide (i + 1 = i' + 1) = decide (i = i') := by
          by_cases z : i = i'
          · rw [z, decide_eq_true rfl, decide_eq_true rfl]
          · rw [decide_eq_false z, decide_eq_false fun y => z (by omega)]
        rw [← this] at q
        exact q
theorem equal (hO : NoO orc) : ∀ d, EqC orc d := by
  intro d
  induction d with
  | zero =>
    intro e e' S T v w n t c0 H F F' Φ wf wf' he he' hcp hn hs hs' hC hT q
    cases S with
    | node _ _ _ _ => exact wf.elim
    | leaf b i =>
      cases T with
      | node _ _ _ _ => exact wf'.elim
      | leaf b' i' =>
        cases (show b = b' from hcp)
        exact eq_leaf hO wf wf' hn hs hs' hC (q H .refl)
  | succ d ih =>
    intro e e' S T v w n t c0 H F F' Φ wf wf' he he' hcp hn hs hs' hC hT q
    cases S with
    | leaf b i =>
      cases T with
      | node _ _ _ _ => exact hcp.elim
      | leaf b' i' =>
        cases (show b = b' from hcp)
        exact eq_leaf hO wf wf' (Nat.le_trans (Nat.le_add_right _ _) hn) hs hs' hC (q H .refl)
    | node b lo m k =>
      cases T with
      | leaf _ _ => exact hcp.elim
      | node b' lo' m' k' =>
        obtain ⟨hb, hm, hcp⟩ := hcp
        cases hb
        obtain ⟨m1, m2, wf⟩ := wf
        obtain ⟨m1', m2', wf'⟩ := wf'
        obtain ⟨j, rfl⟩ := fuel (Nat.le_trans (show 15 ≤ 40 + 45 * (d + 1) from Nat.le_add_right_of_le (by decide)) hn)
        have hj : 70 + 45 * d ≤ j := Nat.le_of_add_le_add_right (b := 15) (Nat.le_trans (Nat.le_of_eq (by omega)) hn)
        refine C_go (hO _ _ _ _ (by decide) (by decide)) rfl (X_go rfl rfl ?_)
        cases hs with
        | arr s o hk =>
          cases hs' with
          | arr s' o' hk' =>
            refine B_go (som_mk (isi_inst s.o rfl) ?_)
            exact eq_arr hO ih (up_ hj) m1 m1' wf wf' hcp (Nat.le_trans m2 (Nat.le_trans he (by decide))) (fun i x h => (o.own i x h).1) s s' hC hT hk hk' q
        | rcd s o hk =>
          cases hs' with
          | rcd s' o' hk' =>
            refine B_go (som_mk (isi_inst s.o rfl) (B_go (som_mk (isi_inst s.o rfl) ?_)))
            exact eq_rcd hO ih (up_ hj) m1 wf wf' (hm rfl) hcp o s s' hC hT hk hk' q
end
end N
end Mine
end
section
open PySem
set_option Elab.async false
set_option maxRecDepth 100000
namespace Mine
namespace N
section
variable {orc : Orc}
/-- what a call of _law_same gives -/
noncomputable def SamC (orc : Orc) (d : Nat) : Prop := ∀ {e e' : Nat} {S T : Sh} {v w : V} {n : Nat} {H : Hp} {G G' : Nat → Prop} {Φ : V → Hp → Prop}, Wf e d S → Wf e' d T → e ≤ 4 → e' ≤ 4 → Cp S T → 40 + 40 * d ≤ n → SH H G S v → SH H G' T w →
  (∀ H', Stm no H H' → Φ (.bool (eqv S T)) H') → cal (run orc n) (.fn 468) [v, w] H Φ
theorem sam_leaf (hO : NoO orc) {b : Bool} {i i' : Int} {v w : V} {n : Nat} {H : Hp} {G G' : Nat → Prop} {Φ : V → Hp → Prop} (hn : 40 ≤ n) (hs : SH H G (.leaf b i) v) (hs' : SH H G' (.leaf b i') w)
    (q : ∀ H', Stm no H H' → Φ (.bool (decide (i = i'))) H') : cal (run orc n) (.fn 468) [v, w] H Φ := by
  obtain ⟨j, rfl⟩ := fuel hn
  refine C_go (hO _ _ _ _ (by decide) (by decide)) rfl (grd_mk rfl (fH_mk ?_))
  have q := q _ (.push (t := [.cell none, .cell none]))
  cases b with
  | false =>
    cases hs
    cases hs'
    exact B_go q
  | true =>
    obtain ⟨a, rfl, h⟩ := hs
    obtain ⟨a', rfl, h'⟩ := hs'
    have h := get_up (t := [.cell none, .cell none]) h
    have h' := get_up (t := [.cell none, .cell none]) h'
    refine B_go (som_mk (isi_tup h) (B_go (som_mk (isi_tup h') ?_)))
    refine som_b h rfl (som_b h' rfl ?_)
    refine som_b h rfl ?_
    exact som_b h rfl (som_b h' rfl q)
theorem fH_aps {H t : Hp} {k : Hp → Prop} (q : ∀ H', Stm no H H' → H'.length = H.length + t.length → (∀ (i : Nat) (o : O), t[i]? = some o → H'[H.length + i]? = some o) → k H') : fH (H ++ t) k :=
  fH_mk (q _ .push List.length_append fun i o h => get_off h)
theorem nb_ne {a b : Nat} (h : ¬ a = b) : Nat.beq a b = false := Bool.eq_false_iff.mpr fun z => h (Nat.eq_of_beq_eq_true z)
theorem same_loop {d j c c' L : Nat} {G G' : Nat → Prop} {k l : Nat → Sh} {vs ws : List V} {Ψ : List V → ME → Hp → Prop} (ih : SamC orc d) (hj : 40 + 40 * d ≤ j) (hw : ∀ i, i < vs.length → Wf 3 d (k i)) (hw' : ∀ i, i < vs.length → Wf 3 d (l i)) (hcp : ∀ i, i < vs.length → Cp (k i) (l i)) (hz : vs.length ≤ 1000) (hl : vs.length = ws.length) (src : V) (all : List V) :
    ∀ (r i : Nat) (H : Hp) (ml : List (Nat × V)) (ys : List V), i + r = vs.length → One 24 ml → ys.length ≤ i → H[L + 1]? = some (.cell (some (.ref c))) → H[L]? = some (.cell (some (.ref c'))) → H[c]? = some (.list vs) → H[c']? = some (.list ws) → (∀ i x, vs[i]? = some x → SH H G (k i) x) → (∀ i x, ws[i]? = some x → SH H G' (l i) x) →
    (∀ ys' H' me, Stm no H H' → ys'.isEmpty = (ys.isEmpty && allN (fun i => eqv (k i) (l i)) i r) → Ψ ys' me H') →
    compL (run orc (j + 20)) ⟨ml, [(41, L), (40, L + 1)], [159], [24]⟩ (.int 1) [24] [.not (.call (.nm 159) [.sub (.nm 40) (.nm 24), .sub (.nm 41) (.nm 24)])] src none all (intsF 0 i r) ys H Ψ := by
  intro r
  induction r with
  | zero =>
    intro i H ml ys _ _ _ _ _ _ _ _ _ q
    exact q ys H _ .refl (Bool.and_true _).symm
  | succ r ihr =>
    intro i H ml ys hi ho hy c40 c41 hc hc' hk hk' q
    have hlt : i < vs.length := hi ▸ Nat.lt_add_of_pos_right (Nat.succ_pos _)
    have hlt' : i < ws.length := hl ▸ hlt
    have h1000 := Nat.lt_of_lt_of_le hlt hz
    have x1 := List.getElem?_eq_getElem hlt
    have x2 := List.getElem?_eq_getElem hlt'
    refine bindX1 rfl rfl ho.put (grd_mk (Nat.ble_eq_true_of_le (Nat.le_trans hy (Nat.le_of_lt h1000))) ?_)
    refine som_b (bind_mk c40 rfl) rfl (som_b hc (at_mk x1 h1000) ?_)
    refine som_b (bind_mk c41 rfl) rfl (som_b hc' (at_mk x2 h1000) ?_)
    refine ih (hw i hlt) (hw' i hlt) (by decide) (by decide) (hcp i hlt) (up_ hj) (hk _ _ x1) (hk' _ _ x2) fun H1 e1 => ?_
    have go : ∀ ys', ys'.length ≤ i + 1 → ys'.isEmpty = (ys.isEmpty && eqv (k i) (l i)) → compL (run orc (j + 20)) ⟨[(24, .i i)], [(41, L), (40, L + 1)], [159], [24]⟩ (.int 1) [24] [.not (.call (.nm 159) [.sub (.nm 40) (.nm 24), .sub (.nm 41) (.nm 24)])] src none all (intsF 0 (i + 1) r) ys' H1 Ψ := fun ys' h1 h2 => by
      refine ihr (i + 1) H1 _ ys' ((Nat.succ_add i r).trans hi) (.inr ⟨_, rfl⟩) h1 (e1.e.cel c40) (e1.e.cel c41) (e1.e.lst hc) (e1.e.lst hc') (fun i x q => (hk i x q).ext e1.e) (fun i x q => (hk' i x q).ext e1.e) fun ys'' H' me e h => q ys'' H' me (e1.trans e) (h.trans ?_)
      rw [h2, Bool.and_assoc]; rfl
    cases he : eqv (k i) (l i) with
    | true =>
      exact go ys (Nat.le_succ_of_le hy) (by rw [he, Bool.and_true])
    | false =>
      refine go (ys ++ [.i 1]) (by rw [List.length_append]; exact Nat.succ_le_succ hy) ?_
      rw [he, Bool.and_false]
      cases ys <;> rfl
theorem same_step (hO : NoO orc) {d : Nat} (ih : SamC orc d) {p : Nat} {a a' c c' n : Nat} {xs xs' vs ws : List V} {k l : Nat → Sh} {H : Hp} {G G' : Nat → Prop} {Φ : V → Hp → Prop} (hn : 40 + 40 * (d + 1) ≤ n) (hz : vs.length ≤ 1000) (hz' : ws.length ≤ 1000) (hw : ∀ i, i < vs.length → Wf 3 d (k i)) (hw' : ∀ i, i < ws.length → Wf 3 d (l i)) (hcp : ∀ i, i < vs.length → i < ws.length → Cp (k i) (l i))
    (h : H[a]? = some (.tup xs)) (h' : H[a']? = some (.tup xs')) (i0 : itemO (.tup xs) (.i 0) = some (.str p)) (i0' : itemO (.tup xs') (.i 0) = some (.str p)) (i1 : itemO (.tup xs) (.i (-1)) = some (.ref c)) (i1' : itemO (.tup xs') (.i (-1)) = some (.ref c')) (p1 : ∀ H, cmpop H .NotEq (.str p) (.str p) = some false) (p2 : ∀ H, cmpop H .Eq (.str p) (.str 17) = some false)
    (hc : H[c]? = some (.list vs)) (hc' : H[c']? = some (.list ws)) (hk : ∀ i x, vs[i]? = some x → SH H G (k i) x) (hk' : ∀ i x, ws[i]? = some x → SH H G' (l i) x)
    (q : ∀ H', Stm no H H' → Φ (.bool (Nat.beq vs.length ws.length && allN (fun i => eqv (k i) (l i)) 0 vs.length)) H') : cal (run orc n) (.fn 468) [.ref a, .ref a'] H Φ := by
  obtain ⟨j, rfl⟩ := fuel (Nat.le_trans (show 40 ≤ 40 + 40 * (d + 1) from Nat.le_add_right _ _) hn)
  have hj : 40 + 40 * d ≤ j := Nat.le_of_add_le_add_right (b := 40) hn
  refine C_go (hO _ _ _ _ (by decide) (by decide)) rfl (grd_mk rfl (fH_aps fun H1 n1 L1 g1 => ?_))
  have h1 := n1.e.tup _ _ h
  have h1' := n1.e.tup _ _ h'
  refine B_go (som_mk (isi_tup h1) (B_go (som_mk (isi_tup h1') ?_)))
  refine som_b h1 i0 (som_b h1' i0' (som_mk (p1 _) ?_))
  refine som_b h1 i0 (som_mk (p2 _) ?_)
  refine som_b h1 i1 (som_b h1' i1' ?_)
  refine fH_nw fun H2 n2 l2 ht => som_b (ob_mk ht) rfl ?_
  have c40 : H1[H.length + 1]? = some (.cell none) := g1 1 _ rfl
  have c41 : H1[H.length]? = some (.cell none) := g1 0 _ rfl
  clear h1 h1' g1 ht
  refine som_b (n2.e.cel c40) rfl (fH_pt (n2.e.cel c40) (fun _ z => nomatch z) fun H3 e3 x3 c40 => ?_)
  have c41 := x3 _ _ (fun z => Nat.ne_of_lt (Nat.lt_succ_self _) z) (n2.e.cel c41)
  refine som_b c41 rfl (fH_pt c41 (fun _ z => nomatch z) fun H4 e4 x4 c41 => ?_)
  have c40 : H4[H.length + 1]? = _ := x4 _ _ (fun z => Nat.ne_of_gt (Nat.lt_succ_self _) z) c40
  have n4 := ((n1.trans n2).drop e3 x3 fun x h => h ▸ Nat.le_succ _).drop e4 x4 fun x h => Nat.le_of_eq h.symm
  clear n1 n2 e3 x3 e4 x4
  have hc4 := n4.e.lst hc
  have hc4' := n4.e.lst hc'
  refine som_b (bind_mk c40 rfl) rfl (B_go (som_mk (len_mk hc4 hz) ?_))
  refine som_b (bind_mk c41 rfl) rfl (B_go (som_mk (len_mk hc4' hz') ?_))
  by_cases he : vs.length = ws.length
  · refine som_mk (a := true) (congrArg some (decide_eq_true (congrArg Int.ofNat he))) ?_
    refine som_b (bind_mk c40 rfl) rfl (B_go (som_mk (len_mk hc4 hz) ?_))
    refine B_go (grd_mk (and_mk rfl (small_nat hz)) ?_)
    refine fH_nw fun H5 n5 l5 hr => src_mk hr (grd_mk (and_mk (and_mk rfl (small_nat hz)) (le_nat hz)) ?_)
    have n45 := n4.trans n5
    refine same_loop ih (up_ hj) hw (fun i h => hw' i (he ▸ h)) (fun i h => hcp i h (he ▸ h)) hz he _ _ vs.length 0 H5 _ [] (Nat.zero_add _) (.inl rfl) (Nat.le_refl _) (n5.e.cel c40) (n5.e.cel c41) (n45.e.lst hc) (n45.e.lst hc') (fun i x q => (hk i x q).ext n45.e) (fun i x q => (hk' i x q).ext n45.e) fun ys H6 me n6 hy => ?_
    refine fH_nw fun H7 n7 l7 h7 => fH_nw fun H8 n8 l8 h8 => ?_
    have q := q _ (((n45.trans n6).trans n7).trans n8)
    rw [he, Nat.beq_refl, ← he, Bool.true_and, ← (show ys.isEmpty = allN _ _ _ from hy)] at q
    refine som_mk (a := ys.isEmpty) (bind_mk (ob_mk (n8.e.lst h7)) (bind_mk (ob_mk h8) ?_)) q
    cases ys <;> rfl
  · refine som_mk (a := false) (congrArg some (decide_eq_false fun z => he (Int.ofNat.inj z))) ?_
    have q := q H4 n4
    rw [nb_ne he] at q
    exact q
theorem same (hO : NoO orc) : ∀ d, SamC orc d := by
  intro d
  induction d with
  | zero =>
    intro e e' S T v w n H G G' Φ wf wf' he he' hcp hn hs hs' q
    cases S with
    | node _ _ _ _ => exact wf.elim
    | leaf b i =>
      cases T with
      | node _ _ _ _ => exact wf'.elim
      | leaf b' i' =>
        cases (show b = b' from hcp)
        exact sam_leaf hO hn hs hs' q
  | succ d ih =>
    intro e e' S T v w n H G G' Φ wf wf' he he' hcp hn hs hs' q
    cases S with
    | leaf b i =>
      cases T with
      | node _ _ _ _ => exact hcp.elim
      | leaf b' i' =>
        cases (show b = b' from hcp)
        exact sam_leaf hO (Nat.le_trans (Nat.le_add_right _ _) hn) hs hs' q
    | node b lo m k =>
      cases T with
      | leaf _ _ => exact hcp.elim
      | node b' lo' m' k' =>
        obtain ⟨hb, hm, hcp⟩ := hcp
        cases hb
        obtain ⟨m1, m2, wf⟩ := wf
        obtain ⟨m1', m2', wf'⟩ := wf'
        cases hs with
        | mk s hk =>
          cases hs' with
          | mk s' hk' =>
            cases b with
            | true => exact same_step hO ih hn (Nat.le_trans m2 (Nat.le_trans he (by decide))) (Nat.le_trans m2' (Nat.le_trans he' (by decide))) wf wf' hcp s.t s'.t rfl rfl rfl rfl (fun _ => rfl) (fun _ => rfl) s.l s'.l hk hk' q
            | false => exact same_step hO ih hn (Nat.le_trans m2 (show 2 ≤ 1000 by decide)) (Nat.le_trans m2' (show 2 ≤ 1000 by decide)) wf wf' hcp s.t s'.t rfl rfl rfl rfl (fun _ => rfl) (fun _ => rfl) s.l s'.l hk hk' q
end
end N
end Mine
end
section
open PySem
set_option Elab.async false
set_option maxRecDepth 100000
namespace Mine
namespace N
section
variable {orc : Orc}
/-- the shape at the end of a way -/
inductive At : Sh → List Nat → Sh → Prop
  | nil {S : Sh} : At S [] S
  | cons {b : Bool} {lo : Int} {n i : Nat} {k : Nat → Sh} {p : List Nat} {T : Sh} : i < n → At (k i) p T → At (.node b lo n k) (i :: p) T
noncomputable def nts (p : List Nat) : List V := p.map fun i : Nat => .i i
theorem SA.tp {H : Hp} {G : Nat → Prop} {b : Bool} {lo : Int} {a c : Nat} {vs : List V} (s : SA H G b lo a c vs) : ∃ xs p, H[a]? = some (.tup xs) ∧ itemO (.tup xs) (.i 0) = some (.str p) ∧ itemO (.tup xs) (.i (-1)) = some (.ref c) ∧ ∀ H, cmpop H .NotEq (.str p) (.str 17) = some true := by
  cases b
  · exact ⟨_, _, s.t, rfl, rfl, fun _ => rfl⟩
  · exact ⟨_, _, s.t, rfl, rfl, fun _ => rfl⟩
theorem last_mk {ys : List V} {x : V} (h : ys.length ≤ 900) : at? (ys ++ [x]) (-1) = some x := by
  have hl : (ys ++ [x]).length = ys.length + 1 := List.length_append
  unfold at?
  rw [if_neg (by omega), if_pos (by omega)]
  have : ((-1 : Int) + ((ys ++ [x]).length : Int)).toNat = ys.length := by omega
  rw [this, List.getElem?_append_right (Nat.le_refl _), Nat.sub_self]; rfl
noncomputable abbrev wayW : S := .whl (.boo true [.not (.call (.nm 123) [.nm 18, .nm 120]), .cmp (.sub (.nm 18) (.int 0)) (.NotEq) (.str 17)]) [.expr (.call (.attr (.nm 12) 111) [.call (.nm 156) [.nm 8, .call (.nm 117) [.sub (.nm 18) (.neg (.int 1))]]]), .asg (.nms [18]) (.sub (.sub (.nm 18) (.neg (.int 1))) (.sub (.nm 12) (.neg (.int 1))))]
theorem way_leaf {k w : Nat} {G : Nat → Prop} {c : Bool} {i : Int} {n : Nat} {v : V} {H : Hp} {Ψ : Fl → ME → Hp → Prop} (hn : 40 ≤ n) (hs : SH H G (.leaf c i) v) (q : Ψ .next ⟨[(8, .ref k), (18, v), (12, .ref w)], [], [123, 120, 156, 117], [8, 18, 12]⟩ H) :
    step1 (run orc n) ⟨[(8, .ref k), (18, v), (12, .ref w)], [], [123, 120, 156, 117], [8, 18, 12]⟩ wayW H Ψ := by
  obtain ⟨j, rfl⟩ := fuel hn
  cases c with
  | false =>
    cases hs
    exact B_go q
  | true =>
    obtain ⟨a, rfl, h⟩ := hs
    refine B_go (som_mk (isi_tup h) ?_)
    exact som_b h rfl q
theorem nts_snoc {p : List Nat} {i : Nat} : nts p ++ [.i i] = nts (p ++ [i]) := (List.map_append (l₁ := p) (l₂ := [i])).symm
theorem nts_len {p : List Nat} : (nts p).length = p.length := List.length_map _
theorem way_loop (hO : NoO orc) {k y w b : Nat} {ys : List V} {G : Nat → Prop} (hG : ∀ x, G x → x ≠ k ∧ x ≠ w) (hkw : k ≠ w) (hyw : y ≠ w) : ∀ (d : Nat) {e n : Nat} {S : Sh} {v : V} {H : Hp} {p : List Nat} {Ψ : Fl → ME → Hp → Prop}, Wf e d S → e ≤ 4 → 40 + 20 * d ≤ n → SH H G S v → Cup H k y ys (b + d) → H[w]? = some (.list (nts p)) → p.length + d ≤ 900 →
    (∀ q c i v' H', At S q (.leaf c i) → q.length ≤ d → SH H' G (.leaf c i) v' → H'[w]? = some (.list (nts (p ++ q))) → Cup H' k y ys b → Ext (fun x => x = k ∨ x = w) H H' → Ψ .next ⟨[(8, .ref k), (18, v'), (12, .ref w)], [], [123, 120, 156, 117], [8, 18, 12]⟩ H') →
    step1 (run orc n) ⟨[(8, .ref k), (18, v), (12, .ref w)], [], [123, 120, 156, 117], [8, 18, 12]⟩ wayW H Ψ := by
  intro d
  induction d with
  | zero => 
    intro e n S v H p Ψ wf he hn hs C hw hp q
    cases S with
    | leaf c i => exact way_leaf hn hs (q [] c i v H .nil (Nat.le_refl _) hs (by rw [List.append_nil]; exact hw) C .refl)
    | node _ _ _ _ => exact wf.elim
  | succ d ih =>
    intro e n S v H p Ψ wf he hn hs C hw hp q
    cases S with
    | leaf c i => exact way_leaf (Nat.le_trans (Nat.le_add_right _ _) hn) hs (q [] c i v H .nil (Nat.zero_le _) hs (by rw [List.append_nil]; exact hw) C.less .refl)
    | node b lo m kk =>
      obtain ⟨m1, m2, wf⟩ := wf
      obtain ⟨j, rfl⟩ := fuel (Nat.le_trans (show 20 ≤ 40 + 20 * (d + 1) from Nat.le_add_right_of_le (by decide)) hn)
      have hj : 40 + 20 * d ≤ j := Nat.le_of_add_le_add_right (b := 20) hn
      cases hs with
      | @mk a c vs s hk =>
        obtain ⟨xs, t, ht, i0, i1, p1⟩ := s.tp
        refine B_go (som_mk (isi_tup ht) ?_)
        refine som_b ht i0 (som_mk (p1 _) ?_)
        have hz : vs.length ≤ 1000 := Nat.le_trans m2 (by cases b; exact Nat.le_of_ble_eq_true rfl; exact Nat.le_trans he (by decide))
        have hp9 : p.length ≤ 900 := Nat.le_trans (Nat.le_add_right _ _) hp
        refine som_b (ob_mk hw) rfl (som_b ht i1 (B_go (som_mk (len_mk s.l hz) ?_)))
        refine roll hO (up_ (Nat.le_trans (Nat.le_add_right_of_le (by decide)) hj)) C (Int.ofNat_lt.mpr m1) fun r H1 r0 r1 C1 e1 => ?_
        have hw1 := e1.at hw (fun z => hkw z.symm) fun _ _ z => nomatch z
        obtain ⟨i, rfl⟩ := Int.eq_ofNat_of_zero_le r0
        have hi : i < vs.length := Int.ofNat_lt.mp r1
        refine som_b hw1 rfl (grd_mk (Nat.ble_eq_true_of_le (nts_len ▸ Nat.le_trans hp9 (by decide))) (fH_put hw1 (fun _ z => nomatch z) fun H2 e2 l2 hw2 => ?_))
        have hg : ∀ x, G x → ¬ (x = k ∨ x = w) := fun x h z => z.elim (hG x h).1 (hG x h).2
        have e12 : Ext (fun x => x = k ∨ x = w) H H2 := (e1.mono fun _ => .inl).trans (e2.mono fun _ => .inr)
        refine som_b (e12.tup _ _ ht) i1 (som_b hw2 (last_mk (nts_len ▸ hp9)) (som_b (e12.at s.l (hg _ s.g) fun _ _ z => nomatch z) (at_mk (List.getElem?_eq_getElem hi) (Nat.lt_of_lt_of_le hi hz)) ?_))
        refine ih (n := j + 19) (wf i hi) (by decide) (up_ hj) ((hk i _ (List.getElem?_eq_getElem hi)).up e12 hg fun _ h => h) (C1.up e2 hkw hyw) (nts_snoc ▸ hw2) ?_ fun q' c' i' v' H' hA hl hs hw' C' e' => ?_
        · rw [List.length_append]
          exact Nat.le_trans (Nat.le_of_eq (Nat.add_right_comm _ _ _)) hp
        · exact q (i :: q') c' i' v' H' (.cons hi hA) (Nat.succ_le_succ hl) hs (by rw [List.append_assoc] at hw'; exact hw') C' (e12.trans e')
theorem Ext.cut {X Y : Nat → Prop} {H H' : Hp} (e : Ext X H H') (h : ∀ x, x < H.length → X x → Y x) : Ext Y H H' := ⟨e.le, e.tup, fun a o hy ha => e.obj a o (fun z => hy (h a (lt_of_at ha) z)) ha⟩
theorem way (hO : NoO orc) {d e n k y b : Nat} {S : Sh} {v : V} {H : Hp} {ys : List V} {G : Nat → Prop} {Φ : V → Hp → Prop} (wf : Wf e d S) (he : e ≤ 4) (hd : d ≤ 900) (hn : 50 + 20 * d ≤ n) (hs : SH H G S v) (hG : ∀ x, G x → x ≠ k) (C : Cup H k y ys (b + d))
    (q : ∀ w p c i v' H', At S p (.leaf c i) → p.length ≤ d → SH H' G (.leaf c i) v' → H.length ≤ w → w < H'.length → H'[w]? = some (.list (nts p)) → Cup H' k y ys b → Ext (· = k) H H' → Φ (.ref H'.length) (H' ++ [.tup [.ref w, v']])) : cal (run orc n) (.fn 475) [.ref k, v] H Φ := by
  obtain ⟨j, rfl⟩ := fuel (Nat.le_trans (show 10 ≤ 50 + 20 * d from Nat.le_add_right_of_le (by decide)) hn)
  have hj : 40 + 20 * d ≤ j := Nat.le_of_add_le_add_right (b := 10) (Nat.le_trans (Nat.le_of_eq (Nat.add_right_comm _ _ _)) hn)
  refine C_go (hO _ _ _ _ (by decide) (by decide)) rfl (X_go rfl rfl ?_)
  refine fH_new fun H1 e1 l1 hw => ?_
  obtain ⟨lk, ly⟩ := C.lt
  have nt : ∀ x, ¬ no x := fun _ => id
  refine way_loop (w := H.length) (p := []) (n := j + 7) hO (fun x h => ⟨hG x h.1, Nat.ne_of_lt h.2⟩) (Nat.ne_of_lt lk) (Nat.ne_of_lt ly) d wf he (up_ hj) (hs.bd.ext e1) (C.up e1 (nt _) (nt _)) hw (Nat.le_trans (Nat.le_of_eq (Nat.zero_add _)) hd) fun p c i v' H' hA hl hs' hw' C' e' => ?_
  refine fH_mk ?_
  exact q _ p c i v' H' hA hl (hs'.up .refl (fun _ _ => id) fun _ h => h.1) (Nat.le_refl _) (lt_of_at hw') hw' C' (((e1.mono fun _ h => h.elim).trans e').cut fun x hx z => z.elim id fun z => absurd hx (z ▸ Nat.lt_irrefl _))
end
end N
end Mine
end
section
open PySem
set_option Elab.async false
set_option maxRecDepth 100000
namespace Mine
namespace N
section
variable {orc : Orc}
/-- the shape with another one at the end of a way -/
noncomputable def chg (N : Sh) : List Nat → Sh → Sh
  | [], _ => N
  | i :: p, S => (match S with
    | .leaf b i => .leaf b i
    | .node b lo n k => .node b lo n fun j => if j = i then chg N p (k i) else k j)
theorem gO_mk {α : Type} {b : Bool} {x : α} (h : b = true) : gO b x = some x := by rw [h]; rfl
theorem veq_emp {H : Hp} {a b : Nat} {vs : List V} (hx : H[a]? = some (.list vs)) (hy : H[b]? = some (.list [])) : veq H (.ref a) (.ref b) = some vs.isEmpty :=
  bind_mk (ob_mk hx) (bind_mk (ob_mk hy) (by cases vs <;> rfl))
theorem SA.tq {H : Hp} {G : Nat → Prop} {b : Bool} {lo : Int} {a c : Nat} {vs : List V} (s : SA H G b lo a c vs) : ∃ xs, H[a]? = some (.tup xs) ∧ itemO (.tup xs) (.i (-1)) = some (.ref c) ∧ (Nat.beq xs.length 2 || Nat.beq xs.length 3) = true ∧ xs.dropLast.isEmpty = false ∧ Nat.ble (xs.dropLast.length + 1) 1000 = true ∧ ∀ c', xs.dropLast ++ [.ref c'] = (match (generalizing := false) b with | true => [.str 15, .i lo, .ref c'] | false => [.str 16, .ref c']) := by
  cases b
  · exact ⟨_, s.t, rfl, rfl, rfl, rfl, fun _ => rfl⟩
  · exact ⟨_, s.t, rfl, rfl, rfl, rfl, fun _ => rfl⟩
theorem slice_tl {H : Hp} {w : Nat} {x : V} {xs : List V} {Φ : V → Hp → Prop} (h : H[w]? = some (.list (x :: xs))) (hl : Nat.ble (xs.length + 1) 1000 = true) (q : fH (H ++ [.list xs]) (Φ (.ref H.length))) : slice (.ref w) (.i 1) .none H Φ := by
  refine som_mk (ob_mk h) (grd_mk hl ?_)
  have : (((x :: xs).drop (min 1 (xs.length + 1))).take ((xs.length + 1) - min 1 (xs.length + 1))) = xs := by
    rw [Nat.min_eq_left (Nat.succ_le_succ (Nat.zero_le _))]
    exact List.take_length
  have q2 := q
  rw [← this] at q2
  exact q2
theorem slice_in {H : Hp} {a : Nat} {xs : List V} {Φ : V → Hp → Prop} (h : H[a]? = some (.tup xs)) (hl : (Nat.beq xs.length 2 || Nat.beq xs.length 3) = true) (q : fH (H ++ [.tup xs.dropLast]) (Φ (.ref H.length))) : slice (.ref a) .none (.i (-1)) H Φ := by
  refine som_mk (ob_mk h) (grd_mk ?_ q)
  rw [hl]; rfl
theorem Wf.le {e d : Nat} {b : Bool} {lo : Int} {n : Nat} {k : Nat → Sh} (he : e ≤ 4) (wf : Wf e (d + 1) (.node b lo n k)) : n ≤ 4 := by
  have h := wf.2.1
  cases b
  · exact Nat.le_trans h (show 2 ≤ 4 by decide)
  · exact Nat.le_trans h he
theorem changed (hO : NoO orc) {N : Sh} {u : V} : ∀ (p : List Nat) {e d n w : Nat} {S T : Sh} {v : V} {H : Hp} {G : Nat → Prop} {Φ : V → Hp → Prop}, At S p T → Wf e d S → e ≤ 4 → p.length ≤ 900 → 30 + 30 * p.length ≤ n → SH H G S v → SH H G N u → H[w]? = some (.list (nts p)) →
    (∀ v' H', SH H' (fun x => G x ∨ H.length ≤ x) (chg N p S) v' → Ext no H H' → Φ v' H') → cal (run orc n) (.fn 482) [v, .ref w, u] H Φ := by
  intro p
  induction p with
  | nil =>
    intro e d n w S T v H G Φ hA wf he hp hn hs hu hw q
    obtain ⟨j, rfl⟩ := fuel hn
    refine C_go (hO _ _ _ _ (by decide) (by decide)) rfl (X_go rfl rfl ?_)
    refine fH_new fun H1 e1 l1 h1 => ?_
    refine som_mk (veq_emp (e1.lst hw) h1) ?_
    exact q _ _ (hu.up e1 (fun _ _ => id) fun _ => .inl) e1
  | cons i p ih =>
    intro e d n w S T v H G Φ hA wf he hp hn hs hu hw q
    obtain ⟨j, rfl⟩ := fuel (Nat.le_trans (show 30 ≤ 30 + 30 * (p.length + 1) from Nat.le_add_right _ _) hn)
    have hj : 30 + 30 * p.length ≤ j := Nat.le_of_add_le_add_right (b := 30) hn
    cases hA with
    | @cons b lo m _ k _ _ hi hA =>
    cases d with
    | zero => exact wf.elim
    | succ d =>
    have h4 := wf.le he
    obtain ⟨m1, m2, wf⟩ := wf
    cases hs with
    | @mk a c vs s hk =>
    obtain ⟨xs, ht, i1, x1, x2, x3, x4⟩ := s.tq
    have hz : vs.length ≤ 1000 := Nat.le_trans h4 (by decide)
    refine C_go (hO _ _ _ _ (by decide) (by decide)) rfl (X_go rfl rfl ?_)
    refine fH_new fun H1 e1 l1 h1 => ?_
    refine som_mk (veq_emp (e1.lst hw) h1) ?_
    refine som_b (e1.tup _ _ ht) i1 (B_go (som_b (ob_mk (e1.at s.l id fun _ _ z => nomatch z)) (gO_mk (Nat.ble_eq_true_of_le hz)) (fH_new fun H2 n2 l2 hP => ?_)))
    have e12 := e1.trans n2
    have lP : H.length ≤ H1.length := e1.le
    have hx := List.getElem?_eq_getElem hi
    have h1000 := Nat.lt_of_lt_of_le hi hz
    refine som_b (e12.lst hw) rfl (som_b hP (at_mk hx h1000) ?_)
    refine slice_tl (e12.lst hw) (Nat.ble_eq_true_of_le (Nat.succ_le_succ (nts_len (p := p) ▸ Nat.le_trans (Nat.le_of_succ_le hp) (by decide)))) (fH_new fun H3 n3 l3 hw3 => ?_)
    have e13 := e12.trans n3
    have hk3 := hk i _ hx
    refine ih hA (wf i hi) (by decide) (Nat.le_of_succ_le hp) (up_ hj) (hk3.bd.ext e13) (hu.bd.ext e13) hw3 fun v' H4 hv n4 => ?_
    have e14 := e13.trans n4
    have hP4 := n4.lst (n3.lst hP)
    refine som_b (e14.lst hw) rfl ?_
    refine som_mk (a := H1.length) rfl (som_mk hP4 (grd_mk (and_mk (decide_eq_true (Int.natCast_nonneg i)) (and_mk (decide_eq_true (Int.ofNat_lt.mpr hi)) (Nat.ble_eq_true_of_le hz))) (fH_put hP4 (fun _ z => nomatch z) fun H5 e5 l5 hP5 => ?_)))
    have sD : ∀ x, x = H1.length → H.length ≤ x := fun x h => h ▸ lP
    have e15 := e14.drop e5 sD
    refine slice_in (e15.tup _ _ ht) x1 (fH_new fun H6 n6 l6 h6 => fH_new fun H7 n7 l7 h7 => ?_)
    refine som_mk (n7.tup _ _ h6) (som_mk (ob_mk h7) (grd_mk (and_mk x3 (by rw [x2]; rfl)) (fH_new fun H8 n8 l8 h8 => ?_)))
    have e68 := (n6.trans n7).trans n8
    refine q _ _ ?_ (e15.trans e68)
    have le13 := e13.le
    have key : SN H8 (fun x => G x ∨ H.length ≤ x) b lo (fun t x => SH H8 (fun x => G x ∨ H.length ≤ x) (if t = i then chg N p (k i) else k t) x) (vs.set i v').length (.ref H7.length) := .mk ⟨h8.trans (congrArg (fun z => some (O.tup z)) (x4 _)), e68.lst hP5, .inr lP⟩ fun t x ht => by
      by_cases z : t = i
      · subst z
        rw [List.getElem?_set_self hi] at ht
        cases ht
        rw [if_pos rfl]
        exact hv.up (e5.trans (e68.mono fun _ h => h.elim)) (fun b h z => h.elim (fun h => Nat.ne_of_lt (Nat.lt_of_lt_of_le h.2 lP) z) fun h => Nat.not_le.mpr (Nat.lt_of_lt_of_le (lt_of_at hP) n3.le) (z ▸ h)) fun b h => h.elim (fun h => .inl h.1) fun h => .inr (Nat.le_trans e13.le h)
      · rw [List.getElem?_set_ne (Ne.symm z)] at ht
        rw [if_neg z]
        exact (hk t x ht).up (e15.trans e68) (fun _ _ => id) fun _ => .inl
    rw [List.length_set] at key
    exact key
end
end N
end Mine
end
section
open PySem
set_option Elab.async false
set_option maxRecDepth 100000
namespace Mine
namespace N
section
variable {orc : Orc}
theorem idx_mk {lo : Int} {i n : Nat} (h : i < n) : lo ≤ lo + i ∧ lo + i ≤ lo + n - 1 := by omega
theorem off_mk {z lo : Int} {i : Nat} : 0 * z + (lo + i) - lo = i := by rw [Int.zero_mul]; omega
theorem dim_sm {lo : Int} {n : Nat} (h : n ≤ 1000) : small (if lo + n - 1 - lo + 1 < 0 then 0 else lo + n - 1 - lo + 1) = true := by
  split
  · rfl
  · exact small_of (by omega) (by omega)
/-- a member's place, one dimension -/
theorem offs (hO : NoO orc) {n : Nat} {H : Hp} {Φ : V → Hp → Prop} {lo : Int} {a b u c ix i : Nat} {vs : List V} (hn : 60 ≤ n) (s : AV H lo a b u c vs) (hi : i < vs.length) (hz : vs.length ≤ 1000) (hx : H[ix]? = some (.list [.i (lo + i)]))
    (q : ∀ H', Stm no H H' → Φ (.i i) H') : cal (run orc n) (.fn 281) [.ref a, .ref ix] H Φ := by
  obtain ⟨j, rfl⟩ := fuel hn
  obtain ⟨l1, l2⟩ := idx_mk (lo := lo) hi
  refine C_go (hO _ _ _ _ (by decide) (by decide)) rfl (X_go rfl rfl ?_)
  refine B_go (som_b (ob_mk hx) rfl (B_go (fH_nw fun H1 n1 _ hr => src_mk hr ?_)))
  have s1 := s.up n1.e id id id
  have hx := n1.e.lst hx
  refine som_b (ob_mk s1.o) rfl (som_b s1.bs rfl (som_b (ob_mk s1.bt) rfl ?_))
  refine som_b hx rfl (ifs_t (decide_eq_true l1) ?_)
  refine ifs_f (show (!decide (lo + (i : Int) ≤ lo + vs.length - 1)) = false by rw [decide_eq_true l2]; rfl) ?_
  refine C_go (hO _ _ _ _ (by decide) (by decide)) rfl (X_go rfl rfl (B_go ?_))
  refine som_mk (mul_mk rfl (dim_sm hz)) (som_b hx rfl ?_)
  have q := q H1 n1
  rw [← off_mk (z := if lo + (vs.length : Int) - 1 - lo + 1 < 0 then 0 else lo + vs.length - 1 - lo + 1) (lo := lo)] at q
  exact q
end
end N
end Mine
end
section
open PySem
set_option Elab.async false
set_option maxRecDepth 100000
namespace Mine
namespace N
/-- a leaf's value -/
noncomputable abbrev LV (c0 : Nat) (b : Bool) (i : Int) (v : V) : Prop := MV 0 c0 [] (.leaf b i) v no
/-- a place within an array, within a record; what is overwritten there, by what -/
inductive Spot (H : Hp) (x : Nat) (s : V) : Nat → (V → O) → Prop
  | item {a b u c i : Nat} {lo : Int} {vs : List V} (t : H[x]? = some (.tup [.str 30, .ref a, .i i])) (o : AV H lo a b u c vs) (g : vs[i]? = some s) (z : vs.length ≤ 1000) : Spot H x s c fun w => .list (vs.set i w)
  | fld {r a d i : Nat} {vs : List V} (t : H[x]? = some (.tup [.str 48, .ref a, .str (i + 6)])) (o : RcV H r a d vs) (g : vs[i]? = some s) : Spot H x s d fun w => .dict none ([6, 7].zip (vs.set i w))
/-- the place at the end of a way in a value; what becomes of the value -/
inductive Sur (t c0 : Nat) (H : Hp) (S : Sh) (v : V) (F : Nat → Prop) (p : List Nat) (x : Nat) : Prop
  | mk {c : Nat} {f : V → O} {s : V} {b : Bool} {i : Int} (sp : Spot H x s c f) (fc : F c) (hA : At S p (.leaf b i)) (lf : LV c0 b i s)
    (up : ∀ (H' : Hp) (b : Bool) (i : Int) (w : V), Ext (· = c) H H' → H'[c]? = some (f w) → LV c0 b i w → MV t c0 H' (chg (.leaf b i) p S) v F)
theorem set_at {vs : List V} {i j : Nat} {w x : V} (h : (vs.set i w)[j]? = some x) : j = i ∧ x = w ∨ j ≠ i ∧ vs[j]? = some x := by
  by_cases z : j = i
  · subst z
    have hl := (List.getElem?_eq_some_iff.mp h).1
    rw [List.length_set] at hl
    rw [List.getElem?_set_self hl] at h
    exact .inl ⟨rfl, (Option.some.inj h).symm⟩
  · rw [List.getElem?_set_ne (Ne.symm z)] at h
    exact .inr ⟨z, h⟩
theorem At.eq {S T : Sh} (h : S = T) : At S [] T := h ▸ .nil
theorem set_of {t c0 i j : Nat} {H : Hp} {vs : List V} {b : Bool} {i' : Int} {w x : V} {K : Nat → Prop} (lv : LV c0 b i' w) (h : j = i ∧ x = w ∨ j ≠ i ∧ vs[j]? = some x) : j = i ∧ MV t c0 H (.leaf b i') x K ∨ j ≠ i ∧ vs[j]? = some x :=
  h.elim (fun h => .inl ⟨h.1, h.2 ▸ lv⟩) .inr
section
variable {t c0 : Nat} {H : Hp} {F : Nat → Prop} {K : Nat → Nat → Prop} {k : Nat → Sh} {vs : List V} {i : Nat} {s : V} {lo : Int} {x : Nat}
/-- children, one of them another -/
theorem sub_set {X : Nat → Prop} {H' : Hp} {N : Sh} {us : List V} (e : Ext X H H') (hX : ∀ j y, j ≠ i → K j y → ¬ X y) (hk : ∀ i x, vs[i]? = some x → MV t c0 H (k i) x (K i)) (hu : ∀ j y, us[j]? = some y → j = i ∧ MV t c0 H' N y (K i) ∨ j ≠ i ∧ vs[j]? = some y) :
    ∀ j y, us[j]? = some y → MV t c0 H' (if j = i then N else k j) y (K j) := fun j y h => by
  rcases hu j y h with ⟨rfl, h⟩ | ⟨z, h⟩
  · rw [if_pos rfl]; exact h
  · rw [if_neg z]; exact (hk j y h).up e (hX j · z) fun _ h => h
theorem Sur.arr1 {a b u c : Nat} (o : AV H lo a b u c vs) (w : Own F K a b c) (hk : ∀ i x, vs[i]? = some x → MV t c0 H (k i) x (K i)) (hi : vs[i]? = some s) (hz : vs.length ≤ 1000) (hx : H[x]? = some (.tup [.str 30, .ref a, .i i])) {b' : Bool} {i' : Int} (hl : k i = .leaf b' i') : Sur t c0 H (.node true lo vs.length k) (.ref a) F [i] x := by
  refine .mk (.item hx o hi hz) w.fc (.cons (List.getElem?_eq_some_iff.mp hi).1 (At.eq hl)) (by have := hk i s hi; rw [hl] at this; exact this) fun H' b' i' x' e hc lv => ?_
  have := MN.arr (t := t) (H := H') (lo := lo) (sub := fun j y K => MV t c0 H' (if j = i then .leaf b' i' else k j) y K) (vs := vs.set i x') ⟨e.at o.o (fun z => ?_) (fun _ _ z => nomatch z), e.at o.bs (fun z => w.ne z.symm) (fun _ _ z => nomatch z), ?_, hc⟩ w (sub_set (i := i) e (fun j y _ h => (w.own j y h).2.2.2) hk fun j y h => set_of lv (set_at h))
  · rw [List.length_set] at this; exact this
  · have h1 := o.o
    rw [z, o.it] at h1
    cases h1
  · rw [List.length_set]; exact e.tup _ _ o.bt
theorem Sur.arr2 {a b u c : Nat} {p : List Nat} (o : AV H lo a b u c vs) (w : Own F K a b c) (hk : ∀ i x, vs[i]? = some x → MV t c0 H (k i) x (K i)) (hi : vs[i]? = some s) (h : Sur t c0 H (k i) s (K i) p x) : Sur t c0 H (.node true lo vs.length k) (.ref a) F (i :: p) x := by
  cases h with
  | @mk c f y b' i' sp fc hA lf up =>
    obtain ⟨w1, w2, w3, w4⟩ := w.own i _ fc
    exact .mk sp w1 (.cons (List.getElem?_eq_some_iff.mp hi).1 hA) lf fun H' b' i' x' e hc lv => .arr (o.up e (Ne.symm w2) (Ne.symm w3) (Ne.symm w4)) w (sub_set (i := i) e (fun j y hj h z => hj (w.dis j i y h (z ▸ fc))) hk fun j y h => if z : j = i then .inl ⟨z, by subst z; rw [hi] at h; cases h; exact up H' b' i' x' e hc lv⟩ else .inr ⟨z, h⟩)
theorem Sur.rcd1 {a d : Nat} (o : RcV H t a d vs) (w : Own F K a a d) (hk : ∀ i x, vs[i]? = some x → MV t c0 H (k i) x (K i)) (hi : vs[i]? = some s) (hx : H[x]? = some (.tup [.str 48, .ref a, .str (i + 6)])) {b' : Bool} {i' : Int} (hl : k i = .leaf b' i') : Sur t c0 H (.node false lo vs.length k) (.ref a) F [i] x := by
  refine .mk (.fld hx o hi) w.fc (.cons (List.getElem?_eq_some_iff.mp hi).1 (At.eq hl)) (by have := hk i s hi; rw [hl] at this; exact this) fun H' b' i' x' e hc lv => ?_
  have := MN.rcd (t := t) (H := H') (lo := lo) (sub := fun j y K => MV t c0 H' (if j = i then .leaf b' i' else k j) y K) (vs := vs.set i x') ⟨e.at o.o (fun z => w.ne z.symm) (fun _ _ z => nomatch z), ⟨_, hc⟩, ?_⟩ w (sub_set (i := i) e (fun j y _ h => (w.own j y h).2.2.2) hk fun j y h => set_of lv (set_at h))
  · rw [List.length_set] at this; exact this
  · rw [List.length_set]; exact o.le
theorem Sur.rcd2 {a d : Nat} {p : List Nat} (o : RcV H t a d vs) (w : Own F K a a d) (hk : ∀ i x, vs[i]? = some x → MV t c0 H (k i) x (K i)) (hi : vs[i]? = some s) (h : Sur t c0 H (k i) s (K i) p x) : Sur t c0 H (.node false lo vs.length k) (.ref a) F (i :: p) x := by
  cases h with
  | @mk c f y b' i' sp fc hA lf up =>
    obtain ⟨w1, w2, w3, w4⟩ := w.own i _ fc
    exact .mk sp w1 (.cons (List.getElem?_eq_some_iff.mp hi).1 hA) lf fun H' b' i' x' e hc lv => .rcd (o.up e (Ne.symm w2) (Ne.symm w4)) w (sub_set (i := i) e (fun j y hj h z => hj (w.dis j i y h (z ▸ fc))) hk fun j y h => if z : j = i then .inl ⟨z, by subst z; rw [hi] at h; cases h; exact up H' b' i' x' e hc lv⟩ else .inr ⟨z, h⟩)
end
end N
end Mine
end
section
open PySem
set_option Elab.async false
set_option maxRecDepth 100000
namespace Mine
namespace N
section
variable {orc : Orc}
theorem CX_go {n a : Nat} {fi : FI} {vs : List V} {H : Hp} {Φ : Fl → Hp → Prop} (hf : lookc a funs = some fi) (q : stepX (run orc n) fi vs H Φ) : calx (run orc (n + 1)) a vs H Φ := by
  rw [calx_eq]
  show som (lookc a funs) fun fi => stepX (run orc n) fi vs H Φ
  rw [hf]; exact q
theorem fields (hO : NoO orc) {n : Nat} {H : Hp} {Φ : V → Hp → Prop} {r a d i : Nat} {vs : List V} {s : V} (hn : 20 ≤ n) (o : RcV H r a d vs) (g : vs[i]? = some s) (q : Φ (.ref d) H) : cal (run orc n) (.fn 243) [.ref a, .str (i + 6)] H Φ := by
  obtain ⟨j, rfl⟩ := fuel hn
  obtain ⟨st, hd⟩ := o.ds
  refine C_go (hO _ _ _ _ (by decide) (by decide)) rfl (X_go rfl rfl ?_)
  refine som_b (ob_mk o.o) rfl (som_mk (notin_mk hd (lk_zip o.le g).1) ?_)
  exact som_b (ob_mk o.o) rfl q
/-- a place is read -/
theorem read (hO : NoO orc) {n x c : Nat} {H : Hp} {Φ : V → Hp → Prop} {s : V} {f : V → O} (hn : 40 ≤ n) (S : Spot H x s c f) (q : Φ s H) : cal (run orc n) (.fn 248) [.ref x] H Φ := by
  obtain ⟨j, rfl⟩ := fuel hn
  refine C_go (hO _ _ _ _ (by decide) (by decide)) rfl (X_go rfl rfl ?_)
  cases S with
  | item t o g z =>
    refine som_b t rfl ?_
    refine som_b t rfl (som_b (ob_mk o.o) rfl (som_b t rfl ?_))
    exact som_b o.it (at_mk g (Nat.lt_of_lt_of_le (List.getElem?_eq_some_iff.mp g).1 z)) q
  | fld t o g =>
    refine som_b t rfl ?_
    refine som_b t rfl (som_b t rfl ?_)
    refine fields hO (Nat.le_add_left _ _) o g ?_
    refine som_b t rfl ?_
    obtain ⟨st, hd⟩ := o.ds
    exact som_b hd (lk_zip o.le g).1 q
/-- a place is written -/
theorem write (hO : NoO orc) {n x c : Nat} {H : Hp} {Φ : Fl → Hp → Prop} {s w : V} {f : V → O} (hn : 40 ≤ n) (S : Spot H x s c f) (q : ∀ H', Ext (· = c) H H' → H'[c]? = some (f w) → Φ .next H') : calx (run orc n) 253 [.ref x, w] H Φ := by
  obtain ⟨j, rfl⟩ := fuel hn
  refine CX_go rfl (X_go rfl rfl ?_)
  cases S with
  | @item a b u c i lo vs t o g z =>
    have hi := (List.getElem?_eq_some_iff.mp g).1
    refine som_b t rfl ?_
    refine som_b t rfl (som_b (ob_mk o.o) rfl (som_b t rfl ?_))
    refine som_mk (a := c) rfl (som_mk o.it (grd_mk (and_mk (decide_eq_true (Int.natCast_nonneg i)) (and_mk (decide_eq_true (Int.ofNat_lt.mpr hi)) (Nat.ble_eq_true_of_le z))) (fH_put o.it (fun _ z => nomatch z) fun H5 e5 l5 hP5 => ?_)))
    exact q H5 e5 hP5
  | fld t o g =>
    refine som_b t rfl ?_
    refine som_b t rfl (som_b t rfl ?_)
    refine fields hO (Nat.le_add_left _ _) o g ?_
    refine som_b t rfl ?_
    obtain ⟨st, hd⟩ := o.ds
    obtain ⟨h1, h2, h3, h4⟩ := lk_zip o.le g
    refine som_mk (a := c) rfl (som_mk hd (grd_mk (Nat.le_of_ble_eq_true h4 |> Nat.ble_eq_true_of_le) (fH_put hd (fun _ z => nomatch z) fun H5 e5 l5 hP5 => ?_)))
    exact q H5 e5 (hP5.trans (congrArg (fun z => some (O.dict none z)) (h2 w)))
end
end N
end Mine
end
section
open PySem
set_option Elab.async false
set_option maxRecDepth 100000
namespace Mine
namespace N
section
variable {orc : Orc}
theorem mk_cell (hO : NoO orc) {n : Nat} {H : Hp} {Φ : V → Hp → Prop} (hn : 20 ≤ n) {x y : V} (q : Φ (.ref H.length) (H ++ [.inst 110 [(29, x), (37, y), (52, .none)]])) : cal (run orc n) (.fn 110) [x, y] H Φ := by
  obtain ⟨j, rfl⟩ := fuel hn
  refine K_go (hO _ _ _ _ (by decide) (by decide)) rfl rfl (C_go (hO _ _ _ _ (by decide) (by decide)) rfl (X_go rfl rfl ?_))
  refine som_b get_push rfl (fH_as set_push ?_)
  refine som_b get_push rfl (fH_as set_push ?_)
  refine som_b get_push rfl (fH_as set_push ?_)
  exact q
/-- maker.make_cell -/
theorem mk_cel (hO : NoO orc) {n mk : Nat} {m : Int} {H : Hp} {Φ : V → Hp → Prop} (hn : 40 ≤ n) {x : V} (h : H[mk]? = some (.inst 138 [(51, .i m)])) (q : ∀ H', Ext (· = mk) H H' → H'.length = H.length → H'[mk]? = some (.inst 138 [(51, .i (m + 1))]) → Φ (.ref H'.length) (H' ++ [.inst 110 [(29, x), (37, .i (m + 1)), (52, .none)]])) : cal (run orc n) (.fn 135) [.ref mk, x] H Φ := by
  obtain ⟨j, rfl⟩ := fuel hn
  refine C_go (hO _ _ _ _ (by decide) (by decide)) rfl (X_go rfl rfl ?_)
  refine som_b (ob_mk h) rfl (som_b h rfl (fH_put h (fun _ z => nomatch z) fun H1 e1 l1 h1 => ?_))
  refine som_b (ob_mk h1) rfl ?_
  exact mk_cell hO (Nat.le_add_left_of_le (by decide)) (q H1 e1 l1 h1)
/-- a place that can be read -/
inductive Cur (H : Hp) (x : Nat) (v : V) : Prop
  | cell {a b : Nat} {es : List (Nat × V)} (t : H[x]? = some (.tup [.str 47, .ref a])) (o : H[a]? = some (.inst 110 ((29, v) :: es))) (z : v = .ref b)
  | spot {c : Nat} {f : V → O} (s : Spot H x v c f)
theorem reads (hO : NoO orc) {n x : Nat} {H : Hp} {Φ : V → Hp → Prop} {v : V} (hn : 40 ≤ n) (S : Cur H x v) (q : Φ v H) : cal (run orc n) (.fn 248) [.ref x] H Φ := by
  cases S with
  | cell t o z =>
    subst z
    obtain ⟨j, rfl⟩ := fuel hn
    refine C_go (hO _ _ _ _ (by decide) (by decide)) rfl (X_go rfl rfl ?_)
    refine som_b t rfl ?_
    refine som_b t rfl ?_
    exact som_b (ob_mk o) rfl q
  | spot s => exact read hO hn s q
/-- what is found at the end -/
noncomputable def Fin (t c0 : Nat) (H : Hp) (S : Sh) (v : V) (F : Nat → Prop) (x : Nat) : List Nat → Nat → Prop
  | [], y => y = x
  | i :: p, y => Sur t c0 H S v F (i :: p) y
noncomputable abbrev plB : List S := [.asg (.nms [46]) (.call (.nm 139) [.nm 24]), .ifs (.call (.nm 123) [.nm 46, .nm 126]) [.asg (.nms [24]) (.call (.nm 144) [.nm 46, .list [.bin (.Add) (.sub (.sub (.attr (.nm 46) 26) (.int 0)) (.int 0)) (.nm 45)]])] [.asg (.nms [24]) (.call (.nm 151) [.nm 46, .sub (.str 25) (.nm 45)])]]
noncomputable abbrev plM (l : List (Nat × V)) : ME := ⟨l, [], [139, 123, 126, 144, 151], [29, 12, 44, 24, 45, 46]⟩
/-- the loop's locals -/
inductive PlL (v mk w : V) (x : Nat) : List (Nat × V) → Prop
  | a : PlL v mk w x [(29, v), (12, w), (44, mk), (24, .ref x)]
  | b {a b : V} : PlL v mk w x [(29, v), (12, w), (44, mk), (24, .ref x), (45, a), (46, b)]
theorem At.inv {S T : Sh} {p : List Nat} (h : At S p T) (z : p = []) : S = T := by
  cases h
  · rfl
  · cases z
theorem pl_body (hO : NoO orc) {t c0 j r x n : Nat} {v0 mk w v : V} {b : Bool} {lo : Int} {k : Nat → Sh} {F : Nat → Prop} {H : Hp} {Ψ : Fl → ME → Hp → Prop} (hj : 80 ≤ j) (hr : r < n) (h4 : n ≤ 4) (hv : MV t c0 H (.node b lo n k) v F)
    (q : ∀ y s K H1, Ext no H H1 → MV t c0 H1 (k r) s K → Cur H1 y s → (∀ H2 p z b' i', Ext no H1 H2 → At (k r) p (.leaf b' i') → Fin t c0 H2 (k r) s K y p z → Sur t c0 H2 (.node b lo n k) v F (r :: p) z) → Ψ .next (plM [(29, v0), (12, w), (44, mk), (24, .ref y), (45, .i r), (46, v)]) H1) :
    (run orc (j + 19)).S (plM [(29, v0), (12, w), (44, mk), (24, .ref x), (45, .i r), (46, v)]) plB.tail H Ψ := by
  cases hv with
  | @arr _ K a bb u c vs s o hk =>
    have hz : vs.length ≤ 1000 := Nat.le_trans h4 (by decide)
    have hx := List.getElem?_eq_getElem hr
    refine B_go (som_mk (isi_inst s.o rfl) ?_)
    refine som_b (ob_mk s.o) rfl (som_b s.bs rfl (som_b s.bt rfl (fH_nw fun H1 n1 l1 h1 => ?_)))
    refine C_go (hO _ _ _ _ (by decide) (by decide)) rfl (X_go rfl rfl ?_)
    refine offs hO (up_ (Nat.le_trans (by decide) hj)) (s.up n1.e id id id) hr hz h1 fun H2 n2 => fH_nw fun H3 n3 l3 h3 => ?_
    have e := (n1.e.trans n2.e).trans n3.e
    have s3 := s.up e id id id
    refine q _ _ (K r) H3 e ((hk r _ hx).up e (fun _ _ => id) fun _ h => h) (.spot (.item h3 s3 hx hz)) fun H4 p z b' i' e4 hA hf => ?_
    have s4 := s3.up e4 id id id
    have hk4 := fun i x h => (hk i x h).up (e.trans e4) (fun _ _ => id) fun _ h => h
    cases p with
    | nil => exact Sur.arr1 s4 o hk4 hx hz ((show z = _ from hf) ▸ e4.tup _ _ h3) (hA.inv rfl)
    | cons _ _ => exact Sur.arr2 s4 o hk4 hx hf
  | @rcd _ K a dd vs s o hk =>
    have hx := List.getElem?_eq_getElem hr
    refine B_go (som_mk (isi_inst s.o rfl) ?_)
    obtain ⟨st, ds⟩ := s.ds
    obtain ⟨g1, g2, g3, g4⟩ := lk_zip s.le hx
    refine som_mk (a := false) rfl (som_mk (fg_mk g3) ?_)
    refine C_go (hO _ _ _ _ (by decide) (by decide)) rfl (X_go rfl rfl ?_)
    refine CX_go rfl (X_go rfl rfl ?_)
    refine som_b (ob_mk s.o) rfl (som_mk (notin_mk ds g1) ?_)
    refine fH_nw fun H3 n3 l3 h3 => ?_
    have e := n3.e
    have s3 := s.up e id id
    refine q _ _ (K r) H3 e ((hk r _ hx).up e (fun _ _ => id) fun _ h => h) (.spot (.fld h3 s3 hx)) fun H4 p z b' i' e4 hA hf => ?_
    have s4 := s3.up e4 id id
    have hk4 := fun i x h => (hk i x h).up (e.trans e4) (fun _ _ => id) fun _ h => h
    cases p with
    | nil => exact Sur.rcd1 s4 o hk4 hx ((show z = _ from hf) ▸ e4.tup _ _ h3) (hA.inv rfl)
    | cons _ _ => exact Sur.rcd2 s4 o hk4 hx hf
theorem pl_loop (hO : NoO orc) {t c0 w j : Nat} {v0 mk : V} {all : List V} (hj : 80 ≤ j) : ∀ (p : List Nat) {e d x : Nat} {S : Sh} {v : V} {F : Nat → Prop} {H : Hp} {ml : List (Nat × V)} {b : Bool} {i : Int} {Ψ : Fl → ME → Hp → Prop}, At S p (.leaf b i) → Wf e d S → e ≤ 4 → MV t c0 H S v F → Cur H x v → H[w]? = some (.list all) → PlL v0 mk (.ref w) x ml →
    (∀ y ml' H', PlL v0 mk (.ref w) y ml' → Ext no H H' → Fin t c0 H' S v F x p y → Ψ .next (plM ml') H') →
    forL (run orc (j + 20)) [45] plB (.ref w) (some none) all (nts p) (plM ml) H Ψ := by
  intro p
  induction p with
  | nil =>
    intro e d x S v F H ml b i Ψ hA wf he hv hc hw hm q
    exact q x ml H hm .refl rfl
  | cons r p ih =>
    intro e d x S v F H ml b i Ψ hA wf he hv hc hw hm q
    cases hA with
    | @cons bb lo m _ k _ _ hr hA =>
    cases d with
    | zero => exact wf.elim
    | succ d =>
    have h4 := wf.le he
    obtain ⟨m1, m2, wf⟩ := wf
    have go : ∀ y s K H1, Ext no H H1 → MV t c0 H1 (k r) s K → Cur H1 y s → (∀ H2 p z b' i', Ext no H1 H2 → At (k r) p (.leaf b' i') → Fin t c0 H2 (k r) s K y p z → Sur t c0 H2 (.node bb lo m k) v F (r :: p) z) → grd (still (.ref w) (some none) all H1) (forL (run orc (j + 20)) [45] plB (.ref w) (some none) all (nts p) (plM [(29, v0), (12, .ref w), (44, mk), (24, .ref y), (45, .i r), (46, v)]) H1 Ψ) := fun y s K H1 e1 hs hc hk => by
      refine grd_mk (still_mk (e1.lst hw)) (ih hA (wf r hr) (by decide) hs hc (e1.lst hw) .b fun z ml' H2 hm e2 hf => ?_)
      exact q z ml' H2 hm (e1.trans e2) (hk H2 p z _ _ e2 hA hf)
    cases hm with
    | a =>
      refine reads hO (up_ (Nat.le_trans (by decide) hj)) hc ?_
      exact pl_body hO hj hr h4 hv go
    | b =>
      refine reads hO (up_ (Nat.le_trans (by decide) hj)) hc ?_
      exact pl_body hO hj hr h4 hv go
theorem MV.isref {t c0 : Nat} {b : Bool} {lo : Int} {n : Nat} {k : Nat → Sh} {H : Hp} {F : Nat → Prop} {v : V} (h : MV t c0 H (.node b lo n k) v F) : ∃ a, v = .ref a := by
  cases h
  · exact ⟨_, rfl⟩
  · exact ⟨_, rfl⟩
/-- _law_place -/
theorem place (hO : NoO orc) {t c0 n e d w mk r : Nat} {p : List Nat} {S : Sh} {v : V} {F : Nat → Prop} {H : Hp} {b : Bool} {i m : Int} {Φ : V → Hp → Prop} (hn : 110 ≤ n) (hA : At S (r :: p) (.leaf b i)) (wf : Wf e d S) (he : e ≤ 4) (hv : MV t c0 H S v F) (hw : H[w]? = some (.list (nts (r :: p)))) (hz : p.length ≤ 900) (hm : H[mk]? = some (.inst 138 [(51, .i m)])) (hF : ∀ x, F x → ¬ x = mk)
    (q : ∀ y H', Ext (· = mk) H H' → H'[mk]? = some (.inst 138 [(51, .i (m + 1))]) → Sur t c0 H' S v F (r :: p) y → Φ (.ref y) H') : cal (run orc n) (.fn 489) [v, .ref w, .ref mk] H Φ := by
  obtain ⟨j, rfl⟩ := fuel hn
  refine C_go (hO _ _ _ _ (by decide) (by decide)) rfl (X_go rfl rfl ?_)
  refine som_b (ob_mk hm) rfl ?_
  refine mk_cel hO (Nat.le_add_left_of_le (by decide)) hm fun H1 e1 l1 h1 => ?_
  have hA' := hA
  cases hA' with
  | @cons bb lo mm _ k _ _ hr hA' =>
  obtain ⟨a, rfl⟩ := hv.isref
  have wm : ¬ w = mk := fun z => by rw [z, hm] at hw; cases hw
  have E := Ext.push (X := no) (H := H1) (t := [.inst 110 [(29, .ref a), (37, .i (m + 1)), (52, .none)]])
  have hv1 := hv.up e1 hF fun _ h => h
  have hw1 := e1.at hw wm fun _ _ z => nomatch z
  refine fH_nw fun H2 n2 l2 h2 => ?_
  have E := E.trans n2.e
  refine src_mk (E.lst hw1) (grd_mk (Nat.ble_eq_true_of_le (Nat.succ_le_of_lt (Nat.lt_of_le_of_lt (nts_len (p := p) ▸ hz) (by decide)))) ?_)
  refine pl_loop (j := j + 87) hO (Nat.le_add_left_of_le (by decide)) (r :: p) hA wf he (hv1.up E (fun _ _ => id) fun _ h => h) (.cell h2 (n2.e.at get_push id fun _ _ z => nomatch z) rfl) (E.lst hw1) .a fun y ml H3 hl e3 hf => ?_
  have e := e1.trans ((E.trans e3).mono fun _ h => h.elim)
  have q := q y H3 e ((E.trans e3).at h1 id fun _ _ z => nomatch z) hf
  cases hl <;> exact q
end
end N
end Mine
end
section
open PySem
set_option Elab.async false
set_option maxRecDepth 100000
namespace Mine
namespace N
/-! The evaluator once more, calls not boxed: for evaluation by the kernel. -/
noncomputable def methDB (r : Rec) (k : Mk) (v : V) (vs : List V) (H : Hp) (Φ : V → Hp → Prop) : Prop := match k with
  | .fn f => r.C (.fn f) (v :: vs) H Φ
  | k => methD r k v vs H Φ
noncomputable def callXB (r : Rec) (me : ME) (f : X) (xs : List X) (H : Hp) (Φ : V → Hp → Prop) : Prop := match f with
  | .nm c => som (lookN me c H) fun v => grd (callOK v) (evs r me xs H fun vs H => r.C v vs H Φ)
  | .attr o n => r.E me o H fun v H => som (methOf v n H) fun k => evs r me xs H fun vs H => methDB r k v vs H Φ
  | _ => False
noncomputable def stepEB (r : Rec) (me : ME) (x : X) (H : Hp) (Φ : V → Hp → Prop) : Prop := match x with
  | .call f xs => callXB r me f xs H Φ
  | x => stepE r me x H Φ
noncomputable def step1B (r : Rec) (me : ME) (s : S) (H : Hp) (Φ : Fl → ME → Hp → Prop) : Prop := match s with
  | .xcal f xs => som (fnN me f H) fun a => evs r me xs H fun vs H => r.X a vs H fun f H => (match f with
    | .next => Φ .next me H
    | .ret v => grd v.isNone (Φ .next me H)
    | .exc w => Φ (.exc w) me H
    | .cont => False)
  | .tryc f xs => grd (hasc 171 me.gl && hasc 191 me.lc) (som (fnN me f H) fun a => evs r me xs H fun vs H => r.X a vs H fun f H => (match f with
    | .next => Φ (.ret .none) me H
    | .ret v => Φ (.ret v) me H
    | .exc w => Φ (.ret (.str w)) { me with loc := [] } H
    | .cont => False))
  | s => step1 r me s H Φ
noncomputable def stepSB (r : Rec) (me : ME) (ss : List S) (H : Hp) (Φ : Fl → ME → Hp → Prop) : Prop := match ss with
  | [] => Φ .next me H
  | s :: ss => step1B r me s H fun f me H => match f with
    | .next => r.S me ss H Φ
    | .cont => Φ .cont me H
    | .ret v => Φ (.ret v) me H
    | .exc w => Φ (.exc w) me H
noncomputable def stepCB (orc : Nat → List V → Hp → Option (V × Hp)) (r : Rec) (f : V) (vs : List V) (H : Hp) (Φ : V → Hp → Prop) : Prop := match f with
  | .bi b => builtin b vs H Φ
  | .fn a => (match orc a vs H with
    | some p => Φ p.1 p.2
    | none => match lookc a funs with
      | some fi => stepX r fi vs H (retF Φ)
      | none => som (lookc a clss) fun i => alloc (.inst a []) H fun n H => r.C (.fn i) (n :: vs) H fun u H => grd u.isNone (Φ n H))
  | _ => False
noncomputable def runB (orc : Orc) : Nat → Rec
  | 0 => ⟨fun _ _ _ _ => False, fun _ _ _ _ => False, fun _ _ _ _ => False, fun _ _ _ _ => False, fun _ _ _ _ => False, fun _ _ _ => False⟩
  | n + 1 => ⟨stepEB (runB orc n), stepT (runB orc n), stepSB (runB orc n), stepCB (orc (n + 1)) (runB orc n), fun a vs H Φ => som (lookc a funs) fun fi => stepX (runB orc n) fi vs H Φ, stepL (runB orc n)⟩
theorem cal_fun : cal = fun r f vs H Φ => r.C f vs H Φ := by funext r f vs H Φ; exact cal_eq
theorem calx_fun : calx = fun r f vs H Φ => r.X f vs H Φ := by funext r f vs H Φ; exact calx_eq
theorem methDB_eq : methDB = methD := by
  funext r k v vs H Φ
  cases k with
  | fn f => exact cal_eq.symm
  | _ => rfl
theorem callXB_eq : callXB = callX := by
  funext r me f xs H Φ
  have h : @callXB = fun r me f xs H Φ => match f with
    | .nm c => som (lookN me c H) fun v => grd (callOK v) (evs r me xs H fun vs H => (fun r f vs H Φ => r.C f vs H Φ : Rec → V → List V → Hp → (V → Hp → Prop) → Prop) r v vs H Φ)
    | .attr o n => r.E me o H fun v H => som (methOf v n H) fun k => evs r me xs H fun vs H => methDB r k v vs H Φ
    | _ => False := rfl
  rw [h, methDB_eq, ← cal_fun]
  rfl
theorem stepEB_eq : stepEB = stepE := by
  funext r me x H Φ
  cases x with
  | call f xs => exact congrFun (congrFun (congrFun (congrFun (congrFun (congrFun callXB_eq r) me) f) xs) H) Φ
  | _ => rfl
theorem step1B_eq : step1B = step1 := by
  funext r me s H Φ
  cases s with
  | xcal f xs =>
    show som (fnN me f H) (fun a => evs r me xs H fun vs H => (fun r f vs H Φ => r.X f vs H Φ : Rec → Nat → List V → Hp → (Fl → Hp → Prop) → Prop) r a vs H fun f H => (match f with
      | .next => Φ .next me H
      | .ret v => grd v.isNone (Φ .next me H)
      | .exc w => Φ (.exc w) me H
      | .cont => False)) = _
    rw [← calx_fun]; rfl
  | tryc f xs =>
    show grd (hasc 171 me.gl && hasc 191 me.lc) (som (fnN me f H) fun a => evs r me xs H fun vs H => (fun r f vs H Φ => r.X f vs H Φ : Rec → Nat → List V → Hp → (Fl → Hp → Prop) → Prop) r a vs H fun f H => (match f with
      | .next => Φ (.ret .none) me H
      | .ret v => Φ (.ret v) me H
      | .exc w => Φ (.ret (.str w)) { me with loc := [] } H
      | .cont => False)) = _
    rw [← calx_fun]; rfl
  | _ => rfl
theorem stepSB_eq : stepSB = stepS := by
  funext r me ss H Φ
  cases ss with
  | nil => rfl
  | cons s ss =>
    unfold stepSB stepS
    rw [step1B_eq] <;> rfl
theorem stepCB_eq : stepCB = stepC := by
  funext orc r f vs H Φ
  have h : @stepCB = fun orc r f vs H Φ => match f with
    | .bi b => builtin b vs H Φ
    | .fn a => (match orc a vs H with
      | some p => Φ p.1 p.2
      | none => match lookc a funs with
        | some fi => stepX r fi vs H (retF Φ)
        | none => som (lookc a clss) fun i => alloc (.inst a []) H fun n H => (fun r f vs H Φ => r.C f vs H Φ : Rec → V → List V → Hp → (V → Hp → Prop) → Prop) r (.fn i) (n :: vs) H fun u H => grd u.isNone (Φ n H))
    | _ => False := rfl
  rw [h, ← cal_fun]
  rfl
theorem run_eq (orc : Orc) : ∀ n, run orc n = runB orc n := by
  intro n
  induction n with
  | zero => rfl
  | succ n ih =>
    show (⟨stepE (run orc n), stepT (run orc n), stepS (run orc n), stepC (orc (n + 1)) (run orc n), fun a vs H Φ => som (lookc a funs) fun fi => stepX (run orc n) fi vs H Φ, stepL (run orc n)⟩ : Rec) = ⟨stepEB (runB orc n), stepT (runB orc n), stepSB (runB orc n), stepCB (orc (n + 1)) (runB orc n), fun a vs H Φ => som (lookc a funs) fun fi => stepX (runB orc n) fi vs H Φ, stepL (runB orc n)⟩
    rw [ih, stepEB_eq, stepSB_eq, stepCB_eq]
end N
end Mine
end
section
open PySem
set_option Elab.async false
set_option maxRecDepth 100000
namespace Mine
namespace N
/-- the cup, at s -/
structure CupAt (H : Hp) (k y : Nat) (s : Int) (ys : List V) : Prop where
  h : H[k]? = some (.list [.ref y, .i s])
  s0 : 0 ≤ s
  s1 : s ≤ 9000
  t : H[y]? = some (.list ys)
  ne : k ≠ y
  l : ys.length ≤ 1000
  i : ∀ v ∈ ys, ∃ c, v = .i c
noncomputable def adv (a : Nat) : Int := match Nat.beq a 508 with
  | true => 4
  | false => 7
/-- what table and line give -/
inductive RelA (a : Nat) : List V → Hp → V × Hp → Prop
  | mk {H : Hp} {k y : Nat} {s : Int} {ys : List V} (C : CupAt H k y s ys) : RelA a [.ref k] H (.bool true, H.set k (.list [.ref y, .i (s + adv a)]))
open Classical in
noncomputable def pickA (a : Nat) (vs : List V) (H : Hp) : Option (V × Hp) := if h : ∃ r, RelA a vs H r then some (choose h) else none
noncomputable def orcA : Orc := fun n a vs H => match (Nat.beq a 508 || Nat.beq a 513) && Nat.ble 80 n with
  | true => pickA a vs H
  | false => none
theorem pickA_inv {a : Nat} {vs : List V} {H : Hp} {r : V × Hp} (h : pickA a vs H = some r) : RelA a vs H r := by
  unfold pickA at h
  split at h
  · rename_i z
    cases h
    exact Classical.choose_spec z
  · cases h
theorem pickA_mk {a : Nat} {vs : List V} {H : Hp} {r : V × Hp} (h : RelA a vs H r) : ∃ r, pickA a vs H = some r ∧ RelA a vs H r := by
  refine ⟨Classical.choose ⟨r, h⟩, ?_, Classical.choose_spec ⟨r, h⟩⟩
  unfold pickA
  exact dif_pos ⟨r, h⟩
theorem noA : NoO orcA := fun i a vs H h1 h2 => by
  unfold orcA
  rw [nb_ne h1, nb_ne h2]; rfl
theorem A_go {n a : Nat} {H : Hp} {k y : Nat} {s : Int} {ys : List V} {Φ : V → Hp → Prop} (hn : Nat.ble 80 (n + 1) = true) (ha : (Nat.beq a 508 || Nat.beq a 513) = true) (C : CupAt H k y s ys) (q : ∀ H' y s ys, CupAt H k y s ys → H' = H.set k (.list [.ref y, .i (s + adv a)]) → Φ (.bool true) H') : cal (run orcA (n + 1)) (.fn a) [.ref k] H Φ := by
  obtain ⟨r, h1, h2⟩ := pickA_mk (RelA.mk (a := a) C)
  have ho : orcA (n + 1) a [.ref k] H = some r := by
    unfold orcA
    rw [ha, hn]; exact h1
  rw [cal_eq]
  show (match orcA (n + 1) a [.ref k] H with
    | some p => Φ p.1 p.2
    | none => match lookc a funs with
      | some fi => stepX (run orcA n) fi [.ref k] H (retF Φ)
      | none => som (lookc a clss) fun i => alloc (.inst a []) H fun x H => cal (run orcA n) (.fn i) (x :: [.ref k]) H fun u H => grd u.isNone (Φ x H))
  rw [ho]
  cases h2 with
  | mk C' => exact q _ _ _ _ C' rfl
/-- a body in two pieces: the second -/
noncomputable def cutF (r : Rec) (ts : List S) (Φ : Fl → ME → Hp → Prop) (f : Fl) (me : ME) (H : Hp) : Prop := match f with
  | .next => r.S me ts H Φ
  | .cont => Φ .cont me H
  | .ret v => Φ (.ret v) me H
  | .exc w => Φ (.exc w) me H
theorem S_cons {orc : Orc} {n : Nat} {s : S} {ts : List S} {Φ : Fl → ME → Hp → Prop} {me : ME} {H : Hp} : (run orc (n + 1)).S me (s :: ts) H Φ = step1 (run orc n) me s H (cutF (run orc n) ts Φ) := rfl
theorem S_app {orc : Orc} {n : Nat} {ts : List S} {Φ : Fl → ME → Hp → Prop} : ∀ (ss : List S) {me : ME} {H : Hp}, (run orc (n + 1 + ss.length)).S me (ss ++ ts) H Φ = (run orc (n + 1 + ss.length)).S me ss H (cutF (run orc (n + 1)) ts Φ) := by
  intro ss
  induction ss with
  | nil => intro me H; rfl
  | cons s ss ih =>
    intro me H
    refine (S_cons (n := n + 1 + ss.length)).trans (Eq.trans ?_ (S_cons (n := n + 1 + ss.length)).symm)
    congr 1
    funext f me H
    cases f
    · exact ih
    · rfl
    · rfl
    · rfl
noncomputable abbrev lawM (l : List (Nat × V)) : ME := ⟨l, [], f518.gl, f518.ls⟩
/-- statements 2 to 5 -/
theorem law2 (o0 : O) (zs' ys : List V) (Ψ : Fl → ME → Hp → Prop) : (runB orcA 218).S (lawM [(91, .ref 0), (8, .ref 3)]) ((f518.body.drop 1).take 4) [o0, O.list zs', O.list ys, O.list [.ref 2, .i 0]] Ψ =
  Ψ .next (lawM [(91, .ref 0), (8, .ref 3), (44, .ref 4), (20, .ref 8), (19, .ref 11)]) [o0, O.list zs', O.list ys, O.list [.ref 2, .i 0], O.inst 138 [(51, .i 3)], O.inst 110 [(29, .i 5), (37, .i 1), (52, .none)], O.inst 110 [(29, .i 5), (37, .i 2), (52, .none)], O.inst 110 [(29, .i 6), (37, .i 3), (52, .none)],
    O.list [.ref 5, .ref 6, .ref 7, .none], O.list [], O.list [], O.inst 435 [(13, .str 16), (31, .str 98), (37, .i 11), (66, .none), (35, .none), (36, .none), (78, .ref 12), (79, .i 0), (80, .ref 13), (81, .ref 14), (82, .none), (77, .bool true), (73, .ref 18), (71, .ref 19), (68, .none), (83, .none), (38, .bool false), (84, .none), (85, .bool false), (86, .bool false), (87, .bool false), (88, .bool false), (89, .bool false), (90, .ref 17)],
    O.list [], O.tup [.i 1, .i 1], O.list [], O.list [], O.list [], O.dict none [], O.list [], O.list [], O.list []] := by kernel_rfl
end N
end Mine
end
section
open PySem
set_option Elab.async false
set_option maxRecDepth 100000
namespace Mine
namespace N
theorem allN_all {f : Nat → Bool} : ∀ (r i : Nat), (∀ j, f j = true) → allN f i r = true := by
  intro r
  induction r with
  | zero => intro _ _; rfl
  | succ r ih => intro i h; exact (allN_t (h i)).trans (ih _ h)
theorem eqv_refl (S : Sh) : eqv S S = true := by
  induction S with
  | leaf b i => exact decide_eq_true rfl
  | node b lo n k ih => exact eqv_node rfl (allN_all _ _ ih)
theorem eqv_symm (S : Sh) : ∀ T, eqv S T = eqv T S := by
  induction S with
  | leaf b i =>
    intro T
    cases T with
    | leaf c j =>
      by_cases z : i = j
      · subst z; rfl
      · exact (decide_eq_false z).trans (decide_eq_false (Ne.symm z)).symm
    | node _ _ _ _ => rfl
  | node b lo n k ih =>
    intro T
    cases T with
    | leaf _ _ => rfl
    | node c lo' m l =>
      by_cases z : n = m
      · subst z
        have : (fun i => eqv (k i) (l i)) = fun i => eqv (l i) (k i) := funext fun i => ih i _
        exact eqv_node rfl (congrArg (fun f => allN f 0 n) this) |>.trans (eqv_node rfl rfl).symm
      · show (Nat.beq n m && _) = (Nat.beq m n && _)
        rw [nb_ne z, nb_ne (Ne.symm z)]; rfl
theorem cp_refl (S : Sh) : Cp S S := by
  induction S with
  | leaf b i => exact rfl
  | node b lo n k ih => exact ⟨rfl, fun _ => rfl, fun i _ _ => ih i⟩
section
variable {S : Sh} {p : List Nat} {c : Bool} {i j : Int}
theorem At.chg {T N : Sh} (h : At S p T) : At (chg N p S) p N := by
  induction h with
  | nil => exact .nil
  | @cons b lo n i k p T hi h ih => exact .cons hi (by rw [if_pos rfl]; exact ih)
theorem cp_chg (h : At S p (.leaf c i)) : Cp S (chg (.leaf c j) p S) ∧ Cp (chg (.leaf c j) p S) S := by
  generalize hT : Sh.leaf c i = T at h
  induction h with
  | nil => subst hT; exact ⟨rfl, rfl⟩
  | @cons b lo n i k p T hi h ih =>
    refine ⟨⟨rfl, fun _ => rfl, fun t _ _ => ?_⟩, ⟨rfl, fun _ => rfl, fun t _ _ => ?_⟩⟩
    · show Cp _ (if t = i then _ else _)
      by_cases z : t = i
      · rw [if_pos z, z]; exact (ih hT).1
      · rw [if_neg z]; exact cp_refl _
    · show Cp (if t = i then _ else _) _
      by_cases z : t = i
      · rw [if_pos z, z]; exact (ih hT).2
      · rw [if_neg z]; exact cp_refl _
theorem wf_chg (hw : 0 ≤ j ∧ j < lid c) {T : Sh} (h : At S p T) : ∀ {e d : Nat}, Wf e d S → Wf e d (chg (.leaf c j) p S) := by
  induction h with
  | nil => intro e d _; cases d <;> exact hw
  | @cons b lo n i k p T hi h ih =>
    intro e d wf
    cases d with
    | zero => exact wf.elim
    | succ d =>
      obtain ⟨m1, m2, wf⟩ := wf
      refine ⟨m1, m2, fun t ht => ?_⟩
      show Wf 3 d (if t = i then _ else _)
      by_cases z : t = i
      · rw [if_pos z]; exact ih (wf i hi)
      · rw [if_neg z]; exact wf t ht
theorem At.wf {T : Sh} (h : At S p T) : ∀ {e d : Nat}, Wf e d S → ∃ e d, Wf e d T := by
  induction h with
  | nil => exact fun w => ⟨_, _, w⟩
  | @cons b lo n i k p T hi h ih =>
    intro e d wf
    cases d with
    | zero => exact wf.elim
    | succ d => exact ih (wf.2.2 i hi)
theorem At.uniq {T U : Sh} (h : At S p T) (h' : At S p U) : T = U := by
  induction h with
  | nil => exact (h'.inv rfl)
  | cons hi h ih =>
    cases h' with
    | cons _ h' => exact ih h'
end
end N
end Mine
end
section
open PySem
set_option Elab.async false
set_option maxRecDepth 100000
namespace Mine
namespace N
noncomputable def itgs (vs : List V) : Prop := ∀ v ∈ vs, ∃ c, v = .i c
theorem cup_loop {orc : Orc} {n c : Nat} {vs : List V} {H : Hp} {Ψ : List V → ME → Hp → Prop} (hc : H[c]? = some (.list vs)) (hz : vs.length ≤ 1000) : ∀ (ws pre ys : List V) (ml : List (Nat × V)), vs = pre ++ ws → pre.length = ys.length → One 47 ml → itgs ws → itgs ys → (∀ ys' me, itgs ys' → ys'.length = vs.length → Ψ ys' me H) →
    compL (run orc (n + 20)) ⟨ml, [], [120], [47]⟩ (.bin (.Mod) (.call (.nm 120) [.nm 47]) (.bin (.Pow) (.int 10) (.int 12))) [47] [] (.ref c) (some none) vs ws ys H Ψ := by
  intro ws
  induction ws with
  | nil =>
    intro pre ys ml hv hl _ _ hy q
    exact q ys _ hy (by rw [hv, List.append_nil]; exact hl.symm)
  | cons w ws ih =>
    intro pre ys ml hv hl ho hw hy q
    obtain ⟨x, rfl⟩ := hw w (.head _)
    have hlt : ys.length < vs.length := by rw [hv, List.length_append, ← hl]; exact Nat.lt_add_of_pos_right (Nat.succ_pos _)
    refine bindX1 rfl rfl ho.put (grd_mk (Nat.ble_eq_true_of_le (Nat.le_of_lt (Nat.lt_of_lt_of_le hlt hz))) ?_)
    refine B_go ?_
    refine grd_mk (still_mk hc) (ih (pre ++ [.i x]) _ _ (by rw [hv, List.append_assoc]; rfl) (by rw [List.length_append, List.length_append, hl]; rfl) (.inr ⟨_, rfl⟩) (fun v h => hw v (.tail _ h)) (fun v h => ?_) q)
    rcases List.mem_append.mp h with h | h
    · exact hy v h
    · exact ⟨_, List.mem_singleton.mp h⟩
/-- statement 1 -/
theorem law1 {rs : List (Int × V)} {Ψ : Fl → ME → Hp → Prop} (hz : (rs.map (·.2)).length ≤ 63) (hi : itgs (rs.map (·.2))) (q : ∀ zs' ys, itgs ys → ys.length ≤ 1000 → Ψ .next (lawM [(91, .ref 0), (8, .ref 3)]) [O.rolls ((-1, .none) :: rs), O.list zs', O.list ys, O.list [.ref 2, .i 0]]) :
    (run orcA 219).S (lawM [(91, .ref 0)]) (f518.body.take 1) [O.rolls ((-1, .none) :: rs)] Ψ := by
  refine grd_mk (Nat.ble_eq_true_of_le (Nat.le_trans hz (by decide))) ?_
  generalize rs.map (·.2) = zs at hz hi
  have hl : (List.take ((fun i : Int => if i < 0 then zs.length - (-i).toNat else min i.toNat zs.length) 40 - 0) (List.drop 0 zs)).length ≤ 1000 := Nat.le_trans (List.length_take_le' _ _) (Nat.le_trans hz (by decide))
  refine fH_mk (src_mk (a := 1) rfl (grd_mk (Nat.ble_eq_true_of_le hl) ?_))
  refine cup_loop (n := 196) (c := 1) rfl hl _ [] [] [] rfl rfl (.inl rfl) (fun v h => hi v (List.mem_of_mem_take h)) (fun _ h => nomatch h) fun ys me hy hl' => ?_
  exact fH_mk (fH_mk (q _ _ hy (hl' ▸ hl)))
end N
end Mine
end
section
open PySem
set_option Elab.async false
set_option maxRecDepth 100000
namespace Mine
namespace N
/-- what the law keeps: the cup, the cells, the type, the maker -/
structure LH (s0 : List (Int × V)) (H : Hp) (b : Nat) (m : Int) (ys : List V) : Prop where
  scr : H[0]? = some (.rolls s0)
  cup : Cup H 3 2 ys b
  cel : Cells H 5
  lst : H[8]? = some (.list (cellsV 5))
  ty : Ty H 11
  mak : H[4]? = some (.inst 138 [(51, .i m)])
  len : 21 ≤ H.length
section
variable {s0 : List (Int × V)} {H H' : Hp} {b b' n : Nat} {m m' : Int} {ys : List V}
noncomputable def low (x : Nat) : Prop := x = 3 ∨ x = 4 ∨ 21 ≤ x
theorem LH.step {X : Nat → Prop} (L : LH s0 H b m ys) (e : Ext X H H') (hX : ∀ x, X x → low x) (C : Cup H' 3 2 ys b') (M : H'[4]? = some (.inst 138 [(51, .i m')])) : LH s0 H' b' m' ys := by
  have n : ∀ x, Nat.ble x 20 = true → Nat.beq x 3 = false → Nat.beq x 4 = false → ¬ X x := fun x h1 h2 h3 h => by
    rcases hX x h with rfl | rfl | h
    · cases h2
    · cases h3
    · exact absurd (Nat.le_of_ble_eq_true h1) (Nat.not_le.mpr h)
  exact ⟨e.at L.scr (n 0 rfl rfl rfl) (fun _ _ z => nomatch z), C, L.cel.up e (n 5 rfl rfl rfl) (n 6 rfl rfl rfl) (n 7 rfl rfl rfl), e.at L.lst (n 8 rfl rfl rfl) (fun _ _ z => nomatch z), L.ty.ext e (n 11 rfl rfl rfl), M, Nat.le_trans L.len e.le⟩
theorem LH.up {X : Nat → Prop} (L : LH s0 H b m ys) (e : Ext X H H') (hX : ∀ x, X x → 21 ≤ x) : LH s0 H' b m ys :=
  L.step e (fun x h => .inr (.inr (hX x h))) (L.cup.up e (fun h => absurd (hX _ h) (by decide)) (fun h => absurd (hX _ h) (by decide))) (e.at L.mak (fun h => absurd (hX _ h) (by decide)) fun _ _ z => nomatch z)
theorem LH.ext (L : LH s0 H b m ys) (e : Ext no H H') : LH s0 H' b m ys := L.up e fun _ h => h.elim
theorem LH.cp (L : LH s0 H b m ys) (e : Ext (· = 3) H H') (C : Cup H' 3 2 ys b') : LH s0 H' b' m ys :=
  L.step e (fun _ h => .inl h) C (e.at L.mak (by decide) fun _ _ z => nomatch z)
theorem LH.mkr (L : LH s0 H b m ys) (e : Ext (· = 4) H H') (M : H'[4]? = some (.inst 138 [(51, .i m')])) : LH s0 H' b m' ys :=
  L.step e (fun _ h => .inr (.inl h)) (L.cup.up e (by decide) (by decide)) M
noncomputable def itv (a b x : Nat) : Prop := a ≤ x ∧ x < b
theorem val3 {e : Nat} {S : Sh} {v : V} {G : Nat → Prop} {Φ : V → Hp → Prop} (hn : 160 ≤ n) (wf : Wf e 3 S) (he : e ≤ 4) (hs : SH H G S v) (L : LH s0 H b m ys)
    (q : ∀ v' H', MV 11 5 H' S v' (itv H.length H'.length) → Ext no H H' → LH s0 H' b m ys → Φ v' H') : cal (run orcA n) (.fn 463) [v, .ref 11, .ref 8] H Φ :=
  value noA 3 wf he hn hs L.lst fun v' H' hv e => q v' H' hv.bd e (L.ext e)
theorem eq3 {e e' : Nat} {S T : Sh} {v w : V} {F F' : Nat → Prop} {r : Bool} {Φ : V → Hp → Prop} (hn : 175 ≤ n) (wf : Wf e 3 S) (he : e ≤ 4) (wf' : Wf e' 3 T) (he' : e' ≤ 4) (cp : Cp S T) (hv : MV 11 5 H S v F) (hw : MV 11 5 H T w F') (L : LH s0 H b m ys) (hr : eqv S T = r)
    (q : ∀ H', Ext no H H' → LH s0 H' b m ys → Φ (.bool r) H') : cal (run orcA n) (.fn 229) [v, w] H Φ :=
  equal noA 3 wf wf' he he' cp hn hv hw L.cel L.ty fun H' e => hr ▸ q H' e.e (L.ext e.e)
noncomputable abbrev law5 : List (Nat × V) := [(91, .ref 0), (8, .ref 3), (44, .ref 4), (20, .ref 8), (19, .ref 11)]
/-- statements 6 to 9 -/
theorem law3 {Ψ : Fl → ME → Hp → Prop} (L : LH s0 H (b + 37) m ys) (q : ∀ v u w H' S a1 a2 a3, Wf 3 3 S → SH H' (itv 21 a1) S v → MV 11 5 H' S u (itv a1 a2) → MV 11 5 H' S w (itv a2 a3) → 21 ≤ a1 → a1 ≤ a2 → a2 ≤ a3 → a3 ≤ H'.length → LH s0 H' b m ys → Ψ .next (lawM (law5 ++ [(18, v), (29, u), (92, w)])) H') :
    (run orcA 214).S (lawM law5) ((f518.body.drop 5).take 4) H Ψ := by
  refine shape noA 3 rfl (by decide) L.cup fun v H1 S wf hs C1 e1 => ?_
  have L1 := L.cp e1 C1
  refine val3 (Nat.le_of_ble_eq_true rfl) wf (by decide) hs L1 fun u H2 hu e2 L2 => ?_
  refine copy noA 3 wf (by decide) (Nat.le_of_ble_eq_true rfl) hu L2.cel fun w H3 hw e3 => ?_
  have L3 := L2.ext e3.e
  have hu3 := hu.up e3.e (fun _ _ => id) fun _ h => h
  refine eq3 (Nat.le_of_ble_eq_true rfl) wf (by decide) wf (by decide) (cp_refl S) hu3 hw L3 (eqv_refl S) fun H4 e4 L4 => ?_
  have hs4 := hs.bd.ext ((e2.trans e3.e).trans e4)
  refine val3 (Nat.le_of_ble_eq_true rfl) wf (by decide) hs4 L4 fun z H5 hz e5 L5 => ?_
  refine eq3 (Nat.le_of_ble_eq_true rfl) wf (by decide) wf (by decide) (cp_refl S) (hw.up (e4.trans e5) (fun _ _ => id) fun _ h => h) hz L5 (eqv_refl S) fun H6 e6 L6 => ?_
  have e46 := (e4.trans e5).trans e6
  exact q v u w H6 S H1.length H2.length H3.length wf (hs4.up (e5.trans e6) (fun _ _ => id) fun x h => ⟨Nat.le_trans L.len h.1, h.2⟩) (hu3.up e46 (fun _ _ => id) fun _ h => h) (hw.bd.up e46 (fun _ _ => id) fun _ h => h) L1.len e2.le e3.e.le e46.le L6
end
end N
end Mine
end
section
open PySem
set_option Elab.async false
set_option maxRecDepth 100000
namespace Mine
namespace N
section
variable {s0 : List (Int × V)} {H H' : Hp} {b b' n : Nat} {m m' : Int} {ys : List V}
/-- statements 10, 11 -/
theorem law4 {v u w : V} {S : Sh} {a1 : Nat} {Ψ : Fl → ME → Hp → Prop} (L : LH s0 H (b + 1 + 3) m ys) (wf : Wf 3 3 S) (hs : SH H (itv 21 a1) S v)
    (q : ∀ y l z p c i j H', At S p (.leaf c i) → p.length ≤ 3 → 0 ≤ j ∧ j < lid c → SH H' no (.leaf c j) z → H'[y]? = some (.list (nts p)) → H.length ≤ y → y < H'.length → Ext (· = 3) H H' → LH s0 H' b m ys → Ψ .next (lawM (law5 ++ [(18, v), (29, u), (92, w), (12, .ref y), (93, l), (43, z)])) H') :
    (run orcA 210).S (lawM (law5 ++ [(18, v), (29, u), (92, w)])) ((f518.body.drop 9).take 2) H Ψ := by
  refine way noA wf (by decide) (by decide) (by decide) hs (fun x h z => absurd (z ▸ h.1) (by decide)) L.cup fun y p c i l H1 hA hp hl y1 y2 hy C1 e1 => ?_
  refine som_b (ob_mk get_push) rfl ?_
  have E := Ext.push (X := no) (H := H1) (t := [.tup [.ref y, l]])
  have L1 := (L.cp e1 C1).ext E
  have e2 := e1.trans (E.mono fun _ h => h.elim)
  have hl2 := hl.ext E
  have hy := E.lst hy
  have y2 := Nat.lt_of_lt_of_le y2 E.le
  generalize H1 ++ [.tup [.ref y, l]] = H2 at E L1 e2 hl2 hy y2
  have y3 : ¬ y = 3 := fun z => absurd (z ▸ Nat.le_trans L.len y1) (by decide)
  cases c with
  | false =>
    cases hl2
    refine B_go (roll noA (by decide) L1.cup (by decide) fun r H3 r0 r1 C3 e3 => ?_)
    exact q y _ (.i r) p false i r H3 hA hp ⟨r0, r1⟩ rfl (e3.at hy y3 fun _ _ z => nomatch z) y1 (Nat.lt_of_lt_of_le y2 e3.le) (e2.trans e3) (L1.cp e3 C3)
  | true =>
    obtain ⟨a, rfl, h⟩ := hl2
    refine B_go (som_mk (isi_tup h) ?_)
    refine som_b h rfl ?_
    refine roll noA (by decide) L1.cup (by decide) fun r H3 r0 r1 C3 e3 => ?_
    refine fH_new fun H4 n4 l4 h4 => ?_
    have e4 := e3.trans (n4.mono fun _ h => h.elim)
    exact q y _ _ p true i ((i + 1 + r).fmod 4) H4 hA hp ⟨Int.fmod_nonneg_of_pos _ (by decide), Int.fmod_lt_of_pos _ (by decide)⟩ ⟨_, rfl, h4⟩ (e4.at hy y3 fun _ _ z => nomatch z) y1 (Nat.lt_of_lt_of_le y2 e4.le) (e2.trans e4) ((L1.cp e3 C3).ext n4)
end
end N
end Mine
end
section
open PySem
set_option Elab.async false
set_option maxRecDepth 100000
namespace Mine
namespace N
theorem Spot.ext {H H' : Hp} {x c : Nat} {s : V} {f : V → O} (S : Spot H x s c f) (e : Ext no H H') : Spot H' x s c f := by
  cases S with
  | item t o g z => exact .item (e.tup _ _ t) (o.up e id id id) g z
  | fld t o g => exact .fld (e.tup _ _ t) (o.up e id id) g
theorem ne_mk (b : Bool) : (!(b == b)) = false := by cases b <;> rfl
section
variable {s0 : List (Int × V)} {H : Hp} {b : Nat} {m : Int} {ys : List V} {v u w l z : V} {S : Sh} {a1 a2 a3 y : Nat} {p : List Nat} {c : Bool} {i j : Int} {Ψ : Fl → ME → Hp → Prop}
noncomputable abbrev law11 (v u w l z : V) (y : Nat) : List (Nat × V) := law5 ++ [(18, v), (29, u), (92, w), (12, .ref y), (93, l), (43, z)]
/-- statement 12, at a node -/
theorem law5n {r : Nat} (L : LH s0 H b m ys) (wf : Wf 3 3 S) (hs : SH H (itv 21 a1) S v) (hu : MV 11 5 H S u (itv a1 a2)) (hw : MV 11 5 H S w (itv a2 a3)) (h1 : 21 ≤ a1) (h2 : a2 ≤ a3) (h3 : a3 ≤ y) (hA : At S (r :: p) (.leaf c i)) (hp : (r :: p).length ≤ 3) (hj : 0 ≤ j ∧ j < lid c) (hz : SH H no (.leaf c j) z) (hy : H[y]? = some (.list (nts (r :: p))))
    (q : ∀ x t H' m', SH H' (itv 21 a1) S v → MV 11 5 H' S w (itv a2 a3) → LH s0 H' b m' ys → Ψ .next (lawM (law11 v u w l z y ++ [(24, x), (94, t)])) H') :
    (run orcA 208).S (lawM (law11 v u w l z y)) ((f518.body.drop 11).take 1) H Ψ := by
  refine fH_new fun H1 e1 _ h0 => som_mk (a := true) ?_ ?_
  · show (veq H1 (.ref y) (.ref H.length)).map (!·) = _
    rw [veq_emp (e1.lst hy) h0]; rfl
  have L1 := L.ext e1
  have hF : ∀ x, itv a1 a2 x → 21 ≤ x := fun x h => Nat.le_trans h1 h.1
  have hF4 : ∀ x, itv a1 a2 x → ¬ x = 4 := fun x h z => absurd (z ▸ hF x h) (by decide)
  have hG4 : ∀ x, itv 21 a1 x → ¬ x = 4 := fun x h z => absurd (z ▸ h.1) (by decide)
  refine place noA (Nat.le_of_ble_eq_true rfl) hA wf (by decide) (hu.up e1 (fun _ _ => id) fun _ h => h) (e1.lst hy) (Nat.le_trans (Nat.le_of_succ_le hp) (show 3 ≤ 900 by decide)) L1.mak hF4 fun x H2 e2 hm2 su => ?_
  have L2 := L1.mkr e2 hm2
  have wz : Wf 3 3 (.leaf c j) := hj
  have e02 := (e1.mono fun _ h => h.elim).trans e2
  refine val3 (Nat.le_of_ble_eq_true rfl) wz (by decide) (hz.up e02 (fun _ h => h.elim) fun _ h => h) L2 fun z2 H3 hz2 e3 L3 => ?_
  cases su with
  | @mk k f s _ _ sp fc _ _ up =>
  have k1 := hF k fc
  refine write noA (Nat.le_of_ble_eq_true rfl) (sp.ext e3) fun H4 e4 h4 => ?_
  have hu4 := up H4 c j z2 ((e3.mono fun _ h => h.elim).trans e4) h4 hz2
  have L4 := L3.up e4 fun x h => h ▸ k1
  have e04 := (e02.mono fun _ => .inl).trans (((e3.mono fun _ h => h.elim).trans e4).mono fun _ => .inr) (X := fun x => x = 4 ∨ x = k)
  have nk : ∀ x, a2 ≤ x → 21 ≤ x → ¬ (x = 4 ∨ x = k) := fun x h h' z => z.elim (fun z => absurd (z ▸ h') (by decide)) fun z => Nat.not_lt.mpr h (z ▸ fc.2)
  have h12 : 21 ≤ a2 := Nat.le_trans h1 (Nat.le_trans fc.1 (Nat.le_of_lt fc.2))
  have hy4 := e04.at hy (nk y (Nat.le_trans h2 h3) (Nat.le_trans h12 (Nat.le_trans h2 h3))) fun _ _ z => nomatch z
  have hw4 := hw.up e04 (fun x h => nk x h.1 (Nat.le_trans h12 h.1)) fun _ h => h
  have hs4 := hs.up e04 (fun x h z => z.elim (hG4 x h) fun z => Nat.not_lt.mpr fc.1 (z ▸ h.2)) fun _ h => h
  have hz4 := hz.up e04 (fun _ h => h.elim) fun _ h => h
  clear sp h4 up e3 e4 hz2 e02 e04 e2 hm2 L3 L2 e1 L1 h0 hw hs hz hu hy L nk
  have wc := wf_chg hj hA wf
  have cc := cp_chg (j := j) hA
  refine changed noA (r :: p) hA wf (by decide) (Nat.le_trans hp (show 3 ≤ 900 by decide)) (Nat.le_trans (Nat.add_le_add_left (Nat.mul_le_mul_left 30 hp) 30) (show 30 + 30 * 3 ≤ 203 by decide)) hs4 (hz4.up (X := no) .refl (fun _ h => h.elim) fun _ h => h.elim) hy4 fun t H5 ht e5 => ?_
  have L5 := L4.ext e5
  refine val3 (Nat.le_of_ble_eq_true rfl) wc (by decide) ht L5 fun u2 H6 hu2 e6 L6 => ?_
  have e46 := e5.trans e6
  have hu6 := hu4.up e46 (fun _ _ => id) fun _ h => h
  have hw6 := hw4.up e46 (fun _ _ => id) fun _ h => h
  refine eq3 (Nat.le_of_ble_eq_true rfl) wc (by decide) wc (by decide) (cp_refl _) hu6 hu2 L6 (eqv_refl _) fun H7 e7 L7 => ?_
  refine eq3 (Nat.le_of_ble_eq_true rfl) wc (by decide) wf (by decide) cc.2 (hu6.up e7 (fun _ _ => id) fun _ h => h) (hw6.up e7 (fun _ _ => id) fun _ h => h) L7 (eqv_symm _ _) fun H8 e8 L8 => ?_
  have e48 := (e46.trans e7).trans e8
  refine same noA 3 wf wc (by decide) (by decide) cc.1 (Nat.le_of_ble_eq_true rfl) (hs4.ext e48) (ht.ext ((e6.trans e7).trans e8)) fun H9 n9 => ?_
  have e9 := n9.e
  have e49 := e48.trans e9
  have L9 := L8.ext e9
  refine som_mk (a := false) (congrArg some (ne_mk (eqv S (chg (.leaf c j) (r :: p) S)))) ?_
  refine place noA (Nat.le_of_ble_eq_true rfl) hA.chg wc (by decide) (hu4.up e49 (fun _ _ => id) fun _ h => h) (e49.lst hy4) (Nat.le_trans (Nat.le_of_succ_le hp) (show 3 ≤ 900 by decide)) L9.mak hF4 fun x2 HA eA hmA su => ?_
  have LA := L9.mkr eA hmA
  cases su with
  | @mk k f s b' i' sp fc hA' lf up =>
  refine read noA (Nat.le_of_ble_eq_true rfl) sp ?_
  have e4A := (e49.mono fun _ h => h.elim).trans eA
  have hz := hz4.up e4A (fun _ h => h.elim) fun _ h => h
  refine val3 (Nat.le_of_ble_eq_true rfl) wz (by decide) hz LA fun z3 HB hz3 eB LB => ?_
  have lf : LV 5 c j s := by
    cases hA'.uniq hA.chg
    exact lf
  refine eq3 (Nat.le_of_ble_eq_true rfl) wz (by decide) wz (by decide) (cp_refl _) (F := no) lf hz3 LB (eqv_refl _) fun HC eC LC => ?_
  have e4C := e4A.trans ((eB.trans eC).mono fun _ h => h.elim)
  exact q _ _ HC _ (hs4.up e4C hG4 fun _ h => h) (hw4.up e4C (fun x h z => absurd (z ▸ Nat.le_trans h12 h.1) (by decide)) fun _ h => h) LC
end
end N
end Mine
end
section
open PySem
set_option Elab.async false
set_option maxRecDepth 100000
namespace Mine
namespace N
/-- names that come later -/
noncomputable def late : List Nat := [24, 94, 39, 95, 96, 97]
noncomputable def Lc (l bs : List (Nat × V)) : Prop := ∀ c, hasc c late = false → lookc c l = lookc c bs
theorem lookc_ne {α : Type} {c d : Nat} {x : α} (h : ¬ d = c) : ∀ {l : List (Nat × α)}, lookc c (putc d x l) = lookc c l := by
  intro l
  induction l with
  | nil => exact if_neg h
  | cons p r ih =>
    rw [putc]
    by_cases z : p.1 = d
    · rw [if_pos z]
      exact (if_neg fun y => h (z.symm.trans y)).trans (if_neg fun y => h (z.symm.trans y)).symm
    · rw [if_neg z]
      show (if p.1 = c then _ else _) = if p.1 = c then _ else _
      rw [ih]
theorem hasc_ne {c d : Nat} : ∀ {l : List Nat}, hasc d l = true → hasc c l = false → ¬ d = c := by
  intro l h1 h2 z
  rw [z, h2] at h1; cases h1
section
variable {l bs : List (Nat × V)} {c x : Nat} {v : V} {H : Hp}
theorem Lc.put (h : Lc l bs) (hx : hasc x late = true) : Lc (putc x v l) bs := fun c hc => (lookc_ne (hasc_ne hx hc)).trans (h c hc)
theorem lk (h : lookc c l = some v) : lookN (lawM l) c H = some v := by
  show (match lookc c l with
    | some v => some v
    | none => (gO (hasc c f518.gl) ()).bind fun _ => lookc c globs) = some v
  rw [h]
theorem Lc.lo (h : Lc l bs) (hc : hasc c late = false) (hv : lookc c bs = some v) : lookN (lawM l) c H = some v := lk ((h c hc).trans hv)
theorem Lc.gl (h : Lc l bs) (hc : hasc c late = false) (hv : lookc c bs = none) (hg : (gO (hasc c f518.gl) ()).bind (fun _ => lookc c globs) = some v) : lookN (lawM l) c H = some v := by
  show (match lookc c l with
    | some v => some v
    | none => (gO (hasc c f518.gl) ()).bind fun _ => lookc c globs) = some v
  rw [h c hc, hv]; exact hg
end
section
variable {s0 : List (Int × V)} {H : Hp} {b : Nat} {m : Int} {ys : List V} {v u w l z : V} {S : Sh} {a1 a2 a3 y : Nat} {ml : List (Nat × V)} {Ψ : Fl → ME → Hp → Prop}
/-- statements 13, 14 -/
theorem law6 (hl : Lc ml (law11 v u w l z y)) (L : LH s0 H (b + 17) m ys) (wf : Wf 3 3 S) (hs : SH H (itv 21 a1) S v) (hw : MV 11 5 H S w (itv a2 a3)) (h1 : 21 ≤ a2)
    (q : ∀ o T H', Wf 3 2 T → SH H' (21 ≤ ·) T o → SH H' (itv 21 a1) S v → MV 11 5 H' S w (itv a2 a3) → LH s0 H' b m ys → Ψ .next (lawM (putc 39 o ml)) H') :
    (run orcA 207).S (lawM ml) ((f518.body.drop 12).take 2) H Ψ := by
  refine som_mk (hl.gl rfl rfl rfl) (som_mk (hl.lo rfl rfl) (som_mk (hl.gl rfl rfl rfl) (som_mk (hl.lo rfl rfl) (som_mk (hl.lo rfl rfl) (som_mk (hl.lo rfl rfl) ?_)))))
  refine val3 (Nat.le_of_ble_eq_true rfl) wf (by decide) hs L fun u2 H1 hu2 e1 L1 => ?_
  refine eq3 (Nat.le_of_ble_eq_true rfl) wf (by decide) wf (by decide) (cp_refl _) (hw.up e1 (fun _ _ => id) fun _ h => h) hu2 L1 (eqv_refl _) fun H2 e2 L2 => ?_
  refine som_mk (a := true) rfl (som_mk (hl.gl rfl rfl rfl) (som_mk (hl.lo rfl rfl) ?_))
  refine shape noA 2 rfl (by decide) L2.cup fun o H3 T wT hT C3 e3 => ?_
  have L3 := L2.cp e3 C3
  have e := ((e1.trans e2).mono (fun _ h => h.elim)).trans e3
  exact q o T H3 wT (hT.up (X := no) .refl (fun _ _ => id) fun x h => Nat.le_trans L2.len h) (hs.up e (fun x h z => absurd (z ▸ h.1) (by decide)) fun _ h => h) (hw.up e (fun x h z => absurd (z ▸ Nat.le_trans h1 h.1) (by decide)) fun _ h => h) L3
end
end N
end Mine
end
section
open PySem
set_option Elab.async false
set_option maxRecDepth 100000
namespace Mine
namespace N
section
variable {s0 : List (Int × V)} {H : Hp} {b : Nat} {m : Int} {ys : List V} {v u w l z : V} {S : Sh} {a1 a2 a3 y : Nat} {ml : List (Nat × V)} {Ψ : Fl → ME → Hp → Prop}
theorem isi_tp {H : Hp} {a : Nat} {xs : List V} (h : H[a]? = some (.tup xs)) : isi (.ref a) (.bi .tuple) H = some true := by
  show ((H[a]?.bind O.tup?).map fun _ => true) = some true
  rw [h]; rfl
/-- statement 15 -/
theorem law7 (hl : Lc ml (law11 v u w l z y)) (L : LH s0 H b m ys) (wf : Wf 3 3 S) (hs : SH H (itv 21 a1) S v) (hw : MV 11 5 H S w (itv a2 a3))
    (q : ∀ ml' H', Lc ml' (law11 v u w l z y) → lookc 39 ml' = lookc 39 ml → LH s0 H' b m ys → Ext no H H' → Ψ .next (lawM ml') H') :
    (run orcA 205).S (lawM ml) ((f518.body.drop 14).take 1) H Ψ := by
  refine som_mk (hl.gl rfl rfl rfl) (som_mk (hl.lo rfl rfl) (som_mk (hl.gl rfl rfl rfl) ?_))
  have q0 := q ml H hl rfl L .refl
  cases S with
  | leaf c i =>
    cases c with
    | false =>
      cases hs
      exact B_go q0
    | true =>
      obtain ⟨a, rfl, h⟩ := hs
      refine B_go (som_mk (isi_tp h) ?_)
      refine som_mk (a := true) rfl (som_mk (hl.lo rfl rfl) ?_)
      exact som_b h rfl q0
  | node c lo n k =>
    have h4 := wf.le (by decide)
    have wf' := wf
    obtain ⟨m1, m2, wk⟩ := wf'
    cases hs with
    | @mk a e vs s hk =>
    cases c with
    | false =>
      refine B_go (som_mk (isi_tp s.t) ?_)
      refine som_mk (a := true) rfl (som_mk (hl.lo rfl rfl) ?_)
      exact som_b s.t rfl q0
    | true =>
      clear q0
      refine B_go (som_mk (isi_tp s.t) ?_)
      refine som_mk (a := true) rfl (som_mk (hl.lo rfl rfl) ?_)
      refine som_b s.t rfl ?_
      refine som_mk (hl.lo rfl rfl) (som_b s.t rfl ?_)
      refine som_mk (hl.lo rfl rfl) (som_b s.t rfl ?_)
      refine som_mk (hl.lo rfl rfl) (som_b s.t rfl ?_)
      have x0 := List.getElem?_eq_getElem m1
      have hz : Nat.ble (vs.length + 1) 1000 = true := Nat.ble_eq_true_of_le (Nat.le_trans (Nat.succ_le_succ h4) (by decide))
      refine som_b s.l (at_mk (i := 0) x0 (by decide)) (fH_nw fun H1 n1 _ p1 => ?_)
      refine som_mk (n1.e.lst s.l) (som_mk (ob_mk p1) (grd_mk hz (fH_nw fun H2 n2 _ p2 => fH_nw fun H3 n3 _ p3 => ?_)))
      have e3 := (n1.e.trans n2.e).trans n3.e
      have hl1 := hl.put (x := 95) (v := .ref H2.length) rfl
      refine som_mk (hl1.lo rfl rfl) (som_b (e3.tup _ _ s.t) rfl ?_)
      refine som_mk (hl1.lo rfl rfl) (som_b (e3.tup _ _ s.t) rfl ?_)
      refine fH_nw fun H4 n4 _ p4 => ?_
      have hl2 := hl1.put (x := 96) (v := .ref H3.length) rfl
      have e4 := e3.trans n4.e
      have L4 := L.ext e4
      have g96 : lookc 96 (putc 96 (.ref H3.length) (putc 95 (.ref H2.length) ml)) = some (.ref H3.length) := lookc_self
      have g95 : lookc 95 (putc 96 (.ref H3.length) (putc 95 (.ref H2.length) ml)) = some (.ref H2.length) := (lookc_ne (by decide)).trans lookc_self
      have g39 : lookc 39 (putc 96 (.ref H3.length) (putc 95 (.ref H2.length) ml)) = lookc 39 ml := (lookc_ne (by decide)).trans (lookc_ne (by decide))
      refine som_mk (hl2.gl rfl rfl rfl) (som_mk (hl2.lo rfl rfl) (som_mk (hl2.gl rfl rfl rfl) (som_mk (lk g95) (som_mk (hl2.lo rfl rfl) (som_mk (hl2.lo rfl rfl) ?_)))))
      have hk4 := fun i x h => (hk i x h).ext e4
      have wl : Wf 4 3 (.node true (lo + 1) (vs.length + 1) fun i => if i < vs.length then k i else k 0) := ⟨Nat.succ_le_succ (Nat.zero_le _), Nat.succ_le_succ m2, fun i _ => by
        show Wf 3 2 (if i < vs.length then _ else _)
        by_cases z : i < vs.length
        · rw [if_pos z]; exact wk i z
        · rw [if_neg z]; exact wk 0 m1⟩
      have sl : SH H4 (21 ≤ ·) (.node true (lo + 1) (vs.length + 1) fun i => if i < vs.length then k i else k 0) (.ref H2.length) := by
        have hll : (vs ++ [vs[0]]).length = vs.length + 1 := List.length_append
        refine hll ▸ .mk (c := H1.length) ⟨n4.e.tup _ _ p3, (n3.e.trans n4.e).lst p2, Nat.le_trans L.len n1.e.le⟩ fun i x hi => ?_
        show SH _ _ (if i < vs.length then _ else _) _
        by_cases z : i < vs.length
        · rw [if_pos z]
          rw [List.getElem?_append_left z] at hi
          exact (hk4 i x hi).up (X := no) .refl (fun _ _ => id) fun _ h => h.1
        · rw [if_neg z]
          rw [List.getElem?_append_right (Nat.not_lt.mp z)] at hi
          have : x = vs[0] := List.mem_singleton.mp (List.mem_of_getElem? hi)
          rw [this]
          exact (hk4 0 _ x0).up (X := no) .refl (fun _ _ => id) fun _ h => h.1
      refine val3 (Nat.le_of_ble_eq_true rfl) wl (by decide) sl L4 fun u1 H5 hu1 e5 L5 => ?_
      have nl : eqv (.node true lo vs.length k) (.node true (lo + 1) (vs.length + 1) fun i => if i < vs.length then k i else k 0) = false := by
        show (Nat.beq vs.length (vs.length + 1) && _) = false
        rw [nb_ne (Nat.ne_of_lt (Nat.lt_succ_self _))]; rfl
      refine eq3 (Nat.le_of_ble_eq_true rfl) wf (by decide) wl (by decide) ⟨rfl, (fun h => nomatch h), fun i hi _ => by
        show Cp _ (if i < vs.length then _ else _)
        rw [if_pos hi]; exact cp_refl _⟩ (hw.up (e4.trans e5) (fun _ _ => id) fun _ h => h) hu1 L5 nl fun H6 e6 L6 => ?_
      have e46 := e5.trans e6
      refine som_mk (a := false) rfl (som_mk (hl2.gl rfl rfl rfl) (som_mk (hl2.lo rfl rfl) (som_mk (hl2.gl rfl rfl rfl) (som_mk (lk g96) (som_mk (hl2.lo rfl rfl) (som_mk (hl2.lo rfl rfl) ?_))))))
      have ss : SH H6 (itv 21 a1) (.node true (lo + 4) vs.length k) (.ref H3.length) := .mk (c := e) ⟨e46.tup _ _ p4, (e4.trans e46).lst s.l, s.g⟩ fun i x hi => (hk4 i x hi).ext e46
      refine val3 (Nat.le_of_ble_eq_true rfl) (show Wf 3 3 (.node true (lo + 4) vs.length k) from wf) (by decide) ss L6 fun u2 H7 hu2 e7 L7 => ?_
      have e07 := (e4.trans e46).trans e7
      refine eq3 (Nat.le_of_ble_eq_true rfl) wf (by decide) (show Wf 3 3 (.node true (lo + 4) vs.length k) from wf) (by decide) ⟨rfl, fun _ => rfl, fun i _ _ => cp_refl _⟩ (hw.up e07 (fun _ _ => id) fun _ h => h) hu2 L7 (eqv_node rfl (allN_all _ _ fun i => eqv_refl _)) fun H8 e8 L8 => ?_
      exact q _ H8 hl2 g39 L8 (e07.trans e8)
end
end N
end Mine
end
section
open PySem
set_option Elab.async false
set_option maxRecDepth 100000
namespace Mine
namespace N
section
variable {s0 : List (Int × V)} {H : Hp} {b : Nat} {m : Int} {ys : List V} {ml bs : List (Nat × V)} {Ψ : Fl → ME → Hp → Prop}
theorem Cup.at4 {k y : Nat} (C : Cup H k y ys 2000) : ∃ s, CupAt H k y s ys ∧ s + 4 ≤ 9000 := by
  obtain ⟨s, h0, h1, h2⟩ := C.cup
  exact ⟨s, ⟨h2, h0, by omega, C.txt, C.ne, C.len, C.itg⟩, by omega⟩
theorem CupAt.next {k y : Nat} {s : Int} (C : CupAt H k y s ys) (h : s + 4 ≤ 9000) : CupAt (H.set k (.list [.ref y, .i (s + adv 508)])) k y (s + adv 508) ys :=
  ⟨List.getElem?_set_self (lt_of_at C.h), Int.le_trans C.s0 (Int.le_add_of_nonneg_right (by decide)), h, by rw [List.getElem?_set_ne C.ne]; exact C.t, C.ne, C.l, C.i⟩
theorem CupAt.same {k y y' : Nat} {s s' : Int} {ys' : List V} (C : CupAt H k y s ys) (C' : CupAt H k y' s' ys') : s' = s := by
  have := C.h
  rw [C'.h] at this
  cases this; rfl
/-- statements 16 to 18 -/
theorem law8 {v u w l z o : V} {y : Nat} {T : Sh} (hl : Lc ml (law11 v u w l z y)) (h39 : lookc 39 ml = some o) (L : LH s0 H 2000 m ys) (wT : Wf 3 2 T) (hT : SH H (21 ≤ ·) T o)
    (q : ∀ me H', H'[0]? = some (.rolls s0) → Ψ (.ret (.bool true)) me H') : (run orcA 204).S (lawM ml) (f518.body.drop 15) H Ψ := by
  refine som_mk (hl.gl rfl rfl rfl) (som_mk (lk h39) (som_mk (hl.lo rfl rfl) (som_mk (hl.lo rfl rfl) ?_)))
  refine value noA 2 wT (by decide) (Nat.le_of_ble_eq_true rfl) hT L.lst fun x H1 hx e1 => ?_
  have hl := hl.put (x := 97) (v := x) rfl
  have g97 : lookc 97 (putc 97 x ml) = some x := lookc_self
  have L1 := L.ext e1
  refine som_mk (hl.gl rfl rfl rfl) (som_mk (hl.gl rfl rfl rfl) (som_mk (lk g97) ?_))
  refine copy noA 2 wT (by decide) (Nat.le_of_ble_eq_true rfl) hx L1.cel fun x' H2 hx' e2 => ?_
  refine som_mk (lk g97) ?_
  have L2 := L1.ext e2.e
  refine equal noA 2 wT wT (by decide) (by decide) (cp_refl _) (Nat.le_of_ble_eq_true rfl) hx' (hx.up e2.e (fun _ _ => id) fun _ h => h) L2.cel L2.ty fun H3 e3 => ?_
  rw [eqv_refl]
  have L3 := L2.ext e3.e
  refine som_mk (a := true) rfl (som_mk (hl.gl rfl rfl rfl) (som_mk (hl.lo rfl rfl) ?_))
  obtain ⟨s, C, hs⟩ := L3.cup.at4
  refine A_go rfl rfl C fun H4 y' s' ys' C' z => ?_
  subst z
  cases C.same C'
  refine som_mk (a := true) rfl (som_mk (hl.gl rfl rfl rfl) (som_mk (hl.lo rfl rfl) ?_))
  refine A_go rfl rfl (C'.next hs) fun H5 _ _ _ _ z => ?_
  subst z
  refine q _ _ ?_
  rw [List.getElem?_set_ne (by decide), List.getElem?_set_ne (by decide)]
  exact L3.scr
end
end N
end Mine
end
section
open PySem
set_option Elab.async false
set_option maxRecDepth 100000
namespace Mine
namespace N
theorem S_cut {orc : Orc} {N M : Nat} {bs ss ts : List S} {me : ME} {H : Hp} {Φ : Fl → ME → Hp → Prop} (hM : Nat.ble 1 M = true) (hN : Nat.beq N (M + ss.length) = true) (hb : bs = ss ++ ts) (h : (run orc N).S me ss H (cutF (run orc M) ts Φ)) : (run orc N).S me bs H Φ := by
  subst hb
  cases Nat.eq_of_beq_eq_true hN
  obtain ⟨n, rfl⟩ := fuel (Nat.le_of_ble_eq_true hM)
  exact S_app ss |>.mpr h
theorem X_ev {orc : Orc} {n a : Nat} {fi : FI} {vs : List V} {H : Hp} {Φ : Fl → Hp → Prop} (hf : lookc a funs = some fi) (q : stepX (run orc n) fi vs H Φ) : (run orc (n + 1)).X a vs H Φ := by
  show som (lookc a funs) fun fi => stepX (run orc n) fi vs H Φ
  rw [hf]; exact q
theorem cut_n {r : Rec} {ts : List S} {me : ME} {H : Hp} {Φ : Fl → ME → Hp → Prop} (h : r.S me ts H Φ) : cutF r ts Φ .next me H := h
section
variable {s0 : List (Int × V)} {H : Hp} {b : Nat} {m : Int} {ys : List V} {ml bs : List (Nat × V)} {Φ : Fl → ME → Hp → Prop}
/-- statements 13 to 18 -/
theorem lawE {v u w l z : V} {y : Nat} {S : Sh} {a1 a2 a3 : Nat} (hl : Lc ml (law11 v u w l z y)) (L : LH s0 H 2017 m ys) (wf : Wf 3 3 S) (hs : SH H (itv 21 a1) S v) (hw : MV 11 5 H S w (itv a2 a3)) (h1 : 21 ≤ a2)
    (q : ∀ me H', H'[0]? = some (.rolls s0) → Φ (.ret (.bool true)) me H') : (run orcA 207).S (lawM ml) (f518.body.drop 12) H Φ := by
  refine S_cut (M := 205) (ts := f518.body.drop 14) (ss := ((f518.body.drop 12).take 2)) rfl rfl rfl (law6 hl L wf hs hw h1 fun o T H1 wT hT hs hw L => ?_)
  refine S_cut (M := 204) (ts := f518.body.drop 15) (ss := ((f518.body.drop 14).take 1)) rfl rfl rfl (law7 (hl.put rfl) L wf hs hw fun ml H2 hl h39 L e => ?_)
  exact law8 hl (h39.trans lookc_self) L wT (hT.ext e) q
/-- statement 12, at a leaf -/
theorem law5z {v u w l z : V} {y : Nat} (hy : H[y]? = some (.list (nts []))) (q : ∀ H', Ext no H H' → Φ .next (lawM (law11 v u w l z y)) H') : (run orcA 208).S (lawM (law11 v u w l z y)) ((f518.body.drop 11).take 1) H Φ := by
  refine fH_new fun H3 e3 _ h0 => som_mk (a := false) ?_ (q H3 e3)
  show (veq H3 (.ref y) (.ref H.length)).map (!·) = _
  rw [veq_emp (e3.lst hy) h0]; rfl
/-- statements 6 to 18 -/
theorem lawD (L : LH s0 H 2058 m ys) (q : ∀ me H', H'[0]? = some (.rolls s0) → Φ (.ret (.bool true)) me H') : (run orcA 214).S (lawM law5) (f518.body.drop 5) H Φ := by
  refine S_cut (M := 210) (ts := f518.body.drop 9) (ss := ((f518.body.drop 5).take 4)) rfl rfl rfl (law3 (b := 2021) L fun v u w H1 S a1 a2 a3 wf hs hu hw b1 b2 b3 b4 L1 => ?_)
  refine S_cut (M := 208) (ts := f518.body.drop 11) (ss := ((f518.body.drop 9).take 2)) rfl rfl rfl (law4 (b := 2017) L1 wf hs fun y l z p c i j H2 hA hp hj hz hy y1 _ e2 L2 => ?_)
  have n3 : ∀ x, 21 ≤ x → ¬ x = 3 := fun x h z => absurd (z ▸ h) (by decide)
  have b12 := Nat.le_trans b1 b2
  have hs2 := hs.up e2 (fun x h => n3 x h.1) fun _ h => h
  have hu2 := hu.up e2 (fun x h => n3 x (Nat.le_trans b1 h.1)) fun _ h => h
  have hw2 := hw.up e2 (fun x h => n3 x (Nat.le_trans b12 h.1)) fun _ h => h
  refine S_cut (M := 207) (ts := f518.body.drop 12) (ss := ((f518.body.drop 11).take 1)) rfl rfl rfl ?_
  cases p with
  | nil =>
    refine law5z hy fun H3 e3 => cut_n ?_
    exact lawE (fun _ _ => rfl) (L2.ext e3) wf (hs2.ext e3) (hw2.up e3 (fun _ _ => id) fun _ h => h) b12 q
  | cons r p =>
    refine law5n L2 wf hs2 hu2 hw2 b1 b3 (Nat.le_trans b4 y1) hA hp hj hz hy fun x t H3 m' hs hw L => cut_n ?_
    have hl : Lc (law11 v u w l z y) (law11 v u w l z y) := fun _ _ => rfl
    have hl : Lc (law11 v u w l z y ++ [(24, x), (94, t)]) (law11 v u w l z y) := (hl.put (x := 24) (v := x) rfl).put (x := 94) (v := t) rfl
    exact lawE hl L wf hs hw b12 q
end
/-- the law, evaluated -/
theorem law_ev {rs : List (Int × V)} (hz : (rs.map (·.2)).length ≤ 63) (hi : itgs (rs.map (·.2))) : (run orcA 220).X 518 [.ref 0] [O.rolls ((-1, .none) :: rs)] fun fl H' => fl = .ret (.bool true) ∧ H'[0]? = some (.rolls ((-1, .none) :: rs)) := by
  refine X_ev (n := 219) (fi := f518) rfl (X_go rfl rfl ?_)
  refine S_cut (N := 219) (M := 218) (ts := f518.body.drop 1) (ss := f518.body.take 1) rfl rfl rfl (law1 hz hi fun zs' ys hy hl => cut_n ?_)
  refine S_cut (M := 214) (ts := f518.body.drop 5) (ss := ((f518.body.drop 1).take 4)) rfl rfl rfl ?_
  rw [run_eq orcA 218, law2]
  refine cut_n (lawD (m := 3) (ys := ys) (s0 := (-1, .none) :: rs) ⟨rfl, ⟨⟨0, Int.le_refl _, by decide, rfl⟩, rfl, by decide, hl, hy⟩, ⟨rfl, rfl, rfl⟩, rfl, ⟨_, rfl, rfl⟩, rfl, Nat.le_of_ble_eq_true rfl⟩ fun me H h => ⟨rfl, h⟩)
end N
end Mine
end
section
open PySem PySem.W PyProof.Rows PySem.Calls
set_option Elab.async false
set_option maxRecDepth 100000
set_option maxHeartbeats 1000000
namespace Mine
namespace N
/-- the law's context: no symbols -/
noncomputable def cA (w : World) : Cx := ⟨fun _ => 0, rfl, fun _ => ⟨by decide, by decide⟩, w, fun _ _ _ => False, fun _ _ _ h => h.elim, fun _ _ _ _ h => h.elim⟩
/-- the rolls to come -/
noncomputable def Rls (val : Nat → Int) (ys : List V) : Int → List (Int × V) → Prop
  | _, [] => True
  | s, (m, v) :: rs => (0 < m ∧ ∃ k c, v = .int k c ∧ val k + c = rollv ys s m) ∧ Rls val ys (s + 1) rs
/-- the cup as rolls -/
structure RRw (w : World) (val : Nat → Int) (b : Addr) (ys : List V) (tot : Int) (rs : List (Int × V)) (a : Addr) (es : List (Addr × Obj)) : Prop where
  at_ : ∃ s : Int, Led (cA w) [a, b] [a, b] [.list [.ref 1, .i s], .list ys] es ∧ 0 ≤ s ∧ s + rs.length = tot ∧ Rls val ys s rs
  tot : tot ≤ 9100
  len : ys.length ≤ 1000
  itg : itgs ys
theorem ro_list {c : Cx} {ρ : List Addr} {xs : List V} {a : Addr} {es : List (Addr × Obj)} (r : RO c ρ (.list xs) a es) : ∃ zs n, es = [(a, listOf zs.toArray n)] ∧ RVs c.val ρ xs zs := by
  cases r with
  | list r => exact ⟨_, _, rfl, r⟩
theorem led_two {w : World} {ρ ρ' : List Addr} {xs ys : List V} {es : List (Addr × Obj)} (l : Led (cA w) ρ ρ' [.list xs, .list ys] es) : ∃ a b e1 e2, ρ' = [a, b] ∧ es = e1 ++ e2 ∧ RO (cA w) ρ (.list xs) a e1 ∧ RO (cA w) ρ (.list ys) b e2 := by
  cases l with
  | @cons _ a e1 _ _ _ x l =>
    cases l with
    | @cons _ b e2 _ _ _ y l =>
      cases l
      exact ⟨a, b, e1, e2, rfl, by rw [List.append_nil], x, y⟩
noncomputable def cR (w : World) (val : Nat → Int) (v0 : val 0 = 0) (vb : ∀ k, -1000000 ≤ val k ∧ val k ≤ 1000000) (b : Addr) (ys : List V) (tot : Int) : Cx :=
  ⟨val, v0, vb, w, RRw w val b ys tot, fun rs a es h p hp => by
    obtain ⟨s, l, -⟩ := h.at_
    obtain ⟨_, _, e1, e2, -, rfl, x, y⟩ := led_two l
    obtain ⟨_, _, rfl, -⟩ := ro_list x
    obtain ⟨_, _, rfl, -⟩ := ro_list y
    rcases List.mem_append.mp hp with hp | hp
    · rw [List.mem_singleton.mp hp]; exact ⟨rfl, fun _ _ z => nomatch z⟩
    · rw [List.mem_singleton.mp hp]; exact ⟨rfl, fun _ _ z => nomatch z⟩, fun rs xs a es h ho => by
    obtain ⟨s, -, -, -, hr⟩ := h.at_
    cases rs with
    | nil => cases ho
    | cons p r =>
      have h1 := of_decide_eq_true (gO_inv ho).1
      have h2 := hr.1.1
      rw [h1] at h2
      exact absurd h2 (by decide)⟩
/-- the script: its list, as it is in the heap -/
structure Scr where
  l : Addr
  o : Obj
  ys : List Value
  n : Nat
  rs : List (Int × V)
  hc : o.cls = .type "list"
  hd : o.data = .seq ys.toArray n
  hf : o.isFreed = false
  hr : ∀ ρ, RVs (fun _ => 0) ρ (rs.map (·.2)) ys
/-- the law's own context: the script as it is -/
noncomputable def cL (w : World) (S : Scr) : Cx :=
  ⟨fun _ => 0, rfl, fun _ => ⟨by decide, by decide⟩, w, fun rs a es => rs = (-1, .none) :: S.rs ∧ a = S.l ∧ es = [(S.l, S.o)], fun rs a es h p hp => by
    rw [h.2.2] at hp
    rw [List.mem_singleton.mp hp]; exact ⟨S.hf, fun _ _ z => by rw [S.hd] at z; cases z⟩, fun rs xs a es h ho => by
    obtain ⟨rfl, rfl, rfl⟩ := h
    cases ho
    exact ⟨_, _, _, rfl, S.hc, S.hd, S.hr⟩⟩
theorem itgs.up {val val' : Nat → Int} (h0 : val 0 = 0) (h0' : val' 0 = 0) {ρ ρ' : List Addr} {ys : List V} {xs : List Value} (r : RVs val ρ ys xs) (h : itgs ys) : RVs val' ρ' ys xs := by
  induction r with
  | nil => exact .nil
  | @cons v x vs xs a r ih =>
    obtain ⟨c, rfl⟩ := h v (.head _)
    cases a
    refine .cons ?_ (ih fun v hv => h v (.tail _ hv))
    rw [h0, ← h0']
    exact .int 0 c _
noncomputable def orcN : Orc := fun _ _ _ _ => none
end N
end Mine
end
section
open PySem PySem.W PyProof.Rows PySem.Calls
set_option Elab.async false
set_option maxRecDepth 100000
set_option maxHeartbeats 1000000
namespace Mine
namespace N
theorem X_of {orc : Orc} {n a : Nat} {fi : FI} {vs : List V} {H : Hp} {Φ : V → Hp → Prop} (ho : orc (n + 1) a vs H = none) (hf : lookc a funs = some fi) (h : cal (run orc (n + 1)) (.fn a) vs H Φ) : (run orc (n + 1)).X a vs H (retF Φ) := by
  have h : (match orc (n + 1) a vs H with
    | some p => Φ p.1 p.2
    | none => match lookc a funs with
      | some fi => stepX (run orc n) fi vs H (retF Φ)
      | none => som (lookc a clss) fun i => alloc (.inst a []) H fun x H => cal (run orc n) (.fn i) (x :: vs) H fun u H => grd u.isNone (Φ x H)) := h.go
  rw [ho] at h
  dsimp only at h
  rw [hf] at h
  exact X_ev hf h
noncomputable def rollR (vs : List V) (H : Hp) : Option (V × Hp) := match vs with
  | [.ref k, .int 0 m] => (match H[k]? with
    | some (.rolls ((m', v) :: rs)) => if m = m' then some (v, H.set k (.rolls rs)) else none
    | _ => none)
  | _ => none
noncomputable def orcR : Orc := fun n a vs H => match Nat.beq a 453 && Nat.ble 30 n with
  | true => rollR vs H
  | false => none
theorem rollR_inv {vs : List V} {H H' : Hp} {v : V} (h : rollR vs H = some (v, H')) : ∃ k m rs, vs = [.ref k, .int 0 m] ∧ H[k]? = some (.rolls ((m, v) :: rs)) ∧ H' = H.set k (.rolls rs) := by
  unfold rollR at h
  split at h
  · rename_i k m
    split at h
    · rename_i m' u rs hk
      split at h
      · rename_i e
        cases h
        exact ⟨k, m, rs, rfl, e ▸ hk, rfl⟩
      · cases h
    · cases h
  · cases h
section
variable {mean : ExcName → Option Value} {mg mb : PySem.Str → Option Value} {w : World}
theorem sM {c : Cx} {orc : Orc} (ok : OrcOK c mean mg mb orc) (n : Nat) : SoundM c mean mg mb orc n := (sound_all ⟨c, mean, mg, mb, orc⟩ ok n).2.2.2.2.2.2
theorem okN {c : Cx} : OrcOK c mean mg mb orcN := ⟨fun _ _ _ _ _ _ _ _ _ h => (nomatch h), fun _ _ _ _ _ => rfl⟩
theorem roll_m {n : Nat} {ys : List V} {s m : Int} {xs : List Value} {ρ : List Addr} (hn : 30 ≤ n) (h0 : 0 ≤ s) (h1 : s ≤ 10000) (hl : ys.length ≤ 1000) (hi : itgs ys) (hm : 0 < m) (hx : RVs (cA w).val ρ [.ref 0, .i m] xs) :
    CtM (cA w) mean mg mb n 453 ⟨xs, []⟩ ρ [.list [.ref 1, .i s], .list ys] (retF fun v H' => v = .i (rollv ys s m) ∧ H' = [.list [.ref 1, .i (s + 1)], .list ys]) := by
  obtain ⟨j, rfl⟩ := fuel hn
  exact sM okN _ _ _ _ _ _ _ (X_of (n := j + 29) rfl rfl (roll_ev (orc := orcN) (k := 0) (y := 1) (fun _ _ _ => rfl) (Nat.le_trans (show 20 ≤ 30 by decide) (Nat.le_add_left 30 j)) rfl rfl (by decide) h0 h1 hl hi hm ⟨rfl, rfl⟩)) hx
theorem orcR_inv {n a : Nat} {vs : List V} {H H' : Hp} {v : V} (h : orcR n a vs H = some (v, H')) : a = 453 ∧ 30 ≤ n ∧ rollR vs H = some (v, H') := by
  unfold orcR at h
  split at h
  · rename_i e
    obtain ⟨e1, e2⟩ := Bool.and_eq_true_iff.mp e
    exact ⟨Nat.eq_of_beq_eq_true e1, Nat.le_of_ble_eq_true e2, h⟩
  · cases h
theorem pre_eq {a b : Addr} {ρ' : List Addr} (h : [a, b] <+: ρ') (hl : ρ'.length = 2) : ρ' = [a, b] := by
  obtain ⟨t, rfl⟩ := h
  rw [List.length_append] at hl
  have : t = [] := List.length_eq_zero_iff.mp (Nat.add_left_cancel (n := 2) (k := 0) hl)
  rw [this]; rfl
theorem okR {val : Nat → Int} {v0 : val 0 = 0} {vb : ∀ k, -1000000 ≤ val k ∧ val k ≤ 1000000} {b : Addr} {ys : List V} {tot : Int} : OrcOK (cR w val v0 vb b ys tot) mean mg mb orcR where
  init n p vs H hp := by
    have := (by decide : ∀ p ∈ clss, Nat.beq p.2 453 = false) p hp
    unfold orcR
    rw [this]; rfl
  says n a vs H v H' ρ xs Φ h hΦ hx := by
    obtain ⟨rfl, hn, h⟩ := orcR_inv h
    obtain ⟨k, m, rs, rfl, hk, rfl⟩ := rollR_inv h
    refine ct_frame fun led l => ?_
    obtain ⟨a, es, rest, ha, ro, pm, l'⟩ := l.take hk
    cases ro with
    | rolls R =>
    obtain ⟨⟨s, l1, s0, st, ⟨m0, k', c', rfl, hv⟩, hr⟩, ht, hl, hi⟩ := R
    have st' : s + 1 + (rs.length : Int) = tot := by rw [← st]; simp only [List.length_cons]; omega
    refine ⟨cA w, [a, b], _, es, rest, _, rfl, pm, l1, roll_m hn s0 (by omega) hl hi m0 ?_, ?_, ?_⟩
    · cases hx with
      | cons x hx =>
      cases x with
      | ref x =>
      rw [ha] at x; cases x
      cases hx with
      | cons x hx =>
      cases hx
      cases x
      refine .cons (.ref rfl) (.cons ?_ .nil)
      show RV _ _ _ (.int (val 0 + m) _)
      rw [v0]
      exact .int 0 m _
    · exact fun _ _ h => h
    · intro fl ρ1' H1' mu r hΨ hp l2 rv
      cases fl with
      | next => exact absurd hΨ.1 (fun z => nomatch z)
      | cont => exact hΨ.elim
      | exc _ => exact hΨ.elim
      | ret v =>
      obtain ⟨rfl, rfl⟩ := hΨ
      have e := pre_eq hp l2.length
      subst e
      have kl : k < H.length := lt_of_at hk
      obtain ⟨led', l3, pm'⟩ := l'.put (c := cR w val v0 vb b ys tot) (o := .rolls rs) (List.getElem?_set_self kl) ha (.rolls ⟨⟨s + 1, l2, by omega, st', hr⟩, ht, hl, hi⟩)
      rw [List.set_set] at l3
      refine ⟨mu, [], .ret (.int k' c'), H.set k (.rolls rs), led', (List.append_nil _).symm, hΦ, ?_, l3, pm'⟩
      cases rv with
      | ret rv =>
      cases rv with
      | int _ _ t =>
      refine .ret ?_
      have : (0 : Int) + rollv ys s m = val k' + c' := by rw [hv, Int.zero_add]
      show RV val ρ _ (.int (0 + rollv ys s m) t)
      rw [this]
      exact .int k' c' t
end
end N
end Mine
end
section
open PySem PySem.W PyProof.Rows PySem.Calls
set_option Elab.async false
set_option maxRecDepth 1000000
set_option maxHeartbeats 1000000
namespace Mine
namespace N
noncomputable def endR (v : V) (H : Hp) : Prop := match v with
  | .bool true => (match H[0]? with
    | some (O.rolls []) => True
    | _ => False)
  | _ => False
noncomputable def lineR (l d : Int) : List (Int × V) := [(50, .int 1 0), (50, .int 2 0), (50, .int 3 0), (50, .int 4 0), (50, .int 5 0), (3, .i l), (3 - l, .i d)]
noncomputable def tabR (m n : Int) : List (Int × V) := [(5, .int 1 0), (4, .i m), (3, .int 2 0), (4, .i n)]
/-- the def at a returns True, and every roll is used -/
noncomputable def evC (a : Nat) (rs : List (Int × V)) : Prop := (runB orcR 80).C (.fn a) [.ref 0] [.rolls rs] endR
theorem evC_X {a : Nat} {rs : List (Int × V)} {fi : FI} (h : evC a rs = True) (ho : orcR 80 a [.ref 0] [.rolls rs] = none) (hf : lookc a funs = some fi) : (run orcR 80).X a [.ref 0] [.rolls rs] (retF endR) := by
  have h := of_eq_true h
  unfold evC at h
  rw [← run_eq] at h
  exact X_of (n := 79) ho hf ⟨h⟩
theorem line00 : evC 513 (lineR 0 0) = True := by kernel_rfl
theorem line01 : evC 513 (lineR 0 1) = True := by kernel_rfl
theorem line02 : evC 513 (lineR 0 2) = True := by kernel_rfl
theorem line10 : evC 513 (lineR 1 0) = True := by kernel_rfl
theorem line11 : evC 513 (lineR 1 1) = True := by kernel_rfl
theorem line20 : evC 513 (lineR 2 0) = True := by kernel_rfl
theorem tab00 : evC 508 (tabR 0 0) = True := by kernel_rfl
theorem tab01 : evC 508 (tabR 0 1) = True := by kernel_rfl
theorem tab02 : evC 508 (tabR 0 2) = True := by kernel_rfl
theorem tab03 : evC 508 (tabR 0 3) = True := by kernel_rfl
theorem tab10 : evC 508 (tabR 1 0) = True := by kernel_rfl
theorem tab11 : evC 508 (tabR 1 1) = True := by kernel_rfl
theorem tab12 : evC 508 (tabR 1 2) = True := by kernel_rfl
theorem tab13 : evC 508 (tabR 1 3) = True := by kernel_rfl
theorem tab20 : evC 508 (tabR 2 0) = True := by kernel_rfl
theorem tab21 : evC 508 (tabR 2 1) = True := by kernel_rfl
theorem tab22 : evC 508 (tabR 2 2) = True := by kernel_rfl
theorem tab23 : evC 508 (tabR 2 3) = True := by kernel_rfl
theorem tab30 : evC 508 (tabR 3 0) = True := by kernel_rfl
theorem tab31 : evC 508 (tabR 3 1) = True := by kernel_rfl
theorem tab32 : evC 508 (tabR 3 2) = True := by kernel_rfl
theorem tab33 : evC 508 (tabR 3 3) = True := by kernel_rfl
theorem line_ev {l d : Int} (l0 : 0 ≤ l) (l1 : l < 3) (d0 : 0 ≤ d) (d1 : d < 3 - l) : evC 513 (lineR l d) = True := by
  have h : l = 0 ∧ d = 0 ∨ l = 0 ∧ d = 1 ∨ l = 0 ∧ d = 2 ∨ l = 1 ∧ d = 0 ∨ l = 1 ∧ d = 1 ∨ l = 2 ∧ d = 0 := by omega
  rcases h with ⟨rfl, rfl⟩ | ⟨rfl, rfl⟩ | ⟨rfl, rfl⟩ | ⟨rfl, rfl⟩ | ⟨rfl, rfl⟩ | ⟨rfl, rfl⟩
  · exact line00
  · exact line01
  · exact line02
  · exact line10
  · exact line11
  · exact line20
theorem tab_ev {m n : Int} (m0 : 0 ≤ m) (m1 : m < 4) (n0 : 0 ≤ n) (n1 : n < 4) : evC 508 (tabR m n) = True := by
  rcases lt4 m0 m1 with rfl | rfl | rfl | rfl
  · rcases lt4 n0 n1 with rfl | rfl | rfl | rfl
    · exact tab00
    · exact tab01
    · exact tab02
    · exact tab03
  · rcases lt4 n0 n1 with rfl | rfl | rfl | rfl
    · exact tab10
    · exact tab11
    · exact tab12
    · exact tab13
  · rcases lt4 n0 n1 with rfl | rfl | rfl | rfl
    · exact tab20
    · exact tab21
    · exact tab22
    · exact tab23
  · rcases lt4 n0 n1 with rfl | rfl | rfl | rfl
    · exact tab30
    · exact tab31
    · exact tab32
    · exact tab33
end N
end Mine
end
section
open PySem PySem.W PyProof.Rows PySem.Calls
set_option Elab.async false
set_option maxRecDepth 100000
set_option maxHeartbeats 1000000
namespace Mine
namespace N
theorem set4 {H : Hp} {k y : Nat} {s p o : O} (ne : k ≠ y) (hy : H[y]? = some p) : (((H.set y s).set k s).set y p).set k o = H.set k o := by
  rw [List.set_comm _ _ ne, List.set_set, List.set_set]
  have : H.set y p = H := by
    obtain ⟨h, rfl⟩ := List.getElem?_eq_some_iff.mp hy
    exact List.set_getElem_self h
  rw [this]
section
variable {mean : ExcName → Option Value} {mg mb : PySem.Str → Option Value} {w : World} {S : Scr}
theorem ref_inv {val : Nat → Int} {ρ : List Addr} {k : Nat} {xs : List Value} (h : RVs val ρ [.ref k] xs) : ∃ a, xs = [.ref a] ∧ ρ[k]? = some a := by
  cases h with
  | cons x h =>
    cases h
    cases x with
    | ref x => exact ⟨_, rfl, x⟩
theorem cup_up {val val' : Nat → Int} (h0 : val 0 = 0) (h0' : val' 0 = 0) {ρ ρ' : List Addr} {y y' : Nat} {b : Addr} {s : Int} {xs : List Value} (h : RVs val ρ [.ref y, .i s] xs) (hb : ρ[y]? = some b) (hb' : ρ'[y']? = some b) : RVs val' ρ' [.ref y', .i s] xs := by
  cases h with
  | cons x h =>
    cases x with
    | ref x =>
      rw [hb] at x; cases x
      exact .cons (.ref hb') (itgs.up h0 h0' h fun v hv => ⟨_, List.mem_singleton.mp hv⟩)
theorem endR_inv {v : V} {H : Hp} (h : endR v H) : v = .bool true ∧ ∃ t, H = .rolls [] :: t := by
  cases v with
  | bool b =>
    cases b with
    | true =>
      refine ⟨rfl, ?_⟩
      cases H with
      | nil => exact False.elim h
      | cons o t =>
        cases o with
        | rolls rs =>
          cases rs with
          | nil => exact ⟨t, rfl⟩
          | cons _ _ => exact False.elim h
        | _ => exact False.elim h
    | false => exact False.elim h
  | _ => exact False.elim h
theorem okA_step {a k y : Nat} {s tot : Int} {ys : List V} {H : Hp} {ρ : List Addr} {xs : List Value} {Φ : V → Hp → Prop} {fi : FI} {rs : List (Int × V)} {val : Nat → Int} (C : CupAt H k y s ys) (hx : RVs (cL w S).val ρ [.ref k] xs) (v0 : val 0 = 0) (vb : ∀ k, -1000000 ≤ val k ∧ val k ≤ 1000000) (hrs : Rls val ys s rs) (hlen : s + rs.length = tot) (ht : tot ≤ 9100)
    (ev : evC a rs = True) (ho : orcR 80 a [.ref 0] [.rolls rs] = none) (hf : lookc a funs = some fi) (hΦ : Φ (.bool true) (H.set k (.list [.ref y, .i tot]))) : CtM (cL w S) mean mg mb 80 a ⟨xs, []⟩ ρ H (retF Φ) := by
  refine ct_frame fun led l => ?_
  obtain ⟨b, e2, led1, hb, r2, p1, l1⟩ := l.take C.t
  obtain ⟨a', e1, led2, ha, r1, p2, l2⟩ := l1.take (k := k) (o := .list [.ref y, .i s]) (by rw [List.getElem?_set_ne (Ne.symm C.ne)]; exact C.h)
  obtain ⟨z1, n1, rfl, q1⟩ := ro_list r1
  obtain ⟨z2, n2, rfl, q2⟩ := ro_list r2
  obtain ⟨x', rfl, hx'⟩ := ref_inv hx
  rw [ha] at hx'; cases hx'
  have R : RRw w val b ys tot rs a' ([(a', listOf z1.toArray n1)] ++ ([(b, listOf z2.toArray n2)] ++ [])) := ⟨⟨s, .cons (.list (cup_up (val := (cL w S).val) (val' := (cA w).val) rfl rfl q1 hb rfl)) (.cons (.list (itgs.up (val := (cL w S).val) (val' := (cA w).val) rfl rfl q2 C.i)) .nil), C.s0, hlen, hrs⟩, ht, C.l, C.i⟩
  refine ⟨cR w val v0 vb b ys tot, [a'], [.rolls rs], _, led2, _, rfl, ?_, .cons (.rolls R) .nil, sM okR 80 a _ _ _ _ _ (evC_X ev ho hf) (.cons (.ref rfl) .nil), fun _ _ h => h, ?_⟩
  · refine p1.trans ?_
    rw [List.append_nil, List.append_nil, List.append_assoc]
    exact (p2.append_left _).trans (by rw [← List.append_assoc, ← List.append_assoc]; exact List.perm_append_comm.append_right _)
  · intro fl ρ1' H1' mu r hΨ hp l3 rv
    cases fl with
    | next => exact hΨ.elim
    | cont => exact hΨ.elim
    | exc _ => exact hΨ.elim
    | ret v =>
    obtain ⟨rfl, H1', rfl⟩ := endR_inv hΨ
    cases l3 with
    | @cons _ a'' es ρ'' _ junk x l3 =>
    have : a'' = a' := by
      obtain ⟨t, ht⟩ := hp
      cases ht; rfl
    subst this
    cases x with
    | rolls R' =>
    obtain ⟨⟨s', l4, -, st, -⟩, -, -, -⟩ := R'
    obtain ⟨a2, b2, e1, e2, hab, rfl, r1, r2⟩ := led_two l4
    cases hab
    obtain ⟨z1, n1, rfl, q1⟩ := ro_list r1
    obtain ⟨z2, n2, rfl, q2⟩ := ro_list r2
    have st : s' = tot := by rw [← st]; exact (Int.add_zero _).symm
    subst st
    have yl := lt_of_at C.t
    have kl := lt_of_at C.h
    obtain ⟨led3, l5, p3⟩ := l2.put (k := y) (o := .list ys) (by rw [List.getElem?_set_ne C.ne, List.getElem?_set_self yl]) hb (.list (itgs.up (val := (cA w).val) (val' := (cL w S).val) rfl rfl q2 C.i))
    obtain ⟨led4, l6, p4⟩ := l5.put (k := k) (o := .list [.ref y, .i s']) (by rw [List.getElem?_set_ne (Ne.symm C.ne), List.getElem?_set_self (by rw [List.length_set]; exact kl)]) ha (.list (cup_up (val := (cA w).val) (val' := (cL w S).val) rfl rfl q1 rfl hb))
    rw [set4 C.ne C.t] at l6
    refine ⟨_, junk, .ret (.bool true), _, led4, rfl, hΦ, ?_, l6, p4.trans ?_⟩
    · cases rv with
      | ret rv =>
      cases rv
      exact .ret (.bool true)
    · rw [List.append_assoc]
      exact p3.append_left _
theorem rollv_bd {ys : List V} {s m : Int} (h : 0 < m) : 0 ≤ rollv ys s m ∧ rollv ys s m < m := by
  unfold rollv
  split
  · exact ⟨Int.fmod_nonneg_of_pos _ h, Int.fmod_lt_of_pos _ h⟩
  · exact ⟨Int.fmod_nonneg_of_pos _ h, Int.fmod_lt_of_pos _ h⟩
theorem rollv_sm {ys : List V} {s m : Int} (h : 0 < m) (h' : m ≤ 50) : -1000000 ≤ rollv ys s m ∧ rollv ys s m ≤ 1000000 :=
  ⟨Int.le_trans (by decide) (rollv_bd h).1, Int.le_trans (Int.le_of_lt (rollv_bd h).2) (Int.le_trans h' (by decide))⟩
theorem sm0 : (-1000000 : Int) ≤ 0 ∧ (0 : Int) ≤ 1000000 := by decide
noncomputable def tabV (ys : List V) (s : Int) : Nat → Int
  | 1 => rollv ys s 5
  | 2 => rollv ys (s + 1 + 1) 3
  | _ => 0
noncomputable def lineV (ys : List V) (s : Int) : Nat → Int
  | 1 => rollv ys s 50
  | 2 => rollv ys (s + 1) 50
  | 3 => rollv ys (s + 1 + 1) 50
  | 4 => rollv ys (s + 1 + 1 + 1) 50
  | 5 => rollv ys (s + 1 + 1 + 1 + 1) 50
  | _ => 0
theorem tabV_sm {ys : List V} {s : Int} (k : Nat) : -1000000 ≤ tabV ys s k ∧ tabV ys s k ≤ 1000000 := by
  match k with
  | 0 => exact sm0
  | 1 => exact rollv_sm (by decide) (by decide)
  | 2 => exact rollv_sm (by decide) (by decide)
  | _ + 3 => exact sm0
theorem lineV_sm {ys : List V} {s : Int} (k : Nat) : -1000000 ≤ lineV ys s k ∧ lineV ys s k ≤ 1000000 := by
  match k with
  | 0 => exact sm0
  | 1 => exact rollv_sm (by decide) (by decide)
  | 2 => exact rollv_sm (by decide) (by decide)
  | 3 => exact rollv_sm (by decide) (by decide)
  | 4 => exact rollv_sm (by decide) (by decide)
  | 5 => exact rollv_sm (by decide) (by decide)
  | _ + 6 => exact sm0
theorem okA : OrcOK (cL w S) mean mg mb orcA where
  init n p vs H hp := noA n p.2 vs H ((by decide : ∀ p ∈ clss, p.2 ≠ 508) p hp) ((by decide : ∀ p ∈ clss, p.2 ≠ 513) p hp)
  says n a vs H v H' ρ xs Φ h hΦ hx := by
    unfold orcA at h
    split at h
    case h_2 => cases h
    rename_i e
    obtain ⟨e1, e2⟩ := Bool.and_eq_true_iff.mp e
    have hr := pickA_inv h
    generalize hp : (v, H') = p at hr
    cases hr with
    | @mk _ k y s ys C =>
    cases hp
    refine CtM.mono (Nat.le_of_ble_eq_true e2) ?_
    have t0 : s + 7 ≤ 9100 := Int.le_trans (Int.add_le_add_right C.s1 7) (by decide)
    have t1 : s + 4 ≤ 9100 := Int.le_trans (Int.add_le_add_right C.s1 4) (by decide)
    rcases Bool.or_eq_true_iff.mp e1 with e1 | e1
    · cases Nat.eq_of_beq_eq_true e1
      have b1 := rollv_bd (ys := ys) (s := s + 1) (m := 4) (by decide)
      have b2 := rollv_bd (ys := ys) (s := s + 1 + 1 + 1) (m := 4) (by decide)
      exact okA_step (rs := tabR (rollv ys (s + 1) 4) (rollv ys (s + 1 + 1 + 1) 4)) (val := tabV ys s) C hx rfl tabV_sm ⟨⟨by decide, 1, 0, rfl, Int.add_zero _⟩, ⟨by decide, 0, _, rfl, Int.zero_add _⟩, ⟨by decide, 2, 0, rfl, Int.add_zero _⟩, ⟨by decide, 0, _, rfl, Int.zero_add _⟩, trivial⟩ rfl t1 (tab_ev b1.1 b1.2 b2.1 b2.2) rfl rfl hΦ
    · cases Nat.eq_of_beq_eq_true e1
      have b1 := rollv_bd (ys := ys) (s := s + 1 + 1 + 1 + 1 + 1) (m := 3) (by decide)
      have p1 := Int.sub_pos_of_lt b1.2
      have b2 := rollv_bd (ys := ys) (s := s + 1 + 1 + 1 + 1 + 1 + 1) p1
      exact okA_step (rs := lineR (rollv ys (s + 1 + 1 + 1 + 1 + 1) 3) (rollv ys (s + 1 + 1 + 1 + 1 + 1 + 1) (3 - rollv ys (s + 1 + 1 + 1 + 1 + 1) 3))) (val := lineV ys s) C hx rfl lineV_sm ⟨⟨by decide, 1, 0, rfl, Int.add_zero _⟩, ⟨by decide, 2, 0, rfl, Int.add_zero _⟩, ⟨by decide, 3, 0, rfl, Int.add_zero _⟩, ⟨by decide, 4, 0, rfl, Int.add_zero _⟩, ⟨by decide, 5, 0, rfl, Int.add_zero _⟩, ⟨by decide, 0, _, rfl, Int.zero_add _⟩, ⟨p1, 0, _, rfl, Int.zero_add _⟩, trivial⟩ rfl t0 (line_ev b1.1 b1.2 b2.1 b2.2) rfl rfl hΦ
/-- the law's call, on the machine -/
theorem law_ct (hz : (S.rs.map (·.2)).length ≤ 63) (hi : itgs (S.rs.map (·.2))) : CtM (cL w S) mean mg mb 220 518 ⟨[.ref S.l], []⟩ [S.l] [.rolls ((-1, .none) :: S.rs)] fun fl H' => fl = .ret (.bool true) ∧ H'[0]? = some (.rolls ((-1, .none) :: S.rs)) :=
  sM okA 220 _ _ _ _ _ _ (law_ev hz hi) (.cons (.ref rfl) .nil)
end
end N
end Mine
end
section
open PySem PySem.W PyProof.Rows PySem.Calls
set_option Elab.async false
set_option maxRecDepth 100000
namespace Mine
namespace N
/-- what is no sequence stays -/
noncomputable def Kp (h h' : Heap) : Prop := ∀ b o, h.get? b = some o → ((∀ its n, o.data ≠ .seq its n) ∨ o.cls ≠ .type "list") → h'.get? b = some o
section
variable {h h' : Heap} (k : Kp h h')
include k
theorem ns_kp {a : Addr} {m : PySem.Str → Option Value} (x : h.Ns a m) : h'.Ns a m :=
  let ⟨o, es, ep, e, d, r⟩ := x; ⟨o, es, ep, k _ _ e (.inl fun _ _ z => by rw [d] at z; cases z), d, r⟩
theorem tail_kp {bmB tl : List Value} (T : OwnTailQ h bmB tl) : OwnTailQ h' bmB tl := by
  induction T with
  | base => exact .base
  | own hA hN hq _ ih => exact .own (k _ _ hA (.inl fun _ _ z => nomatch z)) (ns_kp k hN) hq ih
theorem top_kp {p : Program} {loose : List PySem.Str} {mean : ExcName → Option Value} {mg mb : PySem.Str → Option Value} (T : Top p loose mean mg mb h) : Top p loose mean mg mb h' where
  g := ns_kp k T.g
  b := ns_kp k T.b
  nolimit := let ⟨mc, a, b⟩ := T.nolimit; ⟨mc, ns_kp k a, b⟩
  nodigits := let ⟨mc, a, b⟩ := T.nodigits; ⟨mc, ns_kp k a, b⟩
  fn d hd := by
    obtain ⟨a, o, pm, code, doc, h1, h2, h3, c, oc, vs, t, e, g, dt, r⟩ := T.fn d hd
    exact ⟨a, o, pm, code, doc, h1, k _ _ h2 (.inl fun _ _ z => by rw [h3] at z; cases z), h3, c, oc, vs, t, e, k _ _ g (.inl fun _ _ z => by rw [dt] at z; cases z), dt, r⟩
  own o ho := by
    obtain ⟨C, ⟨hb, bm, N, nm, q, bs, hdct, sn, sub, ab, col, dd, k0, k1, k2, k3, k5, mN, hC, hN, hq, hT⟩, hm⟩ := T.own o ho
    exact ⟨C, ⟨hb, bm, N, nm, q, bs, hdct, sn, sub, ab, col, dd, k0, k1, k2, k3, k5, mN, k _ _ hC (.inl fun _ _ z => nomatch z), ns_kp k hN, hq, tail_kp k hT⟩, hm⟩
  const := T.const
  free := T.free
  builtins := T.builtins
  tab d hd := by
    obtain ⟨a, o, fd, c, P, h1, h2, h3, h4, ⟨o1, vs, file, tf, flags, tg, inF, text, tt, op, a1, d1, r2, r3, r4, r5, r6, b1, d2, r⟩, ⟨o2, vs2, a2, c2, d3, e2⟩, t2⟩ := T.tab d hd
    exact ⟨a, o, fd, c, P, h1, k _ _ h2 (.inl fun _ _ z => by rw [h3] at z; cases z), h3, h4, ⟨o1, vs, file, tf, flags, tg, inF, text, tt, op, k _ _ a1 (.inl fun _ _ z => by rw [d1] at z; cases z), d1, r2, r3, r4, r5, r6, k _ _ b1 (.inl fun _ _ z => by rw [d2] at z; cases z), d2, r⟩,
      ⟨o2, vs2, k _ _ a2 (.inl fun _ _ z => by rw [d3] at z; cases z), c2, d3, e2⟩, k _ _ t2 (.inl fun _ _ z => nomatch z)⟩
  bmain := let ⟨bm, ob, h1, h2, h3, h4, h5, h6⟩ := T.bmain; ⟨bm, ob, h1, h2, k _ _ h3 (.inl fun _ _ z => by rw [h6] at z; cases z), h4, h5, h6⟩
  seer hi := by
    obtain ⟨⟨mc, a, b⟩, ⟨mm, a2, b2⟩, ⟨mb, a3, b3⟩, ⟨mg, bm, ob, a4, b4, c4, d4, e4⟩⟩ := T.seer hi
    exact ⟨⟨mc, ns_kp k a, b⟩, ⟨mm, ns_kp k a2, b2⟩, ⟨mb, ns_kp k a3, b3⟩, ⟨mg, bm, ob, ns_kp k a4, b4, k _ _ c4 (.inr (by rw [d4]; decide)), d4, e4⟩⟩
end
/-- no list -/
noncomputable def noList (o : Obj) : Bool := match o.cls with
  | .type s => s != "list"
  | _ => true
theorem frag_nl (w : World) : ((hdA.heap_1_39 w.params).all fun p => noList p.2) = true := by kernel_rfl
theorem lkp_mem {a : Addr} {o : Obj} : ∀ {K : Frag}, K.lookup a = some o → (a, o) ∈ K := by
  intro K
  induction K with
  | nil => intro h; cases h
  | cons p r ih =>
    intro h
    obtain ⟨b, q⟩ := p
    rw [List.lookup_cons] at h
    split at h
    · rename_i e
      cases h
      rw [eq_of_beq e]; exact .head _
    · exact .tail _ (ih h)
theorem in_hide {w : World} {h : Heap} {l : Addr} {o : Obj} (X : (hdA.heap_1_39 w.params).In h) (hl : h.get? l = some o) (hc : o.cls = .type "list") : (hdA.heap_1_39 w.params).In (hideAll h [l]) := fun a q hq => by
  refine hideAll_get _ (X a q hq) fun hm => ?_
  cases List.mem_singleton.mp hm
  have h1 := X _ q hq
  rw [hl] at h1
  cases h1
  have h2 := List.all_eq_true.mp (frag_nl w) (_, o) (lkp_mem hq)
  have h2 : noList o = true := h2
  unfold noList at h2
  rw [hc] at h2
  exact absurd h2 (by decide)
theorem kp_hide {h : Heap} {l : Addr} {o : Obj} {its : Array Value} {n : Nat} (hl : h.get? l = some o) (hd : o.data = .seq its n) (hc : o.cls = .type "list") : Kp h (hideAll h [l]) := fun b q hq hn => by
  refine hideAll_get _ hq fun hm => ?_
  cases List.mem_singleton.mp hm
  rw [hl] at hq
  cases hq
  exact hn.elim (fun h => h _ _ hd) fun h => h hc
end N
end Mine
end
section
open PySem PySem.W PyProof.Rows PySem.Calls
set_option Elab.async false
set_option maxRecDepth 100000
set_option maxHeartbeats 1000000
namespace Mine
namespace N
noncomputable def scrR (zs : List Int) : List (Int × V) := zs.map fun i => (0, .i i)
theorem scr_snd (zs : List Int) : (scrR zs).map (·.2) = zs.map V.i := by
  unfold scrR
  rw [List.map_map]; rfl
theorem scr_rvs {vs : List Value} {zs : List Int} (h : IntsAre vs zs) (ρ : List Addr) : RVs (fun _ => 0) ρ ((scrR zs).map (·.2)) vs := by
  rw [scr_snd]
  induction h with
  | nil => exact .nil
  | cons i t h ih =>
    refine .cons ?_ ih
    have : RV (fun _ => 0) ρ (.i i) (.int (0 + i) t) := .int 0 i t
    rw [Int.zero_add] at this
    exact this
/-- the law's call from the top -/
theorem law_top {w : World} {mean : ExcName → Option Value} {mg mb : PySem.Str → Option Value} {s₁ : Shared} {l : Addr} {vs : List Value} {zs : List Int} {Q E : Value → Shared → Prop} (X : (hdA.heap_1_39 w.params).In s₁.heap) (T : TopW mean mg mb s₁.heap) (hl : s₁.heap.IsList l vs.toArray) (hi : IntsAre vs zs) (hz : zs.length ≤ 63)
    (q : ∀ s', (∀ b o, s₁.heap.get? b = some o → s'.heap.get? b = some o) → s'.gens = s₁.gens → s'.os = s₁.os → Q (.bool true) s') : wpAny (model prg w) callerA (call (.ref 518) [.ref l]) Q E s₁ := by
  obtain ⟨o, ho, hc, n, hd⟩ := hl
  have hf : o.isFreed = false := by
    obtain ⟨c, d, dt, sl⟩ := o
    cases (show dt = _ from hd); rfl
  let S : Scr := ⟨l, o, vs, n, scrR zs, hc, hd, hf, scr_rvs hi⟩
  have C := law_ct (mean := mean) (mg := mg) (mb := mb) (w := w) (S := S) (by show ((scrR zs).map (·.2)).length ≤ 63; rw [scr_snd, List.length_map]; exact hz) (fun v hv => by
    rw [show S.rs.map (·.2) = zs.map V.i from scr_snd zs] at hv
    obtain ⟨i, -, rfl⟩ := List.mem_map.mp hv
    exact ⟨i, rfl⟩)
  have r : RO (cL w S) [l] (.rolls ((-1, .none) :: S.rs)) l [(l, o)] := .rolls ⟨rfl, rfl, rfl⟩
  have L : Led (cL w S) [l] [l] [.rolls ((-1, .none) :: S.rs)] [(l, o)] := .cons r .nil
  refine C [(l, o)] L (List.nodup_cons.mpr ⟨List.not_mem_nil, List.nodup_nil⟩) (1 + claimMargin) 4 (some []) [] (hideAll s₁.heap [l]) (hideAll s₁.heap [l]) s₁.heap s₁.gens s₁.drawn s₁.toks s₁.os Q E ⟨rfl, fun _ _ e => e, trivial⟩ (fun b o e => of_hideAll _ e) (hideAll_size _ _) (fun p hp => ?_) (in_hide X ho hc) (top_kp (kp_hide ho hd hc) T) (in_hide X ho hc) (top_kp (kp_hide ho hd hc) T) (by decide) (by decide) ?_
  · cases List.mem_singleton.mp hp
    exact ⟨ho, hideAll_none _ (.head _)⟩
  · intro b r mu' h' tk' s1 s2 s3 o'
    cases b with
    | true =>
      obtain ⟨w, a, oe, d, od, tr, led', ρ', H', -, ⟨z, -⟩, -⟩ := o'
      cases z
    | false =>
      obtain ⟨fl, ρ', H', ⟨rfl, h0⟩, hp, l', nd, rv⟩ := o'
      cases rv with
      | ret rv =>
      cases rv
      have ha : ρ'[0]? = some l := by
        obtain ⟨t, rfl⟩ := hp; rfl
      obtain ⟨es, x, hm⟩ := l'.mem h0 ha
      cases x with
      | rolls x =>
      obtain ⟨-, -, rfl⟩ := x
      have hl := (s3 _ (hm _ (.head _))).1
      refine q _ (fun b o2 e => ?_) rfl rfl
      by_cases z : b = l
      · subst z
        rw [ho] at e; cases e; exact hl
      · have e : (hideAll s₁.heap [l]).get? b = some o2 := hideAll_get _ e fun hm => z (List.mem_singleton.mp hm)
        exact s1 b o2 e
theorem fin0 : PySem.Challenge.rw_xm0006_01.Holds := by
  refine Mine.hdA._proof_1_663 ?_
  intro w s₀ s₁ mg mb G Y fa o pm cd doc dV kV ho hd hcd hD hmg hg args vals as hpre hlay hrd hwl hlo
  have KX := kIn_of Y
  refine Ground.open G ?_
  intro T B D TE TW
  clear hd ho hcd hD Y
  have hm : mg (nm 167) = some (.ref 518) := by
    have hg := List.all_eq_true.mp (globs_ok w) _ (lookc_mem (x := 167) (v := .fn 518) rfl)
    have hg : (nsIn (hdA.heap_1_39 w.params) mainGlobals (nm 167) == some (some (.ref 518))) = true := ((Bool.and_eq_true _ _).mp hg).2
    exact mg_of KX T.g (beq_iff_eq.mp hg)
  have hfa : fa = 518 := by
    have h : some (Value.ref fa) = some (.ref 518) := hmg.symm.trans hm
    cases h; rfl
  subst hfa
  clear hm hmg
  wrow_args hpre hlay hrd hwl hlo
  rename_i hL _ _ _ hI _ hz _
  refine law_top KX T hL hI (by omega) fun s' hk hgen hos => GoodW.toG ⟨.inl ⟨.bool true, .bool true, [], rfl, raisesW_false ?_, .bool true, ?_, unshared_nil⟩, hk, hos, hgen.trans hg⟩
  · wrow_none_raised
  · wrow_post
end N
end Mine
end
theorem PySem.Challenge.cw_xm0006_01_holds : PySem.Challenge.rw_xm0006_01.Holds :=
  Mine.N.fin0
