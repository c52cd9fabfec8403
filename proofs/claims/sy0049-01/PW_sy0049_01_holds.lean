import PyProof.Rows.All
import Wide.All
import OpenK.AllK
import Wide.FinOn
import KE.KAnyBase
import KE.KListMore
import KE.KCat
import KE.RegLcTurns
import KE.KLcFree
import KE.KDictSum
import KE.KExtendNil
import KE.KTurns
import KE.KLcPair
import KE.KxAdd
import KE.KTops
import KE.KTryDeep
import PySem.Challenge.RW_sy0049_01
open PySem PySem.W PyProof.Rows PySem.Calls
set_option Elab.async false
name_quick tw6936260988540860943 for PySem.W.S.findZ by PySem.W.S.findZ_eq
name_quick tw17979791207123558053 for PySem.W.S.findZ by PySem.W.S.findZ_eq
name_quick tw915109918078462734 for PySem.W.S.findZ by PySem.W.S.findZ_eq
name_quick tw9940408364173360803 for PySem.W.S.findZ by PySem.W.S.findZ_eq
name_quick tw15236012663528867214 for PySem.W.S.findZ by PySem.W.S.findZ_eq
name_quick tw13215998728584607739 for PySem.W.S.findZ by PySem.W.S.findZ_eq
name_quick tw13191295725559111208 for PySem.W.S.findZ by PySem.W.S.findZ_eq
name_quick tw15273284572552504074 for PySem.W.S.findZ by PySem.W.S.findZ_eq
name_quick tw11416177751878317205 for PySem.W.S.findZ by PySem.W.S.findZ_eq
name_quick tw10572350714630814037 for PySem.W.S.findZ by PySem.W.S.findZ_eq
name_quick tw4327519365404102993 for PySem.W.S.findZ by PySem.W.S.findZ_eq
name_quick tw17111948838632640456 for PySem.W.S.findZ by PySem.W.S.findZ_eq
name_quick tw1719230996375869582 for PySem.W.S.findZ by PySem.W.S.findZ_eq
name_quick tw12150249912526168084 for PySem.W.S.findZ by PySem.W.S.findZ_eq
name_quick tw4640097943517422316 for PySem.W.S.findZ by PySem.W.S.findZ_eq
name_quick tw12284757191763014986 for PySem.W.S.findZ by PySem.W.S.findZ_eq
name_quick tw17988542015724977305 for PySem.W.S.findZ by PySem.W.S.findZ_eq
name_quick tw8075568018651887793 for PySem.W.S.findZ by PySem.W.S.findZ_eq
name_quick tw5866444793207581663 for PySem.W.S.findZ by PySem.W.S.findZ_eq
name_quick tw16878481208292783804 for PySem.W.S.findZ by PySem.W.S.findZ_eq
name_quick tw16687058600856472310 for PySem.W.S.findZ by PySem.W.S.findZ_eq
name_quick tw10064045618751647445 for PySem.W.S.findZ by PySem.W.S.findZ_eq
name_quick tw17740709273134324012 for PySem.W.S.findZ by PySem.W.S.findZ_eq
name_quick tw4729348014323659189 for PySem.W.S.findZ by PySem.W.S.findZ_eq
name_quick tw6448080314894763839 for PySem.W.S.findZ by PySem.W.S.findZ_eq
name_quick tw12692147835639963434 for PySem.W.S.findZ by PySem.W.S.findZ_eq
name_quick tw14638366451347569053 for PySem.W.S.findZ by PySem.W.S.findZ_eq
name_quick tw14979626087600564940 for PySem.W.S.findZ by PySem.W.S.findZ_eq
name_quick tw17787413788183658793 for PySem.W.S.findZ by PySem.W.S.findZ_eq
name_quick tw10030586065758793078 for PySem.W.S.findZ by PySem.W.S.findZ_eq
name_quick tw13581749221687468397 for PySem.W.S.findZ by PySem.W.S.findZ_eq
name_quick tw5853609219237828028 for PySem.W.S.findZ by PySem.W.S.findZ_eq
name_quick tw10138199336372458610 for PySem.W.S.findZ by PySem.W.S.findZ_eq
name_quick tw2674190319118857908 for PySem.W.S.findZ by PySem.W.S.findZ_eq
name_quick tw10719484529398299949 for PySem.W.S.findZ by PySem.W.S.findZ_eq
name_quick tw16648231224745350325 for PySem.W.S.findZ by PySem.W.S.findZ_eq
name_quick tw4224760802259116069 for PySem.W.S.findZ by PySem.W.S.findZ_eq
name_quick tw17679261114430710190 for PySem.W.S.findZ by PySem.W.S.findZ_eq
name_quick tw7581352650102555174 for PySem.W.S.findZ by PySem.W.S.findZ_eq
name_quick tw6127375697748050860 for PySem.W.S.findZ by PySem.W.S.findZ_eq
name_quick tw14285029430470858289 for PySem.W.S.findZ by PySem.W.S.findZ_eq
name_quick tw15278061642289888581 for PySem.W.S.findZ by PySem.W.S.findZ_eq
name_quick tw3131671291697673992 for PySem.W.S.findZ by PySem.W.S.findZ_eq
name_quick tw6550987210724342151 for PySem.W.S.findZ by PySem.W.S.findZ_eq
name_quick tw3442601649717412197 for PySem.W.S.findZ by PySem.W.S.findZ_eq
name_quick tw4748654258956052638 for PySem.W.S.findZ by PySem.W.S.findZ_eq
name_quick tw11625766737575182897 for PySem.W.S.findZ by PySem.W.S.findZ_eq
name_quick tw8753696776887207221 for PySem.W.S.findZ by PySem.W.S.findZ_eq
name_quick tw10190238754879171395 for PySem.W.S.findZ by PySem.W.S.findZ_eq
name_quick tw17100903815162463580 for PySem.W.S.findZ by PySem.W.S.findZ_eq
name_quick tw8649964590619651473 for PySem.W.S.findZ by PySem.W.S.findZ_eq
name_quick tw17000458434675057986 for PySem.W.S.findZ by PySem.W.S.findZ_eq
name_quick tw17325535178939296128 for PySem.W.S.findZ by PySem.W.S.findZ_eq
name_quick tw17394056326795013819 for PySem.W.S.findZ by PySem.W.S.findZ_eq
name_quick tw3972328310683599613 for PySem.W.S.findZ by PySem.W.S.findZ_eq
name_quick tw16328912562034613984 for PySem.W.S.findZ by PySem.W.S.findZ_eq
name_quick tw12813236842856870187 for PySem.W.S.findZ by PySem.W.S.findZ_eq
name_quick tw13180171748994924942 for PySem.W.S.findZ by PySem.W.S.findZ_eq
name_quick tw14126943448341045398 for PySem.W.S.findZ by PySem.W.S.findZ_eq
name_quick tw16846860572762119324 for PySem.W.S.findZ by PySem.W.S.findZ_eq
name_quick tw3891137856419664920 for PySem.W.S.findZ by PySem.W.S.findZ_eq
name_quick tw5529568453561195837 for PySem.W.S.findZ by PySem.W.S.findZ_eq
name_quick tw17026713947507217902 for PySem.W.S.findZ by PySem.W.S.findZ_eq
name_quick tw7619357645376055252 for PySem.W.S.findZ by PySem.W.S.findZ_eq
name_quick tw7299951869573292228 for PySem.W.S.findZ by PySem.W.S.findZ_eq
name_quick tw1702518465993881591 for PySem.W.S.findZ by PySem.W.S.findZ_eq
name_quick tw17827458813498177553 for PySem.W.S.findZ by PySem.W.S.findZ_eq
name_quick tw7009043117176579089 for PySem.W.S.findZ by PySem.W.S.findZ_eq
name_quick tw11566699232636054958 for PySem.W.S.findZ by PySem.W.S.findZ_eq
name_quick tw9236875199018929784 for PySem.W.S.findZ by PySem.W.S.findZ_eq
name_quick tw3264259588550801142 for PySem.W.S.findZ by PySem.W.S.findZ_eq
name_quick tw11108263761283441063 for PySem.W.S.findZ by PySem.W.S.findZ_eq
name_quick tw18126140380344562322 for PySem.W.S.findZ by PySem.W.S.findZ_eq
name_quick tw15112985482279097393 for PySem.W.S.findZ by PySem.W.S.findZ_eq
name_quick tw6434265647005701932 for PySem.W.S.findZ by PySem.W.S.findZ_eq
name_quick tw930746551332336609 for PySem.W.S.findZ by PySem.W.S.findZ_eq
name_quick tw8704618095886561957 for PySem.W.S.findZ by PySem.W.S.findZ_eq
name_quick tw13016732220969518872 for PySem.W.S.findZ by PySem.W.S.findZ_eq
name_quick tw12809422525583811893 for PySem.W.S.findZ by PySem.W.S.findZ_eq
name_quick tw7783732958741208154 for PySem.W.S.findZ by PySem.W.S.findZ_eq
name_quick tw14714103240675001986 for PySem.W.S.findZ by PySem.W.S.findZ_eq
name_quick tw14934708107589980039 for PySem.W.S.findZ by PySem.W.S.findZ_eq
name_quick tw10819683100428557426 for PySem.W.S.findZ by PySem.W.S.findZ_eq
name_quick tw1393629259489396696 for PySem.W.S.findZ by PySem.W.S.findZ_eq
name_quick tw151948405760981731 for PySem.W.S.findZ by PySem.W.S.findZ_eq
name_quick tw6817277305950994716 for PySem.W.S.findZ by PySem.W.S.findZ_eq
name_quick tw8172093975534723114 for PySem.W.S.findZ by PySem.W.S.findZ_eq
name_quick tw16741492637210864865 for PySem.W.S.findZ by PySem.W.S.findZ_eq
name_quick tw10833955939284561965 for PySem.W.S.findZ by PySem.W.S.findZ_eq
name_quick tw1536587703002861866 for PySem.W.S.findZ by PySem.W.S.findZ_eq
name_quick tw282004115355043989 for PySem.W.S.findZ by PySem.W.S.findZ_eq
name_quick tw16145008321745377990 for PySem.W.S.findZ by PySem.W.S.findZ_eq
name_quick tw4075660801711882420 for PySem.W.S.findZ by PySem.W.S.findZ_eq
name_quick tw4904739604578439355 for PySem.W.S.findZ by PySem.W.S.findZ_eq
name_quick tw11013792430000457035 for PySem.W.S.findZ by PySem.W.S.findZ_eq
name_quick tw17730448691065144110 for PySem.W.S.findZ by PySem.W.S.findZ_eq
name_quick tw12329403913580668285 for PySem.W.S.findZ by PySem.W.S.findZ_eq
name_quick tw12635297910168745909 for PySem.W.S.findZ by PySem.W.S.findZ_eq
name_quick tw13900631225919944168 for PySem.W.S.findZ by PySem.W.S.findZ_eq
name_quick tw7344376507651311505 for PySem.W.S.findZ by PySem.W.S.findZ_eq
name_quick tw12224578244612797663 for PySem.W.S.findZ by PySem.W.S.findZ_eq
name_quick tw3424931102881643321 for PySem.W.S.findZ by PySem.W.S.findZ_eq
name_quick tw4658958612460137192 for PySem.W.S.findZ by PySem.W.S.findZ_eq
name_quick tw8400853705098224536 for PySem.W.S.findZ by PySem.W.S.findZ_eq
name_quick tw2627984346626558326 for PySem.W.S.findZ by PySem.W.S.findZ_eq
name_quick tw4299136966843209011 for PySem.W.S.findZ by PySem.W.S.findZ_eq
name_quick tw18345786424863182364 for PySem.W.S.findZ by PySem.W.S.findZ_eq
name_quick tw11328821685186248670 for PySem.W.S.findZ by PySem.W.S.findZ_eq
name_quick tw14386061602966655976 for PySem.W.S.findZ by PySem.W.S.findZ_eq
name_quick tw9285146279643344392 for PySem.W.S.findZ by PySem.W.S.findZ_eq
name_quick tw1377046205977697930 for PySem.W.S.findZ by PySem.W.S.findZ_eq
name_quick tw17719373434677690450 for PySem.W.S.findZ by PySem.W.S.findZ_eq
name_quick tw6589095468515690095 for PySem.W.S.findZ by PySem.W.S.findZ_eq
name_quick tw18416463498863911781 for PySem.W.S.findZ by PySem.W.S.findZ_eq
name_quick tw2370070277545300124 for PySem.W.S.findZ by PySem.W.S.findZ_eq
name_quick tw11939915149646268982 for PySem.W.S.findZ by PySem.W.S.findZ_eq
name_quick tw9458956999447867950 for PySem.W.S.findZ by PySem.W.S.findZ_eq
name_quick tw383695940523520267 for PySem.W.S.findZ by PySem.W.S.findZ_eq
name_quick tw7397068168572129948 for PySem.W.S.findZ by PySem.W.S.findZ_eq
name_quick tw3695515675974049574 for PySem.W.S.findZ by PySem.W.S.findZ_eq
name_quick tw932993149863042379 for PySem.W.S.findZ by PySem.W.S.findZ_eq
name_quick tw900395245841561262 for PySem.W.S.findZ by PySem.W.S.findZ_eq
name_quick tw16655555454665732581 for PySem.W.S.findZ by PySem.W.S.findZ_eq
name_quick tw8610040677353227653 for PySem.W.S.findZ by PySem.W.S.findZ_eq
name_quick tw3267979357774110234 for PySem.W.S.findZ by PySem.W.S.findZ_eq
name_quick tw5976474108018559520 for PySem.W.S.findZ by PySem.W.S.findZ_eq
name_quick tw17434858337260393937 for PySem.W.S.findZ by PySem.W.S.findZ_eq
name_quick tw5076957145309523181 for PySem.W.S.findZ by PySem.W.S.findZ_eq
name_quick tw6004533443673955352 for PySem.W.S.findZ by PySem.W.S.findZ_eq
name_quick tw2902314222560053993 for PySem.W.S.findZ by PySem.W.S.findZ_eq
name_quick tw17517737089405305841 for PySem.W.S.findZ by PySem.W.S.findZ_eq
name_quick tw973662469405803806 for PySem.W.S.findZ by PySem.W.S.findZ_eq
name_quick tw10470071008263537045 for PySem.W.S.findZ by PySem.W.S.findZ_eq
name_quick tw16349216596472256690 for PySem.W.S.findZ by PySem.W.S.findZ_eq
name_quick tw9219426015542480343 for PySem.W.S.findZ by PySem.W.S.findZ_eq
name_quick tw13251646731365433171 for PySem.W.S.findZ by PySem.W.S.findZ_eq
name_quick tw7229665172594901996 for PySem.W.S.findZ by PySem.W.S.findZ_eq
name_quick tw7392212959928792091 for PySem.W.S.findZ by PySem.W.S.findZ_eq
name_quick tw2504098582860672743 for PySem.W.S.findZ by PySem.W.S.findZ_eq
name_quick tw6380782515089751550 for PySem.W.S.findZ by PySem.W.S.findZ_eq
name_quick tw14981143343336467331 for PySem.W.S.findZ by PySem.W.S.findZ_eq
name_quick tw5854881644878751223 for PySem.W.S.findZ by PySem.W.S.findZ_eq
name_quick tw11817470609975844035 for PySem.W.S.findZ by PySem.W.S.findZ_eq
name_quick tw12835720964997663042 for PySem.W.S.findZ by PySem.W.S.findZ_eq
name_quick tw9787396351842916947 for PySem.W.S.findZ by PySem.W.S.findZ_eq
name_quick tw8796240567053077481 for PySem.W.S.findZ by PySem.W.S.findZ_eq
name_quick tw17280976486791472633 for PySem.W.S.findZ by PySem.W.S.findZ_eq
name_quick tw12177639751122801600 for PySem.W.S.findZ by PySem.W.S.findZ_eq
name_quick tw2401699919119007470 for PySem.W.S.findZ by PySem.W.S.findZ_eq
name_quick tw9979284746773624096 for PySem.W.S.findZ by PySem.W.S.findZ_eq
name_quick tw8860024209350480642 for PySem.W.S.findZ by PySem.W.S.findZ_eq
name_quick tw17954471519018878134 for PySem.W.S.findZ by PySem.W.S.findZ_eq
name_quick tw7140130562030077042 for PySem.W.S.findZ by PySem.W.S.findZ_eq
name_quick tw1772237422875290029 for PySem.W.S.findZ by PySem.W.S.findZ_eq
name_quick tw14952990662201256454 for PySem.W.S.findZ by PySem.W.S.findZ_eq
name_quick tw6952355047532471503 for PySem.W.S.findZ by PySem.W.S.findZ_eq
name_quick tw16643706677886111943 for PySem.W.S.findZ by PySem.W.S.findZ_eq
name_quick tw17475289236778735526 for PySem.W.S.findZ by PySem.W.S.findZ_eq
name_quick tw5268983451555188008 for PySem.W.S.findZ by PySem.W.S.findZ_eq
name_quick tw1749818173716722547 for PySem.W.S.findZ by PySem.W.S.findZ_eq
name_quick tw6909570525239066004 for PySem.W.S.findZ by PySem.W.S.findZ_eq
name_quick tw10670733350059645105 for PySem.W.S.findZ by PySem.W.S.findZ_eq
name_quick tw10181792811725400092 for PySem.W.S.findZ by PySem.W.S.findZ_eq
name_quick tw2711585505577850959 for PySem.W.S.findZ by PySem.W.S.findZ_eq
name_quick tw16942194440817826258 for PySem.W.S.findZ by PySem.W.S.findZ_eq
name_quick tw10942035263794033107 for PySem.W.S.findZ by PySem.W.S.findZ_eq
name_quick tw12981051755390344553 for PySem.W.S.findZ by PySem.W.S.findZ_eq
name_quick tw11166942722945506595 for PySem.W.S.findZ by PySem.W.S.findZ_eq
name_quick tw9281714027785469542 for PySem.W.S.findZ by PySem.W.S.findZ_eq
name_quick tw607167704815816724 for PySem.W.S.findZ by PySem.W.S.findZ_eq
name_quick tw7499937903120025604 for PySem.W.S.findZ by PySem.W.S.findZ_eq
name_quick tw10500077913531017323 for PySem.W.S.findZ by PySem.W.S.findZ_eq
name_quick tw3577408171920636059 for PySem.W.S.findZ by PySem.W.S.findZ_eq
name_quick tw117213463901210413 for PySem.W.S.findZ by PySem.W.S.findZ_eq
name_quick tw13505292571300825877 for PySem.W.S.findZ by PySem.W.S.findZ_eq
name_quick tw11420187438672877268 for PySem.W.S.findZ by PySem.W.S.findZ_eq
name_quick tw3560238982266916124 for PySem.W.S.findZ by PySem.W.S.findZ_eq
name_quick tw8017206721242287953 for PySem.W.S.findZ by PySem.W.S.findZ_eq
name_quick tw14973007898608030118 for PySem.W.S.findZ by PySem.W.S.findZ_eq
name_quick tw8620020772036689432 for PySem.W.S.findZ by PySem.W.S.findZ_eq
name_quick tw17139780236743587250 for PySem.W.S.findZ by PySem.W.S.findZ_eq
name_quick tw10352308551163946355 for PySem.W.S.findZ by PySem.W.S.findZ_eq
name_quick tw3118938333895590913 for PySem.W.S.findZ by PySem.W.S.findZ_eq
name_quick tw757081541053455785 for PySem.W.S.findZ by PySem.W.S.findZ_eq
name_quick tw347637069881736656 for PySem.W.S.findZ by PySem.W.S.findZ_eq
name_quick tw11317593695737139937 for PySem.W.S.findZ by PySem.W.S.findZ_eq
name_quick tw6580340599500149305 for PySem.W.S.findZ by PySem.W.S.findZ_eq
name_quick tw1638017585896720355 for PySem.W.S.findZ by PySem.W.S.findZ_eq
name_quick tw13871001218405608335 for PySem.W.S.findZ by PySem.W.S.findZ_eq
name_quick tw5925582254088234700 for PySem.W.S.findZ by PySem.W.S.findZ_eq
name_quick tw12898947447245864913 for PySem.W.S.findZ by PySem.W.S.findZ_eq
name_quick tw16223305294053301992 for PySem.W.S.findZ by PySem.W.S.findZ_eq
name_quick tw13987355940573415152 for PySem.W.S.findZ by PySem.W.S.findZ_eq
name_quick tw3325841961599345399 for PySem.W.S.findZ by PySem.W.S.findZ_eq
name_quick tw3953757239420563355 for PySem.W.S.findZ by PySem.W.S.findZ_eq
name_quick tw15376083050721069600 for PySem.W.S.findZ by PySem.W.S.findZ_eq
name_quick tw2759451637364818457 for PySem.W.S.findZ by PySem.W.S.findZ_eq
name_quick tw14210447440969649564 for PySem.W.S.findZ by PySem.W.S.findZ_eq
name_quick tw9504726810853072989 for PySem.W.S.findZ by PySem.W.S.findZ_eq
name_quick tw1370275717833778536 for PySem.W.S.findZ by PySem.W.S.findZ_eq
name_quick tw11519604305632133818 for PySem.W.S.findZ by PySem.W.S.findZ_eq
name_quick tw8732485361984058174 for PySem.W.S.findZ by PySem.W.S.findZ_eq
name_quick tw13925586954763233925 for PySem.W.S.findZ by PySem.W.S.findZ_eq
name_quick tw6135381517318000843 for PySem.W.S.findZ by PySem.W.S.findZ_eq
name_quick tw11462045893675790159 for PySem.W.S.findZ by PySem.W.S.findZ_eq
name_quick tw15894407043143930727 for PySem.W.S.findZ by PySem.W.S.findZ_eq
name_quick tw6929956602132211858 for PySem.W.S.findZ by PySem.W.S.findZ_eq
name_quick tw13335737130258781183 for PySem.W.S.findZ by PySem.W.S.findZ_eq
name_quick tw3362959441861295915 for PySem.W.S.findZ by PySem.W.S.findZ_eq
name_quick tw11277413387252134812 for PySem.W.S.findZ by PySem.W.S.findZ_eq
name_quick tw16406328271908756883 for PySem.W.S.findZ by PySem.W.S.findZ_eq
name_quick tw7405434945208526273 for PySem.W.S.findZ by PySem.W.S.findZ_eq
name_quick tw8987815912523675519 for PySem.W.S.findZ by PySem.W.S.findZ_eq
name_quick tw9396933662098498411 for PySem.W.S.findZ by PySem.W.S.findZ_eq
name_quick tw10379131730601215995 for PySem.W.S.findZ by PySem.W.S.findZ_eq
name_quick tw9151444980202551346 for PySem.W.S.findZ by PySem.W.S.findZ_eq
name_quick tw17300597898927385350 for PySem.W.S.findZ by PySem.W.S.findZ_eq
name_quick tw12095823642532355627 for PySem.W.S.findZ by PySem.W.S.findZ_eq
name_quick tw12172078356533094185 for PySem.W.S.findZ by PySem.W.S.findZ_eq
name_quick tw7745614565497352828 for PySem.W.S.findZ by PySem.W.S.findZ_eq
name_quick tw1258717718454355964 for PySem.W.S.findZ by PySem.W.S.findZ_eq
name_quick tw16548257151911338427 for PySem.W.S.findZ by PySem.W.S.findZ_eq
name_quick tw11994158751524154303 for PySem.W.S.findZ by PySem.W.S.findZ_eq
name_quick tw17497748084772794779 for PySem.W.S.findZ by PySem.W.S.findZ_eq
name_quick tw11186114360453789277 for PySem.W.S.findZ by PySem.W.S.findZ_eq
name_quick tw5758256569797452207 for PySem.W.S.findZ by PySem.W.S.findZ_eq
name_quick tw878741703135273975 for PySem.W.S.findZ by PySem.W.S.findZ_eq
name_quick tw17057272898397164401 for PySem.W.S.findZ by PySem.W.S.findZ_eq
name_quick tw6792406925840432001 for PySem.W.S.findZ by PySem.W.S.findZ_eq
name_quick tw12450158673883907302 for PySem.W.S.findZ by PySem.W.S.findZ_eq
name_quick tw17071476683966804577 for PySem.W.S.findZ by PySem.W.S.findZ_eq
name_quick tw6722154040420286063 for PySem.W.S.findZ by PySem.W.S.findZ_eq
name_quick tw17954736447514056666 for PySem.W.S.findZ by PySem.W.S.findZ_eq
name_quick tw7670514497116975361 for PySem.W.S.findZ by PySem.W.S.findZ_eq
name_quick tw16413264400604254196 for PySem.W.S.findZ by PySem.W.S.findZ_eq
name_quick tw10308316962582663543 for PySem.W.S.findZ by PySem.W.S.findZ_eq
name_quick tw558745408833754511 for PySem.W.S.findZ by PySem.W.S.findZ_eq
name_quick tw4275521005467322725 for PySem.W.S.findZ by PySem.W.S.findZ_eq
name_quick tw13721567128424951087 for PySem.W.S.findZ by PySem.W.S.findZ_eq
name_quick tw17015423121036801654 for PySem.W.S.findZ by PySem.W.S.findZ_eq
name_quick tw5823794197072137003 for PySem.W.S.findZ by PySem.W.S.findZ_eq
name_quick tw7198390536060210744 for PySem.W.S.findZ by PySem.W.S.findZ_eq
name_quick tw12488000419048109807 for PySem.W.S.findZ by PySem.W.S.findZ_eq
name_quick tw3636048126100218174 for PySem.W.S.findZ by PySem.W.S.findZ_eq
name_quick tw10758392820592806131 for PySem.W.S.findZ by PySem.W.S.findZ_eq
name_quick tw17000155066101142889 for PySem.W.S.findZ by PySem.W.S.findZ_eq
name_quick tw6144853644547557980 for PySem.W.S.findZ by PySem.W.S.findZ_eq
name_quick tw2334299552400917057 for PySem.W.S.findZ by PySem.W.S.findZ_eq
name_quick tw1055568401681811165 for PySem.W.S.findZ by PySem.W.S.findZ_eq
name_quick tw11277716924127702174 for PySem.W.S.findZ by PySem.W.S.findZ_eq
name_quick tw10948738476641704880 for PySem.W.S.findZ by PySem.W.S.findZ_eq
name_quick tw17172517015917474193 for PySem.W.S.findZ by PySem.W.S.findZ_eq
name_quick tw912392155897948271 for PySem.W.S.findZ by PySem.W.S.findZ_eq
name_quick tw12233582284571471492 for PySem.W.S.findZ by PySem.W.S.findZ_eq
name_quick tw17429684086410527887 for PySem.W.S.findZ by PySem.W.S.findZ_eq
name_quick tw3698559305507148144 for PySem.W.S.findZ by PySem.W.S.findZ_eq
name_quick tw17532440430192770315 for PySem.W.S.findZ by PySem.W.S.findZ_eq
name_quick tw2718901123391026995 for PySem.W.S.findZ by PySem.W.S.findZ_eq
name_quick tw10007627690174824804 for PySem.W.S.findZ by PySem.W.S.findZ_eq
name_quick tw5770868932273138760 for PySem.W.S.findZ by PySem.W.S.findZ_eq
name_quick tw4319705520415482375 for PySem.W.S.findZ by PySem.W.S.findZ_eq
name_quick tw11306939235166856333 for PySem.W.S.findZ by PySem.W.S.findZ_eq
name_quick tw8719427161674164953 for PySem.W.S.findZ by PySem.W.S.findZ_eq
name_quick tw6683783046931543321 for PySem.W.S.findZ by PySem.W.S.findZ_eq
name_quick tw17975652961387846372 for PySem.W.S.findZ by PySem.W.S.findZ_eq
name_quick tw14537914154153760125 for PySem.W.S.findZ by PySem.W.S.findZ_eq
name_quick tw1401972060568974870 for PySem.W.S.findZ by PySem.W.S.findZ_eq
name_quick tw15079194523842364033 for PySem.W.S.findZ by PySem.W.S.findZ_eq
name_quick tw3856783459128436802 for PySem.W.S.findZ by PySem.W.S.findZ_eq
name_quick tw15475462885187679331 for PySem.W.S.findZ by PySem.W.S.findZ_eq
name_quick tw721709456127091705 for PySem.W.S.findZ by PySem.W.S.findZ_eq
name_quick tw9376109419431680627 for PySem.W.S.findZ by PySem.W.S.findZ_eq
name_quick tw3105397867545767578 for PySem.W.S.findZ by PySem.W.S.findZ_eq
name_quick tw4407734736301137906 for PySem.W.S.findZ by PySem.W.S.findZ_eq
name_quick tw3766158894648301139 for PySem.W.S.findZ by PySem.W.S.findZ_eq
name_quick tw16643379632663270332 for PySem.W.S.findZ by PySem.W.S.findZ_eq
name_quick tw8537084889766193716 for PySem.W.S.findZ by PySem.W.S.findZ_eq
name_quick tw15560853006256673968 for PySem.W.S.findZ by PySem.W.S.findZ_eq
name_quick tw13559156169165276386 for PySem.W.S.findZ by PySem.W.S.findZ_eq
name_quick tw5357591511691535388 for PySem.W.S.findZ by PySem.W.S.findZ_eq
name_quick tw15468230090516036684 for PySem.W.S.findZ by PySem.W.S.findZ_eq
name_quick tw535072334866317008 for PySem.W.S.findZ by PySem.W.S.findZ_eq
name_quick tw18056578402003937789 for PySem.W.S.findZ by PySem.W.S.findZ_eq
name_quick tw8376441433122354887 for PySem.W.S.findZ by PySem.W.S.findZ_eq
name_quick tw14311459727803291754 for PySem.W.S.findZ by PySem.W.S.findZ_eq
name_quick tw12647630874787467225 for PySem.W.S.findZ by PySem.W.S.findZ_eq
name_quick tw11518781747449614426 for PySem.W.S.findZ by PySem.W.S.findZ_eq
name_quick tw460243522976405022 for PySem.W.S.findZ by PySem.W.S.findZ_eq
name_quick tw8999186272805695465 for PySem.W.S.findZ by PySem.W.S.findZ_eq
name_quick tw5978237884098788730 for PySem.W.S.findZ by PySem.W.S.findZ_eq
name_quick tw18350330562280901221 for PySem.W.S.findZ by PySem.W.S.findZ_eq
name_quick tw7585139358526817783 for PySem.W.S.findZ by PySem.W.S.findZ_eq
name_quick tw10323183001455561277 for PySem.W.S.findZ by PySem.W.S.findZ_eq
name_quick tw4558998842232669794 for PySem.W.S.findZ by PySem.W.S.findZ_eq
name_quick tw6123655918767846522 for PySem.W.S.findZ by PySem.W.S.findZ_eq
name_quick tw1829445100760108279 for PySem.W.S.findZ by PySem.W.S.findZ_eq
name_quick tw313226197891681235 for PySem.W.S.findZ by PySem.W.S.findZ_eq
name_quick tw2968979199505139716 for PySem.W.S.findZ by PySem.W.S.findZ_eq
name_quick tw4109823476700235019 for PySem.W.S.findZ by PySem.W.S.findZ_eq
name_quick tw3152983702415266003 for PySem.W.S.findZ by PySem.W.S.findZ_eq
name_quick tw7503421922109321716 for PySem.W.S.findZ by PySem.W.S.findZ_eq
name_quick tw16874561944515371726 for PySem.W.S.findZ by PySem.W.S.findZ_eq
name_quick tw15423634916342008072 for PySem.W.S.findZ by PySem.W.S.findZ_eq
name_quick tw18101931140130867144 for PySem.W.S.findZ by PySem.W.S.findZ_eq
name_quick tw9467589175468403638 for PySem.W.S.findZ by PySem.W.S.findZ_eq
name_quick tw11853533878840232495 for PySem.W.S.findZ by PySem.W.S.findZ_eq
name_quick tw14323765505736481980 for PySem.W.S.findZ by PySem.W.S.findZ_eq
name_quick tw16966814322356759819 for PySem.W.S.findZ by PySem.W.S.findZ_eq
name_quick tw724751600484774222 for PySem.W.S.findZ by PySem.W.S.findZ_eq
name_quick tw1763209079605825380 for PySem.W.S.findZ by PySem.W.S.findZ_eq
name_quick tw5189142188285759775 for PySem.W.S.findZ by PySem.W.S.findZ_eq
name_quick tw189603312586018693 for PySem.W.S.findZ by PySem.W.S.findZ_eq
name_quick tw8098380416015320538 for PySem.W.S.findZ by PySem.W.S.findZ_eq
name_quick tw14821650378409806113 for PySem.W.S.findZ by PySem.W.S.findZ_eq
name_quick tw8579058602437062094 for PySem.W.S.findZ by PySem.W.S.findZ_eq
name_quick tw11957962974430299695 for PySem.W.S.findZ by PySem.W.S.findZ_eq
name_quick tw7081425507203772304 for PySem.W.S.findZ by PySem.W.S.findZ_eq
name_quick tw14834023430324568649 for PySem.W.S.findZ by PySem.W.S.findZ_eq
name_quick tw10919533547850550483 for PySem.W.S.findZ by PySem.W.S.findZ_eq
name_quick tw7098571738820278039 for PySem.W.S.findZ by PySem.W.S.findZ_eq
name_quick tw14553827428707814869 for PySem.W.S.findZ by PySem.W.S.findZ_eq
name_quick tw13607416678640721797 for PySem.W.S.findZ by PySem.W.S.findZ_eq
name_quick tw1107438419126420414 for PySem.W.S.findZ by PySem.W.S.findZ_eq
name_quick tw2958062672499776758 for PySem.W.S.findZ by PySem.W.S.findZ_eq
name_quick tw17774800907425398282 for PySem.W.S.findZ by PySem.W.S.findZ_eq
name_quick tw14305139224198610471 for PySem.W.S.findZ by PySem.W.S.findZ_eq
name_quick tw2922074901204462755 for PySem.W.S.findZ by PySem.W.S.findZ_eq
name_quick tw16039550372008468697 for PySem.W.S.findZ by PySem.W.S.findZ_eq
name_quick tw6179359751918216688 for PySem.W.S.findZ by PySem.W.S.findZ_eq
name_quick tw16374537267813192141 for PySem.W.S.findZ by PySem.W.S.findZ_eq
name_quick tw13833065179229638619 for PySem.W.S.findZ by PySem.W.S.findZ_eq
name_quick tw608726401823008365 for PySem.W.S.findZ by PySem.W.S.findZ_eq
name_quick tw16296994325663420285 for PySem.W.S.findZ by PySem.W.S.findZ_eq
name_quick tw12821735335276811757 for PySem.W.S.findZ by PySem.W.S.findZ_eq
name_quick tw1204117194425446250 for PySem.W.S.findZ by PySem.W.S.findZ_eq
name_quick tw8224813933742928703 for PySem.W.S.findZ by PySem.W.S.findZ_eq
name_quick tw7074795694173733578 for PySem.W.S.findZ by PySem.W.S.findZ_eq
name_quick tw9759809726879904816 for PySem.W.S.findZ by PySem.W.S.findZ_eq
name_quick tw3094477031063562474 for PySem.W.S.findZ by PySem.W.S.findZ_eq
name_quick tw6434138532213402376 for PySem.W.S.findZ by PySem.W.S.findZ_eq
name_quick tw13169248704851481478 for PySem.W.S.findZ by PySem.W.S.findZ_eq
name_quick tw14530364306720264245 for PySem.W.S.findZ by PySem.W.S.findZ_eq
name_quick tw8946543629884556368 for PySem.W.S.findZ by PySem.W.S.findZ_eq
name_quick tw14073706353221006472 for PySem.W.S.findZ by PySem.W.S.findZ_eq
name_quick tw17352973434858128600 for PySem.W.S.findZ by PySem.W.S.findZ_eq
name_quick tw15157221202141545114 for PySem.W.S.findZ by PySem.W.S.findZ_eq
name_quick tw11543547407058413889 for PySem.W.S.findZ by PySem.W.S.findZ_eq
name_quick tw9315938663221665524 for PySem.W.S.findZ by PySem.W.S.findZ_eq
name_quick tw17730428716208468724 for PySem.W.S.findZ by PySem.W.S.findZ_eq
name_quick tw4824431525194463578 for PySem.W.S.findZ by PySem.W.S.findZ_eq
name_quick tw11270796479367742343 for PySem.W.S.findZ by PySem.W.S.findZ_eq
name_quick tw667198328695590252 for PySem.W.S.findZ by PySem.W.S.findZ_eq
name_quick tw10201587920211133707 for PySem.W.S.findZ by PySem.W.S.findZ_eq
name_quick tw2078703811421203504 for PySem.W.S.findZ by PySem.W.S.findZ_eq
name_quick tw16947794391021106201 for PySem.W.S.findZ by PySem.W.S.findZ_eq
name_quick tw10424941004445345732 for PySem.W.S.findZ by PySem.W.S.findZ_eq
name_quick tw5450187663091677483 for PySem.W.S.findZ by PySem.W.S.findZ_eq
name_quick tw8424611434330503625 for PySem.W.S.findZ by PySem.W.S.findZ_eq
name_quick tw15736541856241217950 for PySem.W.S.findZ by PySem.W.S.findZ_eq
name_quick tw9575731206691268911 for PySem.W.S.findZ by PySem.W.S.findZ_eq
name_quick tw9564595351457756722 for PySem.W.S.findZ by PySem.W.S.findZ_eq
name_quick tw5902227825499142635 for PySem.W.S.findZ by PySem.W.S.findZ_eq
name_quick tw3470799630455053000 for PySem.W.S.findZ by PySem.W.S.findZ_eq
name_quick tw196644378293983589 for PySem.W.S.findZ by PySem.W.S.findZ_eq
name_quick tw18188234029961486008 for PySem.W.S.findZ by PySem.W.S.findZ_eq
name_quick tw17814930658547583709 for PySem.W.S.findZ by PySem.W.S.findZ_eq
name_quick tw17045043414572947948 for PySem.W.S.findZ by PySem.W.S.findZ_eq
name_quick tw17001327861769816259 for PySem.W.S.findZ by PySem.W.S.findZ_eq
name_quick tw14544052848187043789 for PySem.W.S.findZ by PySem.W.S.findZ_eq
name_quick tw1092655722715705105 for PySem.W.S.findZ by PySem.W.S.findZ_eq
name_quick tw764782834095389478 for PySem.W.S.findZ by PySem.W.S.findZ_eq
name_quick tw14108194823987119177 for PySem.W.S.findZ by PySem.W.S.findZ_eq
name_quick tw17279654841073493023 for PySem.W.S.findZ by PySem.W.S.findZ_eq
name_quick tw6834602518627153040 for PySem.W.S.findZ by PySem.W.S.findZ_eq
name_quick tw2736616831223182526 for PySem.W.S.findZ by PySem.W.S.findZ_eq
name_quick tw1291980286583624508 for PySem.W.S.findZ by PySem.W.S.findZ_eq
name_quick tw10887116778572429059 for PySem.W.S.findZ by PySem.W.S.findZ_eq
name_quick tw17552769576498331613 for PySem.W.S.findZ by PySem.W.S.findZ_eq
name_quick tw10073347824450446311 for PySem.W.S.findZ by PySem.W.S.findZ_eq
name_quick tw6679490504615227074 for PySem.W.S.findZ by PySem.W.S.findZ_eq
name_quick tw11636919720809706868 for PySem.W.S.findZ by PySem.W.S.findZ_eq
name_quick tw11161088081135249708 for PySem.W.S.findZ by PySem.W.S.findZ_eq
name_quick tw9736788993784561348 for PySem.W.S.findZ by PySem.W.S.findZ_eq
name_quick tw7276740287692124622 for PySem.W.S.findZ by PySem.W.S.findZ_eq
name_quick tw6245536207120538393 for PySem.W.S.findZ by PySem.W.S.findZ_eq
name_quick tw4090926877573551719 for PySem.W.S.findZ by PySem.W.S.findZ_eq
name_quick tw15742981410569661332 for PySem.W.S.findZ by PySem.W.S.findZ_eq
name_quick tw14333388528381170442 for PySem.W.S.findZ by PySem.W.S.findZ_eq
name_quick tw17846936440860909165 for PySem.W.S.findZ by PySem.W.S.findZ_eq
name_quick tw14186486079044719983 for PySem.W.S.findZ by PySem.W.S.findZ_eq
name_quick tw9676229304581654039 for PySem.W.S.findZ by PySem.W.S.findZ_eq
name_quick tw5697894365363955025 for PySem.W.S.findZ by PySem.W.S.findZ_eq
name_quick tw2571919107429820419 for PySem.W.S.findZ by PySem.W.S.findZ_eq
name_quick tw17803129079492736432 for PySem.W.S.findZ by PySem.W.S.findZ_eq
name_quick tw15773981995205291829 for PySem.W.S.findZ by PySem.W.S.findZ_eq
name_quick tw15490439104401381959 for PySem.W.S.findZ by PySem.W.S.findZ_eq
name_quick tw11588390666370768167 for PySem.W.S.findZ by PySem.W.S.findZ_eq
name_quick tw2193789692954389824 for PySem.W.S.findZ by PySem.W.S.findZ_eq
name_quick tw16292439048969090190 for PySem.W.S.findZ by PySem.W.S.findZ_eq
name_quick tw13789449189825218787 for PySem.W.S.findZ by PySem.W.S.findZ_eq
name_quick tw503676674663206642 for PySem.W.S.findZ by PySem.W.S.findZ_eq
name_quick tw3865406201487662470 for PySem.W.S.findZ by PySem.W.S.findZ_eq
name_quick tw3764465048917985505 for PySem.W.S.findZ by PySem.W.S.findZ_eq
name_quick tw14420389602138693270 for PySem.W.S.findZ by PySem.W.S.findZ_eq
name_quick tw11838138170533393997 for PySem.W.S.findZ by PySem.W.S.findZ_eq
name_quick tw4011157648589011858 for PySem.W.S.findZ by PySem.W.S.findZ_eq
name_quick tw16979880578912567463 for PySem.W.S.findZ by PySem.W.S.findZ_eq
name_quick tw9529234661008812162 for PySem.W.S.findZ by PySem.W.S.findZ_eq
name_quick tw1355338860687761863 for PySem.W.S.findZ by PySem.W.S.findZ_eq
name_quick tw2948108419219029167 for PySem.W.S.findZ by PySem.W.S.findZ_eq
name_quick tw2478078296215019888 for PySem.W.S.findZ by PySem.W.S.findZ_eq
name_quick tw7232422423428716515 for PySem.W.S.findZ by PySem.W.S.findZ_eq
name_quick tw15323854079317868165 for PySem.W.S.findZ by PySem.W.S.findZ_eq
name_quick tw8206430501311747189 for PySem.W.S.findZ by PySem.W.S.findZ_eq
name_quick tw14884601019740666482 for PySem.W.S.findZ by PySem.W.S.findZ_eq
name_quick tw13526986893379352335 for PySem.W.S.findZ by PySem.W.S.findZ_eq
name_quick tw8708707556590381134 for PySem.W.S.findZ by PySem.W.S.findZ_eq
name_quick tw682011567655089306 for PySem.W.S.findZ by PySem.W.S.findZ_eq
name_quick tw14896874001708588922 for PySem.W.S.findZ by PySem.W.S.findZ_eq
name_quick tw8595292554425487202 for PySem.W.S.findZ by PySem.W.S.findZ_eq
name_quick tw563124612126607214 for PySem.W.S.findZ by PySem.W.S.findZ_eq
name_quick tw505943868828395459 for PySem.W.S.findZ by PySem.W.S.findZ_eq
name_quick tw3778451253796500701 for PySem.W.S.findZ by PySem.W.S.findZ_eq
name_quick tw2719445374943340272 for PySem.W.S.findZ by PySem.W.S.findZ_eq
name_quick tw2460228577881660442 for PySem.W.S.findZ by PySem.W.S.findZ_eq
name_quick tw17993156020533580102 for PySem.W.S.findZ by PySem.W.S.findZ_eq
name_quick tw17828083071136270317 for PySem.W.S.findZ by PySem.W.S.findZ_eq
name_quick tw16326889199254633757 for PySem.W.S.findZ by PySem.W.S.findZ_eq
name_quick tw15168306246750427876 for PySem.W.S.findZ by PySem.W.S.findZ_eq
name_quick tw13759679279233594173 for PySem.W.S.findZ by PySem.W.S.findZ_eq
name_quick tw12659028871203227004 for PySem.W.S.findZ by PySem.W.S.findZ_eq
name_quick tw10996506086634736982 for PySem.W.S.findZ by PySem.W.S.findZ_eq
name_quick tw1085346719588807367 for PySem.W.S.findZ by PySem.W.S.findZ_eq
name_quick tw17018628822417861297 for PySem.W.S.findZ by PySem.W.S.findZ_eq
name_quick tw16916688483869632129 for PySem.W.S.findZ by PySem.W.S.findZ_eq
name_quick tw15263041282635125899 for PySem.W.S.findZ by PySem.W.S.findZ_eq
name_quick tw9862997608875712007 for PySem.W.S.findZ by PySem.W.S.findZ_eq
name_quick tw9594665118957945026 for PySem.W.S.findZ by PySem.W.S.findZ_eq
name_quick tw5565278806992967083 for PySem.W.S.findZ by PySem.W.S.findZ_eq
name_quick tw2862820112641550484 for PySem.W.S.findZ by PySem.W.S.findZ_eq
name_quick tw17888162413812561239 for PySem.W.S.findZ by PySem.W.S.findZ_eq
name_quick tw16531745337717519161 for PySem.W.S.findZ by PySem.W.S.findZ_eq
name_quick tw9951705424602377420 for PySem.W.S.findZ by PySem.W.S.findZ_eq
name_quick tw8603108125212654177 for PySem.W.S.findZ by PySem.W.S.findZ_eq
name_quick tw16241802466949684156 for PySem.W.S.findZ by PySem.W.S.findZ_eq
name_quick tw17101871299007795629 for PySem.W.S.findZ by PySem.W.S.findZ_eq
name_quick tw15066959818950650227 for PySem.W.S.findZ by PySem.W.S.findZ_eq
name_quick tw9674257727999782656 for PySem.W.S.findZ by PySem.W.S.findZ_eq
name_quick tw12268644228514654432 for PySem.W.S.findZ by PySem.W.S.findZ_eq
name_quick tw8693227569615203950 for PySem.W.S.findZ by PySem.W.S.findZ_eq
name_quick tw8119918657739134586 for PySem.W.S.findZ by PySem.W.S.findZ_eq
name_quick tw7401281599722004195 for PySem.W.S.findZ by PySem.W.S.findZ_eq
name_quick tw5349121933718820234 for PySem.W.S.findZ by PySem.W.S.findZ_eq
name_quick tw4071324889030633612 for PySem.W.S.findZ by PySem.W.S.findZ_eq
name_quick tw4039474712603431140 for PySem.W.S.findZ by PySem.W.S.findZ_eq
name_quick tw17532718790514356516 for PySem.W.S.findZ by PySem.W.S.findZ_eq
name_quick tw16817318245366136608 for PySem.W.S.findZ by PySem.W.S.findZ_eq
name_quick tw16414604833108395602 for PySem.W.S.findZ by PySem.W.S.findZ_eq
name_quick tw16018607276475445134 for PySem.W.S.findZ by PySem.W.S.findZ_eq
name_quick tw14223099787259518943 for PySem.W.S.findZ by PySem.W.S.findZ_eq
name_quick tw13036272033356848781 for PySem.W.S.findZ by PySem.W.S.findZ_eq
name_quick tw12945451867199242903 for PySem.W.S.findZ by PySem.W.S.findZ_eq
name_quick tw1258299570235058372 for PySem.W.S.findZ by PySem.W.S.findZ_eq
name_quick tw1218959903707654005 for PySem.W.S.findZ by PySem.W.S.findZ_eq
name_quick tw10938465397075749097 for PySem.W.S.findZ by PySem.W.S.findZ_eq
name_quick tw10227693086864044499 for PySem.W.S.findZ by PySem.W.S.findZ_eq
name_quick tw10029231156530900338 for PySem.W.S.findZ by PySem.W.S.findZ_eq
name_quick tw9577309144901391297 for PySem.W.S.findZ by PySem.W.S.findZ_eq
name_quick tw9537544019596298400 for PySem.W.S.findZ by PySem.W.S.findZ_eq
name_quick tw9265879793445154701 for PySem.W.S.findZ by PySem.W.S.findZ_eq
name_quick tw8881496252177385917 for PySem.W.S.findZ by PySem.W.S.findZ_eq
name_quick tw8656719876789144132 for PySem.W.S.findZ by PySem.W.S.findZ_eq
name_quick tw7987952416473584550 for PySem.W.S.findZ by PySem.W.S.findZ_eq
name_quick tw774047393022817027 for PySem.W.S.findZ by PySem.W.S.findZ_eq
name_quick tw7275051467321613617 for PySem.W.S.findZ by PySem.W.S.findZ_eq
name_quick tw7250012664060256230 for PySem.W.S.findZ by PySem.W.S.findZ_eq
name_quick tw704327219915372674 for PySem.W.S.findZ by PySem.W.S.findZ_eq
name_quick tw7035115661146626270 for PySem.W.S.findZ by PySem.W.S.findZ_eq
name_quick tw6993175162768986339 for PySem.W.S.findZ by PySem.W.S.findZ_eq
name_quick tw6789855027759293466 for PySem.W.S.findZ by PySem.W.S.findZ_eq
name_quick tw6587116730350146372 for PySem.W.S.findZ by PySem.W.S.findZ_eq
name_quick tw6214688769961185500 for PySem.W.S.findZ by PySem.W.S.findZ_eq
name_quick tw5862295025349918931 for PySem.W.S.findZ by PySem.W.S.findZ_eq
name_quick tw5732905514179830355 for PySem.W.S.findZ by PySem.W.S.findZ_eq
name_quick tw5152784196030571298 for PySem.W.S.findZ by PySem.W.S.findZ_eq
name_quick tw5149714755402479525 for PySem.W.S.findZ by PySem.W.S.findZ_eq
name_quick tw5068434257544371817 for PySem.W.S.findZ by PySem.W.S.findZ_eq
name_quick tw4936483359421988267 for PySem.W.S.findZ by PySem.W.S.findZ_eq
name_quick tw4575980220486274672 for PySem.W.S.findZ by PySem.W.S.findZ_eq
name_quick tw4434333111790514575 for PySem.W.S.findZ by PySem.W.S.findZ_eq
name_quick tw4405960384096086239 for PySem.W.S.findZ by PySem.W.S.findZ_eq
name_quick tw43969757491396457 for PySem.W.S.findZ by PySem.W.S.findZ_eq
name_quick tw4278798014809849964 for PySem.W.S.findZ by PySem.W.S.findZ_eq
name_quick tw3952652319720093869 for PySem.W.S.findZ by PySem.W.S.findZ_eq
name_quick tw3355348695024010778 for PySem.W.S.findZ by PySem.W.S.findZ_eq
name_quick tw3327986453032591115 for PySem.W.S.findZ by PySem.W.S.findZ_eq
name_quick tw3315324234476444515 for PySem.W.S.findZ by PySem.W.S.findZ_eq
name_quick tw3093977132361051618 for PySem.W.S.findZ by PySem.W.S.findZ_eq
name_quick tw18410474027866654770 for PySem.W.S.findZ by PySem.W.S.findZ_eq
name_quick tw17943406268862710625 for PySem.W.S.findZ by PySem.W.S.findZ_eq
name_quick tw17899373020297197333 for PySem.W.S.findZ by PySem.W.S.findZ_eq
name_quick tw17804436615005485693 for PySem.W.S.findZ by PySem.W.S.findZ_eq
name_quick tw17554001833073541016 for PySem.W.S.findZ by PySem.W.S.findZ_eq
name_quick tw16417370028952169744 for PySem.W.S.findZ by PySem.W.S.findZ_eq
name_quick tw16413963553889246368 for PySem.W.S.findZ by PySem.W.S.findZ_eq
name_quick tw16339471991904476338 for PySem.W.S.findZ by PySem.W.S.findZ_eq
name_quick tw1631149150583789468 for PySem.W.S.findZ by PySem.W.S.findZ_eq
name_quick tw15902184279288820625 for PySem.W.S.findZ by PySem.W.S.findZ_eq
name_quick tw15562837088269578035 for PySem.W.S.findZ by PySem.W.S.findZ_eq
name_quick tw15202239659555905331 for PySem.W.S.findZ by PySem.W.S.findZ_eq
name_quick tw15059462757989803610 for PySem.W.S.findZ by PySem.W.S.findZ_eq
name_quick tw15041003319150489328 for PySem.W.S.findZ by PySem.W.S.findZ_eq
name_quick tw14971970265804392439 for PySem.W.S.findZ by PySem.W.S.findZ_eq
name_quick tw14778209649434054790 for PySem.W.S.findZ by PySem.W.S.findZ_eq
name_quick tw14214133299417103183 for PySem.W.S.findZ by PySem.W.S.findZ_eq
name_quick tw14097648870716263351 for PySem.W.S.findZ by PySem.W.S.findZ_eq
name_quick tw13725850141900786883 for PySem.W.S.findZ by PySem.W.S.findZ_eq
name_quick tw13640514254501968386 for PySem.W.S.findZ by PySem.W.S.findZ_eq
name_quick tw13580328829973926956 for PySem.W.S.findZ by PySem.W.S.findZ_eq
name_quick tw13314330512976039754 for PySem.W.S.findZ by PySem.W.S.findZ_eq
name_quick tw13160144027095335755 for PySem.W.S.findZ by PySem.W.S.findZ_eq
name_quick tw12945968074294007009 for PySem.W.S.findZ by PySem.W.S.findZ_eq
name_quick tw12182807814244774211 for PySem.W.S.findZ by PySem.W.S.findZ_eq
name_quick tw1184552218554016812 for PySem.W.S.findZ by PySem.W.S.findZ_eq
name_quick tw11740888236361828772 for PySem.W.S.findZ by PySem.W.S.findZ_eq
name_quick tw1139862187096482527 for PySem.W.S.findZ by PySem.W.S.findZ_eq
name_quick tw10042830170769951172 for PySem.W.S.findZ by PySem.W.S.findZ_eq
name_quick tw10015664371746657536 for PySem.W.S.findZ by PySem.W.S.findZ_eq
name_quick tw10010936943081839664 for PySem.W.S.findZ by PySem.W.S.findZ_eq
name_quick tw9948023125614773506 for PySem.W.S.findZ by PySem.W.S.findZ_eq
name_quick tw9908251947323293946 for PySem.W.S.findZ by PySem.W.S.findZ_eq
name_quick tw9800571698397750058 for PySem.W.S.findZ by PySem.W.S.findZ_eq
name_quick tw9673203406766833760 for PySem.W.S.findZ by PySem.W.S.findZ_eq
name_quick tw9626621113073979434 for PySem.W.S.findZ by PySem.W.S.findZ_eq
name_quick tw951843321253372498 for PySem.W.S.findZ by PySem.W.S.findZ_eq
name_quick tw9501820088010722379 for PySem.W.S.findZ by PySem.W.S.findZ_eq
name_quick tw9413167413068371254 for PySem.W.S.findZ by PySem.W.S.findZ_eq
name_quick tw9305782018832362445 for PySem.W.S.findZ by PySem.W.S.findZ_eq
name_quick tw9300948228871686676 for PySem.W.S.findZ by PySem.W.S.findZ_eq
name_quick tw9206804518496725263 for PySem.W.S.findZ by PySem.W.S.findZ_eq
name_quick tw9082586571710850966 for PySem.W.S.findZ by PySem.W.S.findZ_eq
name_quick tw8727135674562949291 for PySem.W.S.findZ by PySem.W.S.findZ_eq
name_quick tw8642067239939848140 for PySem.W.S.findZ by PySem.W.S.findZ_eq
name_quick tw8450942572126056277 for PySem.W.S.findZ by PySem.W.S.findZ_eq
name_quick tw8430678208038309684 for PySem.W.S.findZ by PySem.W.S.findZ_eq
name_quick tw8253183596043897158 for PySem.W.S.findZ by PySem.W.S.findZ_eq
name_quick tw8047484207015712433 for PySem.W.S.findZ by PySem.W.S.findZ_eq
name_quick tw8032284361305108907 for PySem.W.S.findZ by PySem.W.S.findZ_eq
name_quick tw7892128664451923741 for PySem.W.S.findZ by PySem.W.S.findZ_eq
name_quick tw7802139600951554647 for PySem.W.S.findZ by PySem.W.S.findZ_eq
name_quick tw7788680626742099145 for PySem.W.S.findZ by PySem.W.S.findZ_eq
name_quick tw7618406622816332465 for PySem.W.S.findZ by PySem.W.S.findZ_eq
name_quick tw7581816359482902497 for PySem.W.S.findZ by PySem.W.S.findZ_eq
name_quick tw7504490480230193789 for PySem.W.S.findZ by PySem.W.S.findZ_eq
name_quick tw7496433998918960881 for PySem.W.S.findZ by PySem.W.S.findZ_eq
name_quick tw7469732015759309437 for PySem.W.S.findZ by PySem.W.S.findZ_eq
name_quick tw7365555872484859036 for PySem.W.S.findZ by PySem.W.S.findZ_eq
name_quick tw7323676302269181137 for PySem.W.S.findZ by PySem.W.S.findZ_eq
name_quick tw7299303143086499733 for PySem.W.S.findZ by PySem.W.S.findZ_eq
name_quick tw7286323032743288035 for PySem.W.S.findZ by PySem.W.S.findZ_eq
name_quick tw725871291056497461 for PySem.W.S.findZ by PySem.W.S.findZ_eq
name_quick tw716658179208862652 for PySem.W.S.findZ by PySem.W.S.findZ_eq
name_quick tw7094674258960923220 for PySem.W.S.findZ by PySem.W.S.findZ_eq
name_quick tw6967401301877209104 for PySem.W.S.findZ by PySem.W.S.findZ_eq
name_quick tw6832808476680081064 for PySem.W.S.findZ by PySem.W.S.findZ_eq
name_quick tw6714822604882049554 for PySem.W.S.findZ by PySem.W.S.findZ_eq
name_quick tw6654550962395885724 for PySem.W.S.findZ by PySem.W.S.findZ_eq
name_quick tw662354867322794072 for PySem.W.S.findZ by PySem.W.S.findZ_eq
name_quick tw6607189417530752870 for PySem.W.S.findZ by PySem.W.S.findZ_eq
name_quick tw6426273055680023932 for PySem.W.S.findZ by PySem.W.S.findZ_eq
name_quick tw6380047634161181297 for PySem.W.S.findZ by PySem.W.S.findZ_eq
name_quick tw6213141578215901147 for PySem.W.S.findZ by PySem.W.S.findZ_eq
name_quick tw618205885557783147 for PySem.W.S.findZ by PySem.W.S.findZ_eq
name_quick tw6148621092414575339 for PySem.W.S.findZ by PySem.W.S.findZ_eq
name_quick tw6125931036764729998 for PySem.W.S.findZ by PySem.W.S.findZ_eq
name_quick tw6122645084068987007 for PySem.W.S.findZ by PySem.W.S.findZ_eq
name_quick tw6090905460779295987 for PySem.W.S.findZ by PySem.W.S.findZ_eq
name_quick tw6019396324639902685 for PySem.W.S.findZ by PySem.W.S.findZ_eq
name_quick tw6012508502120743258 for PySem.W.S.findZ by PySem.W.S.findZ_eq
name_quick tw5882768191206486792 for PySem.W.S.findZ by PySem.W.S.findZ_eq
name_quick tw5721027456603625697 for PySem.W.S.findZ by PySem.W.S.findZ_eq
name_quick tw5706481520468235054 for PySem.W.S.findZ by PySem.W.S.findZ_eq
name_quick tw5701610774189311196 for PySem.W.S.findZ by PySem.W.S.findZ_eq
name_quick tw5518745428033880147 for PySem.W.S.findZ by PySem.W.S.findZ_eq
name_quick tw5396446701170858492 for PySem.W.S.findZ by PySem.W.S.findZ_eq
name_quick tw5200128776193632040 for PySem.W.S.findZ by PySem.W.S.findZ_eq
name_quick tw5135500740108067664 for PySem.W.S.findZ by PySem.W.S.findZ_eq
name_quick tw5032809538720368765 for PySem.W.S.findZ by PySem.W.S.findZ_eq
name_quick tw4978915544186085027 for PySem.W.S.findZ by PySem.W.S.findZ_eq
name_quick tw4879560196417449868 for PySem.W.S.findZ by PySem.W.S.findZ_eq
name_quick tw4800724452203346748 for PySem.W.S.findZ by PySem.W.S.findZ_eq
name_quick tw4797165386629745026 for PySem.W.S.findZ by PySem.W.S.findZ_eq
name_quick tw470574548607681690 for PySem.W.S.findZ by PySem.W.S.findZ_eq
name_quick tw4681523508651956083 for PySem.W.S.findZ by PySem.W.S.findZ_eq
name_quick tw4552823106982906706 for PySem.W.S.findZ by PySem.W.S.findZ_eq
name_quick tw4549333791460862111 for PySem.W.S.findZ by PySem.W.S.findZ_eq
name_quick tw441327347791068078 for PySem.W.S.findZ by PySem.W.S.findZ_eq
name_quick tw4292500188555128830 for PySem.W.S.findZ by PySem.W.S.findZ_eq
name_quick tw3976722010076183465 for PySem.W.S.findZ by PySem.W.S.findZ_eq
name_quick tw392140993173905013 for PySem.W.S.findZ by PySem.W.S.findZ_eq
name_quick tw39160002569200845 for PySem.W.S.findZ by PySem.W.S.findZ_eq
name_quick tw3880421473898291048 for PySem.W.S.findZ by PySem.W.S.findZ_eq
name_quick tw3820604794100220378 for PySem.W.S.findZ by PySem.W.S.findZ_eq
name_quick tw3740020263889925745 for PySem.W.S.findZ by PySem.W.S.findZ_eq
name_quick tw3436264866546951355 for PySem.W.S.findZ by PySem.W.S.findZ_eq
name_quick tw3386650904741475044 for PySem.W.S.findZ by PySem.W.S.findZ_eq
name_quick tw325292655437039998 for PySem.W.S.findZ by PySem.W.S.findZ_eq
name_quick tw3209381107111851631 for PySem.W.S.findZ by PySem.W.S.findZ_eq
name_quick tw3142773779024712118 for PySem.W.S.findZ by PySem.W.S.findZ_eq
name_quick tw3039592710220408265 for PySem.W.S.findZ by PySem.W.S.findZ_eq
name_quick tw2951486255847992690 for PySem.W.S.findZ by PySem.W.S.findZ_eq
name_quick tw2905824091091238844 for PySem.W.S.findZ by PySem.W.S.findZ_eq
name_quick tw2660918139993853925 for PySem.W.S.findZ by PySem.W.S.findZ_eq
name_quick tw2611137233208623240 for PySem.W.S.findZ by PySem.W.S.findZ_eq
name_quick tw2599325451414397859 for PySem.W.S.findZ by PySem.W.S.findZ_eq
name_quick tw2569364866550412066 for PySem.W.S.findZ by PySem.W.S.findZ_eq
name_quick tw2447775223705975068 for PySem.W.S.findZ by PySem.W.S.findZ_eq
name_quick tw2422670821966735624 for PySem.W.S.findZ by PySem.W.S.findZ_eq
name_quick tw2408619945344806742 for PySem.W.S.findZ by PySem.W.S.findZ_eq
name_quick tw2354101950205528012 for PySem.W.S.findZ by PySem.W.S.findZ_eq
name_quick tw2315820567201803617 for PySem.W.S.findZ by PySem.W.S.findZ_eq
name_quick tw2039238271031011813 for PySem.W.S.findZ by PySem.W.S.findZ_eq
name_quick tw2011108890870493169 for PySem.W.S.findZ by PySem.W.S.findZ_eq
name_quick tw1962928258387122110 for PySem.W.S.findZ by PySem.W.S.findZ_eq
name_quick tw1886563365779066154 for PySem.W.S.findZ by PySem.W.S.findZ_eq
name_quick tw1869930749605803152 for PySem.W.S.findZ by PySem.W.S.findZ_eq
name_quick tw18350638575300117064 for PySem.W.S.findZ by PySem.W.S.findZ_eq
name_quick tw18340240734955500558 for PySem.W.S.findZ by PySem.W.S.findZ_eq
name_quick tw18260038339965228139 for PySem.W.S.findZ by PySem.W.S.findZ_eq
name_quick tw18220123701641295943 for PySem.W.S.findZ by PySem.W.S.findZ_eq
name_quick tw18211773271919218964 for PySem.W.S.findZ by PySem.W.S.findZ_eq
name_quick tw18123110421147349612 for PySem.W.S.findZ by PySem.W.S.findZ_eq
name_quick tw17913803186225011329 for PySem.W.S.findZ by PySem.W.S.findZ_eq
name_quick tw17863021456227041891 for PySem.W.S.findZ by PySem.W.S.findZ_eq
name_quick tw17765544955259793912 for PySem.W.S.findZ by PySem.W.S.findZ_eq
name_quick tw17537794083376710389 for PySem.W.S.findZ by PySem.W.S.findZ_eq
name_quick tw17520869792638436183 for PySem.W.S.findZ by PySem.W.S.findZ_eq
name_quick tw17476080006546285661 for PySem.W.S.findZ by PySem.W.S.findZ_eq
name_quick tw17341736924252097559 for PySem.W.S.findZ by PySem.W.S.findZ_eq
name_quick tw17274371674624000324 for PySem.W.S.findZ by PySem.W.S.findZ_eq
name_quick tw17183712847048597117 for PySem.W.S.findZ by PySem.W.S.findZ_eq
name_quick tw17164873540382356111 for PySem.W.S.findZ by PySem.W.S.findZ_eq
name_quick tw17069979004554194336 for PySem.W.S.findZ by PySem.W.S.findZ_eq
name_quick tw17024950926791866790 for PySem.W.S.findZ by PySem.W.S.findZ_eq
name_quick tw16942504070071679284 for PySem.W.S.findZ by PySem.W.S.findZ_eq
name_quick tw16869277618539721502 for PySem.W.S.findZ by PySem.W.S.findZ_eq
name_quick tw16865151637890581275 for PySem.W.S.findZ by PySem.W.S.findZ_eq
name_quick tw16792545251062261874 for PySem.W.S.findZ by PySem.W.S.findZ_eq
name_quick tw16758808235637498351 for PySem.W.S.findZ by PySem.W.S.findZ_eq
name_quick tw16752143609539240740 for PySem.W.S.findZ by PySem.W.S.findZ_eq
name_quick tw16697116713213952808 for PySem.W.S.findZ by PySem.W.S.findZ_eq
name_quick tw16593013826814733010 for PySem.W.S.findZ by PySem.W.S.findZ_eq
name_quick tw16494616584097029746 for PySem.W.S.findZ by PySem.W.S.findZ_eq
name_quick tw16366562015402752707 for PySem.W.S.findZ by PySem.W.S.findZ_eq
name_quick tw16180582048198870337 for PySem.W.S.findZ by PySem.W.S.findZ_eq
name_quick tw16180483070735683940 for PySem.W.S.findZ by PySem.W.S.findZ_eq
name_quick tw1617757218408452269 for PySem.W.S.findZ by PySem.W.S.findZ_eq
name_quick tw16176465441171805009 for PySem.W.S.findZ by PySem.W.S.findZ_eq
name_quick tw16049961110935095269 for PySem.W.S.findZ by PySem.W.S.findZ_eq
name_quick tw15919542637913265678 for PySem.W.S.findZ by PySem.W.S.findZ_eq
name_quick tw15900120412870309639 for PySem.W.S.findZ by PySem.W.S.findZ_eq
name_quick tw15806122291839087668 for PySem.W.S.findZ by PySem.W.S.findZ_eq
name_quick tw15766043655864335149 for PySem.W.S.findZ by PySem.W.S.findZ_eq
name_quick tw1574873078441994576 for PySem.W.S.findZ by PySem.W.S.findZ_eq
name_quick tw15450981722951097364 for PySem.W.S.findZ by PySem.W.S.findZ_eq
name_quick tw1537898542681612871 for PySem.W.S.findZ by PySem.W.S.findZ_eq
name_quick tw15315713394281565010 for PySem.W.S.findZ by PySem.W.S.findZ_eq
name_quick tw15207642765257501584 for PySem.W.S.findZ by PySem.W.S.findZ_eq
name_quick tw15195428891847259777 for PySem.W.S.findZ by PySem.W.S.findZ_eq
name_quick tw15034313371233782410 for PySem.W.S.findZ by PySem.W.S.findZ_eq
name_quick tw15007238320947547705 for PySem.W.S.findZ by PySem.W.S.findZ_eq
name_quick tw14326252917377295143 for PySem.W.S.findZ by PySem.W.S.findZ_eq
name_quick tw14224011070414065920 for PySem.W.S.findZ by PySem.W.S.findZ_eq
name_quick tw1419416864934026935 for PySem.W.S.findZ by PySem.W.S.findZ_eq
name_quick tw14168537005229113720 for PySem.W.S.findZ by PySem.W.S.findZ_eq
name_quick tw1414301608579184545 for PySem.W.S.findZ by PySem.W.S.findZ_eq
name_quick tw14023627001141898710 for PySem.W.S.findZ by PySem.W.S.findZ_eq
name_quick tw13981391230805400906 for PySem.W.S.findZ by PySem.W.S.findZ_eq
name_quick tw13951257522405164796 for PySem.W.S.findZ by PySem.W.S.findZ_eq
name_quick tw13915792640404377917 for PySem.W.S.findZ by PySem.W.S.findZ_eq
name_quick tw13809362725867891129 for PySem.W.S.findZ by PySem.W.S.findZ_eq
name_quick tw13776390136698705113 for PySem.W.S.findZ by PySem.W.S.findZ_eq
name_quick tw13746126617404028095 for PySem.W.S.findZ by PySem.W.S.findZ_eq
name_quick tw13678640442995254988 for PySem.W.S.findZ by PySem.W.S.findZ_eq
name_quick tw136631920214876835 for PySem.W.S.findZ by PySem.W.S.findZ_eq
name_quick tw13642483538084851733 for PySem.W.S.findZ by PySem.W.S.findZ_eq
name_quick tw13615603153576403970 for PySem.W.S.findZ by PySem.W.S.findZ_eq
name_quick tw13512673800721320934 for PySem.W.S.findZ by PySem.W.S.findZ_eq
name_quick tw13317431791736044220 for PySem.W.S.findZ by PySem.W.S.findZ_eq
name_quick tw13252181687094117063 for PySem.W.S.findZ by PySem.W.S.findZ_eq
name_quick tw13236226663087606529 for PySem.W.S.findZ by PySem.W.S.findZ_eq
name_quick tw13002492023102617099 for PySem.W.S.findZ by PySem.W.S.findZ_eq
name_quick tw12866136484021002089 for PySem.W.S.findZ by PySem.W.S.findZ_eq
name_quick tw12850107946570832962 for PySem.W.S.findZ by PySem.W.S.findZ_eq
name_quick tw12832477231654346042 for PySem.W.S.findZ by PySem.W.S.findZ_eq
name_quick tw12825359941727978080 for PySem.W.S.findZ by PySem.W.S.findZ_eq
name_quick tw12734952128020822468 for PySem.W.S.findZ by PySem.W.S.findZ_eq
name_quick tw12726346659333912481 for PySem.W.S.findZ by PySem.W.S.findZ_eq
name_quick tw12660628722211587041 for PySem.W.S.findZ by PySem.W.S.findZ_eq
name_quick tw12635813782599140982 for PySem.W.S.findZ by PySem.W.S.findZ_eq
name_quick tw12392613427281201732 for PySem.W.S.findZ by PySem.W.S.findZ_eq
name_quick tw12371321757623732685 for PySem.W.S.findZ by PySem.W.S.findZ_eq
name_quick tw12359285113459375979 for PySem.W.S.findZ by PySem.W.S.findZ_eq
name_quick tw12237943961548833269 for PySem.W.S.findZ by PySem.W.S.findZ_eq
name_quick tw12022618010286034681 for PySem.W.S.findZ by PySem.W.S.findZ_eq
name_quick tw11985326045990495214 for PySem.W.S.findZ by PySem.W.S.findZ_eq
name_quick tw11964429278604863157 for PySem.W.S.findZ by PySem.W.S.findZ_eq
name_quick tw1189734492583310 for PySem.W.S.findZ by PySem.W.S.findZ_eq
name_quick tw11892598404827812706 for PySem.W.S.findZ by PySem.W.S.findZ_eq
name_quick tw11796506867022685745 for PySem.W.S.findZ by PySem.W.S.findZ_eq
name_quick tw11788150170368784547 for PySem.W.S.findZ by PySem.W.S.findZ_eq
name_quick tw11729385059970357855 for PySem.W.S.findZ by PySem.W.S.findZ_eq
name_quick tw11707433790658880453 for PySem.W.S.findZ by PySem.W.S.findZ_eq
name_quick tw11707371222683016368 for PySem.W.S.findZ by PySem.W.S.findZ_eq
name_quick tw11682084944484805031 for PySem.W.S.findZ by PySem.W.S.findZ_eq
name_quick tw1156252341971683116 for PySem.W.S.findZ by PySem.W.S.findZ_eq
name_quick tw11495947367809530248 for PySem.W.S.findZ by PySem.W.S.findZ_eq
name_quick tw11452132507678324671 for PySem.W.S.findZ by PySem.W.S.findZ_eq
name_quick tw11445135464325071761 for PySem.W.S.findZ by PySem.W.S.findZ_eq
name_quick tw11333186260410459676 for PySem.W.S.findZ by PySem.W.S.findZ_eq
name_quick tw11310463157757771331 for PySem.W.S.findZ by PySem.W.S.findZ_eq
name_quick tw1102190903223815498 for PySem.W.S.findZ by PySem.W.S.findZ_eq
name_quick tw10706342367453228570 for PySem.W.S.findZ by PySem.W.S.findZ_eq
name_quick tw10508251915553800215 for PySem.W.S.findZ by PySem.W.S.findZ_eq
name_quick tw10487160056961263569 for PySem.W.S.findZ by PySem.W.S.findZ_eq
name_quick tw10317580896714288900 for PySem.W.S.findZ by PySem.W.S.findZ_eq
name_quick tw10057510723706494237 for PySem.W.S.findZ by PySem.W.S.findZ_eq

namespace Mine
set_option maxRecDepth 100000 in
set_option maxHeartbeats 8000000 in
open_top hd for PySem.Challenge.rw_sy0049_01
end Mine
theorem Mine.top_off : True := by
  w_top off
  trivial
namespace Mine
noncomputable abbrev PG : Program := PySem.Challenge.rw_sy0049_01.prog

/-- one heap stays in the next -/
abbrev Sub (h h' : Heap) : Prop := ∀ b o, h.get? b = some o → h'.get? b = some o
abbrev Has (h : Heap) (l : List (Addr × Obj)) : Prop := ∀ p ∈ l, h.get? p.1 = some p.2

/-- entering a def that only reads: the whole heap stands as its base -/
theorem code_reader {w : World} {A₀ A : Around} {s : Shared} {base h₀ : Heap} {outer : List Env} {L : Addr} {m mg mb : Str → Option Value} {news : List (Addr × Obj)} {p : Program} {loose : List Str} {mean : ExcName → Option Value} {K : Frag}
    {env : Env} {R : Result → Shared → Prop} {name qual : Str} {params : Arguments} {body : List Stmt} {scope : Scope} {dV kV doc pm cdv ct oc : Value} {an od : Option Addr} {osl : Array (Option Value)} {f : Addr} {args : Args} {binds : List (Str × Value)}
    (B : Below A₀ base outer h₀) (F : Fr h₀ L s.heap m) (X₀ : K.In h₀) (N : News h₀ L s.heap news) (T : Top p loose mean mg mb h₀) (hA : A.frames = some (env :: outer)) (hf : env.frame = some L) (hke : env.scope.kind = .function)
    (ho : K.lookup f = some ⟨oc, od, .func (fnOf name qual params body scope dV kV doc pm an cdv ct), osl⟩) (hcd : codeIn K cdv qual = true) (hroom : A.depth < recursionLimit)
    (hbind : BindsTo s (fnOf name qual params body scope dV kV doc pm an cdv ct) args binds) (hloc : ∀ y ∈ binds, scope.names.lookup y.1 = some .local)
    (h : ∀ L' h₁, Fr s.heap L' h₁ (fun y => binds.reverse.lookup y) → News s.heap L' h₁ [] → Below A base (env :: outer) s.heap → K.In s.heap → Top p loose mean mg mb s.heap →
      (∀ v s' L'' m' new, Fr s.heap L'' s'.heap m' → News s.heap L'' s'.heap new → (Fr h₀ L s'.heap m → News h₀ L s'.heap (new ++ news) → Sub s.heap s'.heap → (∀ q ∈ new, s.heap.get? q.1 = none) → R (.ok (.ret v)) s') → LeaveK h₀ L m s.heap R v s') →
      wpAny (model PG w) (A.deeper (envOf qual scope L' f cdv)) (execs body (envOf qual scope L' f cdv))
        (fun fl s' => LeaveK h₀ L m s.heap R (match fl with | .ret v => v | _ => .none) s')
        (fun e s' => wpAny (model PG w) (A.deeper (envOf qual scope L' f cdv)) (leaving (envOf qual scope L' f cdv) e) (fun _ s'' => R (.error e) s'') (fun e' s'' => R (.error e') s'') s')
        { s with heap := h₁, toks := s.toks + binds.length })
    (hco : scope.isCoroutine = false) (hgen : scope.isGenerator = false) (hk : scope.kind = .function)
    (hcell : ∀ x ∈ scope.names, x.2 ≠ .cell) : codeAny (model PG w) A (.call (.ref f) args) R s := by
  obtain ⟨FG, BG, st, lv⟩ := groundX (R := R) B F (News.nil (h₀ := h₀) (h := s.heap) (L := L)) hA hf hke
  refine codeAny_call_def (fd := fnX name qual params body scope [] dV kV doc pm an cdv ct) (body := body) (binds := binds) hroom ((X₀.keeps F.keep) _ _ ho) rfl (T.nolimit.keeps F.keep) (codeRec_of (X₀.keeps F.keep) hcd) rfl hbind hcell hloc (fun h₁ hns hk₁ => ?_) hco hgen hk
  refine wpAny_mono (h s.heap.objs.size h₁ ⟨hns, fun b o e => hk₁ b o e, Nat.le_refl _⟩ News.nil BG (X₀.keeps st) (T.keeps st) ?_) (fun fl s' hl => lv _ _ hl) fun _ _ y => y
  intro v s' L'' m' new F' N' k
  refine ⟨L'', m', new, F', N', fun F₂ N₂ => k F₂ ?_ F'.keep fun q hq => (N' q hq).2.2⟩
  intro q hq
  rcases List.mem_append.mp hq with hq | hq
  · exact N₂ q hq
  · exact ⟨F'.keep _ _ (N q hq).1, (N q hq).2⟩

/-- a call that only reads -/
def RSpec (w : World) (f : Addr) (dep : Nat) (vs : List Value) (pre : Heap → Prop) (post : Heap → Value → List (Addr × Obj) → Prop) : Prop :=
  ∀ (dp un : Nat) (gd : Option (List Code)) (cn : Str) (cs : Scope) (a : Addr) (ccd : Value) (cl : List (Str × Addr)) (outer : List Env) (A₀ : Around) (base h₀ : Heap) (L : Addr) (m : Str → Option Value) (news : List (Addr × Obj)) (s : Shared)
    (p : Program) (loose : List Str) (mean : ExcName → Option Value) (mg mb : Str → Option Value) (Q E : Value → Shared → Prop),
    Below A₀ base outer h₀ → Fr h₀ L s.heap m → (hd.heap_39 w.params).In h₀ → News h₀ L s.heap news → Top p loose mean mg mb h₀ → cs.kind = .function → dp + dep < recursionLimit → un + 8 * dep < cLine → pre s.heap →
    (∀ r new h' tk', Fr h₀ L h' m → News h₀ L h' (new ++ news) → Sub s.heap h' → (∀ q ∈ new, s.heap.get? q.1 = none) → post h' r new → Q r { s with heap := h', toks := tk' }) →
    wpAny (model PG w) (ktrTop dp un gd cn cs L a ccd cl outer) (call (.ref f) vs) Q E s

theorem RSpec.use {w : World} {f : Addr} {dep : Nat} {vs : List Value} {pre : Heap → Prop} {post : Heap → Value → List (Addr × Obj) → Prop} (S : RSpec w f dep vs pre post)
    {dp un : Nat} {gd : Option (List Code)} {cn : Str} {cs : Scope} {a : Addr} {ccd : Value} {cl : List (Str × Addr)} {outer : List Env} {A₀ : Around} {base h₀ : Heap} {L : Addr} {m : Str → Option Value} {news : List (Addr × Obj)} {s : Shared}
    {p : Program} {loose : List Str} {mean : ExcName → Option Value} {mg mb : Str → Option Value} {Q E : Value → Shared → Prop}
    (B : Below A₀ base outer h₀) (F : Fr h₀ L s.heap m) (X : (hd.heap_39 w.params).In h₀) (N : News h₀ L s.heap news) (T : Top p loose mean mg mb h₀) (hk : cs.kind = .function) (hd : dp + dep < recursionLimit) (hu : un + 8 * dep < cLine) (hp : pre s.heap)
    (ret : ∀ r new h' tk', Fr h₀ L h' m → News h₀ L h' (new ++ news) → Sub s.heap h' → (∀ q ∈ new, s.heap.get? q.1 = none) → post h' r new → Q r { s with heap := h', toks := tk' }) :
    wpAny (model PG w) (ktrTop dp un gd cn cs L a ccd cl outer) (call (.ref f) vs) Q E s := S _ _ _ _ _ _ _ _ _ _ _ _ _ _ _ _ _ _ _ _ _ _ _ B F X N T hk hd hu hp ret

theorem inst_base {g h : Heap} {L : Addr} {m : Str → Option Value} {x C dx : Addr} {od : Obj} {sl : Array (Option Value)} (F : Fr g L h m) (h1 : g.get? x = some ⟨.ref C, some dx, .plain, sl⟩) (h2 : g.get? dx = some od) :
    InstAt h x ⟨.ref C, some dx, .plain, sl⟩ C (some od) := ⟨F.keep _ _ h1, rfl, rfl, F.keep _ _ h2⟩

/-- the tree's own three objects -/
structure TB where
  t : Addr
  td : Addr
  rl : Addr
  kt : Tok
  ep : Nat
  en : Nat
def TB.objs (b : TB) (P : Params) (rs : List Value) : List (Addr × Obj) :=
  [(b.t, instObj 504 b.td), (b.td, dictOf [⟨PyData.keyHash P "rows", .str "rows" b.kt, .ref b.rl⟩] b.ep), (b.rl, listOf rs.toArray b.en)]
/-- a numbered node as a value -/
def nv (c : Nat × Tok) : Value := .int (c.1 : Int) c.2
def parV : Option (Nat × Tok) → Value
  | none => .none
  | some c => nv c
theorem handed_par (o : Option (Nat × Tok)) : handedIn (parV o) = true := by cases o <;> rfl
/-- a node's row -/
structure NR where
  a : Addr
  d : Addr
  cl : Addr
  al : Addr
  nl : Addr
  kind : Str
  name : Str
  uri : Str
  loc : Str
  value : Str
  par : Option (Nat × Tok)
  ch : List (Nat × Tok)
  at' : List (Nat × Tok)
  ns : List (Nat × Tok)
  kt : Nat → Tok
  vt : Nat → Tok
  ep : Nat → Nat
def NR.es (n : NR) (P : Params) : List DictEntry :=
  [⟨PyData.keyHash P "kind", .str "kind" (n.kt 0), .str n.kind (n.vt 0)⟩, ⟨PyData.keyHash P "name", .str "name" (n.kt 1), .str n.name (n.vt 1)⟩, ⟨PyData.keyHash P "uri", .str "uri" (n.kt 2), .str n.uri (n.vt 2)⟩,
   ⟨PyData.keyHash P "local", .str "local" (n.kt 3), .str n.loc (n.vt 3)⟩, ⟨PyData.keyHash P "value", .str "value" (n.kt 4), .str n.value (n.vt 4)⟩, ⟨PyData.keyHash P "parent", .str "parent" (n.kt 5), parV n.par⟩,
   ⟨PyData.keyHash P "children", .str "children" (n.kt 6), .ref n.cl⟩, ⟨PyData.keyHash P "attributes", .str "attributes" (n.kt 7), .ref n.al⟩, ⟨PyData.keyHash P "namespaces", .str "namespaces" (n.kt 8), .ref n.nl⟩]
def NR.objs (n : NR) (P : Params) : List (Addr × Obj) :=
  [(n.nl, listOf (n.ns.map nv).toArray (n.ep 3)), (n.al, listOf (n.at'.map nv).toArray (n.ep 2)), (n.cl, listOf (n.ch.map nv).toArray (n.ep 1)), (n.a, instObj 315 n.d), (n.d, dictOf (n.es P) (n.ep 0))]
structure NR.Is (n : NR) (kind name uri loc value : Str) (par : Option (Nat × Tok)) : Prop where
  kind : n.kind = kind
  name : n.name = name
  uri : n.uri = uri
  loc : n.loc = loc
  value : n.value = value
  par : n.par = par
  ch : n.ch = []
  at' : n.at' = []
  ns : n.ns = []
/-- a tree -/
structure PT where
  b : TB
  ns : List NR
def PT.objs (T : PT) (P : Params) : List (Addr × Obj) := T.b.objs P (T.ns.map fun n => .ref n.a) ++ T.ns.flatMap (NR.objs · P)
/-- the tree stands in the heap -/
def PT.At (T : PT) (P : Params) (h : Heap) : Prop := Has h (T.objs P) ∧ T.ns.length ≤ 1000 ∧ ∀ n ∈ T.ns, n.ch.length ≤ 1000 ∧ n.at'.length ≤ 1000 ∧ n.ns.length ≤ 1000
theorem PT.At.sub {T : PT} {P : Params} {h h' : Heap} (A : T.At P h) (S : Sub h h') : T.At P h' := ⟨fun q hq => S _ _ (A.1 q hq), A.2⟩
theorem PT.mem_node {T : PT} {P : Params} {n : NR} (hn : n ∈ T.ns) : ∀ q ∈ n.objs P, q ∈ T.objs P := fun q hq => List.mem_append_right _ (List.mem_flatMap.mpr ⟨n, hn, hq⟩)
/-- no address twice -/
abbrev ND (l : List (Addr × Obj)) : Prop := (l.map Prod.fst).Nodup
/-- a call that turns the ledger -/
def MSpec (w : World) (f : Addr) (dep : Nat) (vs : List Value) (news : List (Addr × Obj)) (post : Value → List (Addr × Obj) → Prop) : Prop :=
  ∀ (dp un : Nat) (gd : Option (List Code)) (cn : Str) (cs : Scope) (a : Addr) (ccd : Value) (cl : List (Str × Addr)) (outer : List Env) (A₀ : Around) (base h₀ : Heap) (L : Addr) (m : Str → Option Value) (s : Shared)
    (p : Program) (loose : List Str) (mean : ExcName → Option Value) (mg mb : Str → Option Value) (Q E : Value → Shared → Prop),
    Below A₀ base outer h₀ → Fr h₀ L s.heap m → (hd.heap_39 w.params).In h₀ → News h₀ L s.heap news → Top p loose mean mg mb h₀ → cs.kind = .function → dp + dep < recursionLimit → un + 8 * dep < cLine →
    (∀ r news' h' tk', Fr h₀ L h' m → News h₀ L h' news' → post r news' → Q r { s with heap := h', toks := tk' }) →
    wpAny (model PG w) (ktrTop dp un gd cn cs L a ccd cl outer) (call (.ref f) vs) Q E s
theorem MSpec.use {w : World} {f : Addr} {dep : Nat} {vs : List Value} {news : List (Addr × Obj)} {post : Value → List (Addr × Obj) → Prop} (S : MSpec w f dep vs news post)
    {dp un : Nat} {gd : Option (List Code)} {cn : Str} {cs : Scope} {a : Addr} {ccd : Value} {cl : List (Str × Addr)} {outer : List Env} {A₀ : Around} {base h₀ : Heap} {L : Addr} {m : Str → Option Value} {s : Shared}
    {p : Program} {loose : List Str} {mean : ExcName → Option Value} {mg mb : Str → Option Value} {Q E : Value → Shared → Prop}
    (B : Below A₀ base outer h₀) (F : Fr h₀ L s.heap m) (X : (hd.heap_39 w.params).In h₀) (N : News h₀ L s.heap news) (T : Top p loose mean mg mb h₀) (hk : cs.kind = .function) (hd : dp + dep < recursionLimit) (hu : un + 8 * dep < cLine)
    (ret : ∀ r news' h' tk', Fr h₀ L h' m → News h₀ L h' news' → post r news' → Q r { s with heap := h', toks := tk' }) :
    wpAny (model PG w) (ktrTop dp un gd cn cs L a ccd cl outer) (call (.ref f) vs) Q E s := S _ _ _ _ _ _ _ _ _ _ _ _ _ _ _ _ _ _ _ _ _ _ B F X N T hk hd hu ret
theorem News.of_sub {h₀ h : Heap} {L : Addr} {l l' : List (Addr × Obj)} (N : News h₀ L h l) (hs : ∀ p ∈ l', p ∈ l) : News h₀ L h l' := fun p hp => N p (hs p hp)
theorem inst_tree {T : PT} {P : Params} {g h : Heap} {L : Addr} {m : Str → Option Value} (F : Fr g L h m) (A : T.At P g) :
    InstAt h T.b.t (instObj 504 T.b.td) 504 (some (dictOf [⟨PyData.keyHash P "rows", .str "rows" T.b.kt, .ref T.b.rl⟩] T.b.ep)) := ⟨F.keep _ _ (A.1 _ (.head _)), rfl, rfl, F.keep _ _ (A.1 _ (.tail _ (.head _)))⟩
theorem mem5a {α : Type} {a b c d e : α} : a ∈ [a, b, c, d, e] := .head _
theorem mem5b {α : Type} {a b c d e : α} : b ∈ [a, b, c, d, e] := .tail _ (.head _)
theorem mem5c {α : Type} {a b c d e : α} : c ∈ [a, b, c, d, e] := .tail _ (.tail _ (.head _))
theorem mem5d {α : Type} {a b c d e : α} : d ∈ [a, b, c, d, e] := .tail _ (.tail _ (.tail _ (.head _)))
theorem mem5e {α : Type} {a b c d e : α} : e ∈ [a, b, c, d, e] := .tail _ (.tail _ (.tail _ (.tail _ (.head _))))
theorem inst_node {T : PT} {P : Params} {g h : Heap} {L : Addr} {m : Str → Option Value} {n : NR} (F : Fr g L h m) (A : T.At P g) (hn : n ∈ T.ns) : InstAt h n.a (instObj 315 n.d) 315 (some (dictOf (n.es P) (n.ep 0))) :=
  ⟨F.keep _ _ (A.1 _ (T.mem_node hn _ mem5d)), rfl, rfl, F.keep _ _ (A.1 _ (T.mem_node hn _ mem5e))⟩
theorem list_rows {T : PT} {P : Params} {g h : Heap} {L : Addr} {m : Str → Option Value} (F : Fr g L h m) (A : T.At P g) : h.IsList T.b.rl (T.ns.map fun n => Value.ref n.a).toArray := ⟨_, F.keep _ _ (A.1 _ (.tail _ (.tail _ (.head _)))), rfl, _, rfl⟩
theorem list_ch {T : PT} {P : Params} {g h : Heap} {L : Addr} {m : Str → Option Value} {n : NR} (F : Fr g L h m) (A : T.At P g) (hn : n ∈ T.ns) : h.IsList n.cl (n.ch.map nv).toArray := ⟨_, F.keep _ _ (A.1 _ (T.mem_node hn _ mem5c)), rfl, _, rfl⟩
theorem list_at {T : PT} {P : Params} {g h : Heap} {L : Addr} {m : Str → Option Value} {n : NR} (F : Fr g L h m) (A : T.At P g) (hn : n ∈ T.ns) : h.IsList n.al (n.at'.map nv).toArray := ⟨_, F.keep _ _ (A.1 _ (T.mem_node hn _ mem5b)), rfl, _, rfl⟩
theorem list_ns {T : PT} {P : Params} {g h : Heap} {L : Addr} {m : Str → Option Value} {n : NR} (F : Fr g L h m) (A : T.At P g) (hn : n ∈ T.ns) : h.IsList n.nl (n.ns.map nv).toArray := ⟨_, F.keep _ _ (A.1 _ (T.mem_node hn _ mem5a)), rfl, _, rfl⟩
theorem item_listA {prog : Program} {w : World} {A : Around} {E : Value → Shared → Prop} {s : Shared} {value slice : PySem.Expr} {a : Addr} {l : List Value} {k : Int} {u : Tok} {x : Value} {Q : Value → Shared → Prop} (hl : s.heap.IsList a l.toArray)
    (h0 : 0 ≤ k) (hhi : k < 2 ^ 63) (hx : l[k.toNat]? = some x) (h : Q x s)
    (hs : subscripted slice false (.ref a) (.int k u) = operate [.ref a, .int k u] (getItem (.ref a) (.int k u)) := by with_unfolding_all rfl) :
    wpAny (model prog w) A (subscriptTail value slice (.ref a) (.int k u)) Q E s :=
  tail_any hl.typeIs slot_list_getitem.lookup (wpAny_getItem_list hl h0 hhi (by simpa using hx) h) hs
end Mine
set_option maxHeartbeats 8000000
set_option compiler.extract_closed false
namespace Mine
local macro_rules | `(tactic| walk_at $s:str) => `(tactic| k_extra $s)
local macro_rules | `(tactic| k_inst) => `(tactic| k_extra "MY k_inst")
local macro_rules | `(tactic| k_room) => `(tactic| k_extra "MY k_room")
local macro_rules | `(tactic| k_handed) => `(tactic| k_extra "MY k_handed")
local macro_rules | `(tactic| k_all) => `(tactic| k_extra "MY k_all")
local macro_rules | `(tactic| k_tabat) => `(tactic| k_extra "MY k_tabat")
structure EpsOn (t : Nat) : Prop where
  a : True
structure Wit (t : Nat) {α : Type u} (P : α → Prop) where
  val : α
  ok : P val → ∀ y, P y
theorem eps_ex (t : Nat) {α : Type u} (n : Nonempty α) (P : α → Prop) : Nonempty (Wit t P) :=
  Classical.byCases (fun h : ∀ y, P y => n.elim fun x => ⟨⟨x, fun _ => h⟩⟩) fun h =>
    (Classical.not_forall.mp h).elim fun x hx => ⟨⟨x, fun e => absurd e hx⟩⟩
noncomputable def eps (t : Nat) {α : Type u} (n : Nonempty α) (P : α → Prop) : α := (Classical.choice (eps_ex t n P)).val
abbrev Ap (t : Nat) {α : Type u} (P : α → Prop) (x : α) : Prop := EpsOn t.succ → P x
abbrev AllAp (t : Nat) {α : Type u} (P : α → Prop) : Prop := ∀ x, Ap t P x
theorem apI {t : Nat} {α : Type u} {P : α → Prop} {x : α} (h : EpsOn t.succ → P x) : Ap t P x := h
theorem allI {t : Nat} {α : Type u} (e : EpsOn t) (n : Nonempty α) {P : α → Prop} (h : Ap t P (eps t n P)) : ∀ x, P x := (Classical.choice (eps_ex t n P)).ok (h ⟨True.intro⟩)
theorem propI {p : Prop} {q : p → Prop} (h : ∀ x : p, q x) : ∀ x, q x := h
theorem natI {P : Nat → Prop} (h0 : P 0) (hs : ∀ n, P n → P (n + 1)) : ∀ n, P n := fun n => Nat.rec h0 hs n
theorem optE {α : Type u} (o : Option α) : o = none ∨ ∃ u, o = some u := by cases o with | none => exact .inl rfl | some u => exact .inr ⟨u, rfl⟩
theorem prodI {α : Type u} {β : Type v} {P : α × β → Prop} (h : ∀ a b, P (a, b)) : ∀ z, P z := fun z => h z.1 z.2
theorem neW : Nonempty World := ⟨⟨fun _ _ => 0, { strHash := fun _ => 0, shareClass := fun _ => 0, mergeTok := id, idOf := fun _ => 0, idOfShared := fun _ _ => 0, followText := fun _ => false, idOfImm := fun _ => 0 }⟩⟩
theorem neS : Nonempty Shared := ⟨{}⟩
theorem nePa : Nonempty Params := neW.elim fun w => ⟨w.params⟩
theorem neDr : Nonempty Drawn := ⟨{}⟩
theorem neOs : Nonempty OsState := ⟨{}⟩
theorem nePD : Nonempty PyData := ⟨.none⟩
theorem neFun {α : Sort u} {β : Sort v} (b : Nonempty β) : Nonempty (α → β) := b.elim fun x => ⟨fun _ => x⟩
theorem neA : Nonempty Around := ⟨{}⟩
theorem neNR : Nonempty NR := ⟨⟨0, 0, 0, 0, 0, "", "", "", "", "", none, [], [], [], fun _ => 0, fun _ => 0, fun _ => 0⟩⟩
theorem neTB : Nonempty TB := ⟨⟨0, 0, 0, 0, 0, 0⟩⟩
theorem nePT : Nonempty PT := ⟨⟨⟨0, 0, 0, 0, 0, 0⟩, []⟩⟩
theorem cells1 {cm : Str → Option Value} {n1 : Str} {c1 : Addr} {cells : List (Addr × Obj)} {G : Prop} (x : CellsAre cm [(n1, c1)] cells) (g : ∀ o1, cells = [(c1, o1)] → o1.data = .cell (cm n1) → G) : G := by
  obtain ⟨o1, e, h1⟩ := x.one
  exact g o1 e h1
theorem cells2 {cm : Str → Option Value} {n1 n2 : Str} {c1 c2 : Addr} {cells : List (Addr × Obj)} {G : Prop} (x : CellsAre cm [(n1, c1), (n2, c2)] cells) (g : ∀ o1 o2, cells = [(c1, o1), (c2, o2)] → o1.data = .cell (cm n1) → o2.data = .cell (cm n2) → G) : G := by
  obtain ⟨o1, o2, e, h1, h2⟩ := x.two
  exact g o1 o2 e h1 h2
theorem cells3 {cm : Str → Option Value} {n1 n2 n3 : Str} {c1 c2 c3 : Addr} {cells : List (Addr × Obj)} {G : Prop} (x : CellsAre cm [(n1, c1), (n2, c2), (n3, c3)] cells) (g : ∀ o1 o2 o3, cells = [(c1, o1), (c2, o2), (c3, o3)] → o1.data = .cell (cm n1) → o2.data = .cell (cm n2) → o3.data = .cell (cm n3) → G) : G := by
  obtain ⟨o1, o2, o3, e, h1, h2, h3⟩ := x.three
  exact g o1 o2 o3 e h1 h2 h3
theorem neProd {α β : Type} (a : Nonempty α) (b : Nonempty β) : Nonempty (α × β) := a.elim fun x => b.elim fun y => ⟨(x, y)⟩
abbrev Ap2 (t : Nat) {α1 α2 : Type} (P : α1 → α2 → Prop) (a1 : α1) (a2 : α2) : Prop := EpsOn t.succ → P a1 a2
abbrev AllAp2 (t : Nat) {α1 α2 : Type} (P : α1 → α2 → Prop) : Prop := ∀ a1 a2, Ap2 t P a1 a2
noncomputable def zz2 (t : Nat) {α1 α2 : Type} (n : Nonempty (α1 × α2)) (P : α1 → α2 → Prop) : α1 × α2 := eps t n fun z => P z.1 z.2
theorem apI2 {t : Nat} {α1 α2 : Type} {P : α1 → α2 → Prop} {a1 a2} (h : EpsOn t.succ → P a1 a2) : Ap2 t P a1 a2 := h
theorem all2 {t : Nat} (e : EpsOn t) {α1 α2 : Type} (n : Nonempty (α1 × α2)) {P : α1 → α2 → Prop} (h : Ap2 t P (zz2 t n P).1 (zz2 t n P).2) : ∀ a1 a2, P a1 a2 := fun a1 a2 => allI e n (P := fun z : α1 × α2 => P z.1 z.2) h (a1, a2)
abbrev Ap3 (t : Nat) {α1 α2 α3 : Type} (P : α1 → α2 → α3 → Prop) (a1 : α1) (a2 : α2) (a3 : α3) : Prop := EpsOn t.succ → P a1 a2 a3
abbrev AllAp3 (t : Nat) {α1 α2 α3 : Type} (P : α1 → α2 → α3 → Prop) : Prop := ∀ a1 a2 a3, Ap3 t P a1 a2 a3
noncomputable def zz3 (t : Nat) {α1 α2 α3 : Type} (n : Nonempty (α1 × α2 × α3)) (P : α1 → α2 → α3 → Prop) : α1 × α2 × α3 := eps t n fun z => P z.1 z.2.1 z.2.2
theorem apI3 {t : Nat} {α1 α2 α3 : Type} {P : α1 → α2 → α3 → Prop} {a1 a2 a3} (h : EpsOn t.succ → P a1 a2 a3) : Ap3 t P a1 a2 a3 := h
theorem all3 {t : Nat} (e : EpsOn t) {α1 α2 α3 : Type} (n : Nonempty (α1 × α2 × α3)) {P : α1 → α2 → α3 → Prop} (h : Ap3 t P (zz3 t n P).1 (zz3 t n P).2.1 (zz3 t n P).2.2) : ∀ a1 a2 a3, P a1 a2 a3 := fun a1 a2 a3 => allI e n (P := fun z : α1 × α2 × α3 => P z.1 z.2.1 z.2.2) h (a1, a2, a3)
abbrev Ap4 (t : Nat) {α1 α2 α3 α4 : Type} (P : α1 → α2 → α3 → α4 → Prop) (a1 : α1) (a2 : α2) (a3 : α3) (a4 : α4) : Prop := EpsOn t.succ → P a1 a2 a3 a4
abbrev AllAp4 (t : Nat) {α1 α2 α3 α4 : Type} (P : α1 → α2 → α3 → α4 → Prop) : Prop := ∀ a1 a2 a3 a4, Ap4 t P a1 a2 a3 a4
noncomputable def zz4 (t : Nat) {α1 α2 α3 α4 : Type} (n : Nonempty (α1 × α2 × α3 × α4)) (P : α1 → α2 → α3 → α4 → Prop) : α1 × α2 × α3 × α4 := eps t n fun z => P z.1 z.2.1 z.2.2.1 z.2.2.2
theorem apI4 {t : Nat} {α1 α2 α3 α4 : Type} {P : α1 → α2 → α3 → α4 → Prop} {a1 a2 a3 a4} (h : EpsOn t.succ → P a1 a2 a3 a4) : Ap4 t P a1 a2 a3 a4 := h
theorem all4 {t : Nat} (e : EpsOn t) {α1 α2 α3 α4 : Type} (n : Nonempty (α1 × α2 × α3 × α4)) {P : α1 → α2 → α3 → α4 → Prop} (h : Ap4 t P (zz4 t n P).1 (zz4 t n P).2.1 (zz4 t n P).2.2.1 (zz4 t n P).2.2.2) : ∀ a1 a2 a3 a4, P a1 a2 a3 a4 := fun a1 a2 a3 a4 => allI e n (P := fun z : α1 × α2 × α3 × α4 => P z.1 z.2.1 z.2.2.1 z.2.2.2) h (a1, a2, a3, a4)
abbrev Ap5 (t : Nat) {α1 α2 α3 α4 α5 : Type} (P : α1 → α2 → α3 → α4 → α5 → Prop) (a1 : α1) (a2 : α2) (a3 : α3) (a4 : α4) (a5 : α5) : Prop := EpsOn t.succ → P a1 a2 a3 a4 a5
abbrev AllAp5 (t : Nat) {α1 α2 α3 α4 α5 : Type} (P : α1 → α2 → α3 → α4 → α5 → Prop) : Prop := ∀ a1 a2 a3 a4 a5, Ap5 t P a1 a2 a3 a4 a5
noncomputable def zz5 (t : Nat) {α1 α2 α3 α4 α5 : Type} (n : Nonempty (α1 × α2 × α3 × α4 × α5)) (P : α1 → α2 → α3 → α4 → α5 → Prop) : α1 × α2 × α3 × α4 × α5 := eps t n fun z => P z.1 z.2.1 z.2.2.1 z.2.2.2.1 z.2.2.2.2
theorem apI5 {t : Nat} {α1 α2 α3 α4 α5 : Type} {P : α1 → α2 → α3 → α4 → α5 → Prop} {a1 a2 a3 a4 a5} (h : EpsOn t.succ → P a1 a2 a3 a4 a5) : Ap5 t P a1 a2 a3 a4 a5 := h
theorem all5 {t : Nat} (e : EpsOn t) {α1 α2 α3 α4 α5 : Type} (n : Nonempty (α1 × α2 × α3 × α4 × α5)) {P : α1 → α2 → α3 → α4 → α5 → Prop} (h : Ap5 t P (zz5 t n P).1 (zz5 t n P).2.1 (zz5 t n P).2.2.1 (zz5 t n P).2.2.2.1 (zz5 t n P).2.2.2.2) : ∀ a1 a2 a3 a4 a5, P a1 a2 a3 a4 a5 := fun a1 a2 a3 a4 a5 => allI e n (P := fun z : α1 × α2 × α3 × α4 × α5 => P z.1 z.2.1 z.2.2.1 z.2.2.2.1 z.2.2.2.2) h (a1, a2, a3, a4, a5)
abbrev Ap6 (t : Nat) {α1 α2 α3 α4 α5 α6 : Type} (P : α1 → α2 → α3 → α4 → α5 → α6 → Prop) (a1 : α1) (a2 : α2) (a3 : α3) (a4 : α4) (a5 : α5) (a6 : α6) : Prop := EpsOn t.succ → P a1 a2 a3 a4 a5 a6
abbrev AllAp6 (t : Nat) {α1 α2 α3 α4 α5 α6 : Type} (P : α1 → α2 → α3 → α4 → α5 → α6 → Prop) : Prop := ∀ a1 a2 a3 a4 a5 a6, Ap6 t P a1 a2 a3 a4 a5 a6
noncomputable def zz6 (t : Nat) {α1 α2 α3 α4 α5 α6 : Type} (n : Nonempty (α1 × α2 × α3 × α4 × α5 × α6)) (P : α1 → α2 → α3 → α4 → α5 → α6 → Prop) : α1 × α2 × α3 × α4 × α5 × α6 := eps t n fun z => P z.1 z.2.1 z.2.2.1 z.2.2.2.1 z.2.2.2.2.1 z.2.2.2.2.2
theorem apI6 {t : Nat} {α1 α2 α3 α4 α5 α6 : Type} {P : α1 → α2 → α3 → α4 → α5 → α6 → Prop} {a1 a2 a3 a4 a5 a6} (h : EpsOn t.succ → P a1 a2 a3 a4 a5 a6) : Ap6 t P a1 a2 a3 a4 a5 a6 := h
theorem all6 {t : Nat} (e : EpsOn t) {α1 α2 α3 α4 α5 α6 : Type} (n : Nonempty (α1 × α2 × α3 × α4 × α5 × α6)) {P : α1 → α2 → α3 → α4 → α5 → α6 → Prop} (h : Ap6 t P (zz6 t n P).1 (zz6 t n P).2.1 (zz6 t n P).2.2.1 (zz6 t n P).2.2.2.1 (zz6 t n P).2.2.2.2.1 (zz6 t n P).2.2.2.2.2) : ∀ a1 a2 a3 a4 a5 a6, P a1 a2 a3 a4 a5 a6 := fun a1 a2 a3 a4 a5 a6 => allI e n (P := fun z : α1 × α2 × α3 × α4 × α5 × α6 => P z.1 z.2.1 z.2.2.1 z.2.2.2.1 z.2.2.2.2.1 z.2.2.2.2.2) h (a1, a2, a3, a4, a5, a6)
abbrev Ap8 (t : Nat) {α1 α2 α3 α4 α5 α6 α7 α8 : Type} (P : α1 → α2 → α3 → α4 → α5 → α6 → α7 → α8 → Prop) (a1 : α1) (a2 : α2) (a3 : α3) (a4 : α4) (a5 : α5) (a6 : α6) (a7 : α7) (a8 : α8) : Prop := EpsOn t.succ → P a1 a2 a3 a4 a5 a6 a7 a8
abbrev AllAp8 (t : Nat) {α1 α2 α3 α4 α5 α6 α7 α8 : Type} (P : α1 → α2 → α3 → α4 → α5 → α6 → α7 → α8 → Prop) : Prop := ∀ a1 a2 a3 a4 a5 a6 a7 a8, Ap8 t P a1 a2 a3 a4 a5 a6 a7 a8
noncomputable def zz8 (t : Nat) {α1 α2 α3 α4 α5 α6 α7 α8 : Type} (n : Nonempty (α1 × α2 × α3 × α4 × α5 × α6 × α7 × α8)) (P : α1 → α2 → α3 → α4 → α5 → α6 → α7 → α8 → Prop) : α1 × α2 × α3 × α4 × α5 × α6 × α7 × α8 := eps t n fun z => P z.1 z.2.1 z.2.2.1 z.2.2.2.1 z.2.2.2.2.1 z.2.2.2.2.2.1 z.2.2.2.2.2.2.1 z.2.2.2.2.2.2.2
theorem apI8 {t : Nat} {α1 α2 α3 α4 α5 α6 α7 α8 : Type} {P : α1 → α2 → α3 → α4 → α5 → α6 → α7 → α8 → Prop} {a1 a2 a3 a4 a5 a6 a7 a8} (h : EpsOn t.succ → P a1 a2 a3 a4 a5 a6 a7 a8) : Ap8 t P a1 a2 a3 a4 a5 a6 a7 a8 := h
theorem all8 {t : Nat} (e : EpsOn t) {α1 α2 α3 α4 α5 α6 α7 α8 : Type} (n : Nonempty (α1 × α2 × α3 × α4 × α5 × α6 × α7 × α8)) {P : α1 → α2 → α3 → α4 → α5 → α6 → α7 → α8 → Prop} (h : Ap8 t P (zz8 t n P).1 (zz8 t n P).2.1 (zz8 t n P).2.2.1 (zz8 t n P).2.2.2.1 (zz8 t n P).2.2.2.2.1 (zz8 t n P).2.2.2.2.2.1 (zz8 t n P).2.2.2.2.2.2.1 (zz8 t n P).2.2.2.2.2.2.2) : ∀ a1 a2 a3 a4 a5 a6 a7 a8, P a1 a2 a3 a4 a5 a6 a7 a8 := fun a1 a2 a3 a4 a5 a6 a7 a8 => allI e n (P := fun z : α1 × α2 × α3 × α4 × α5 × α6 × α7 × α8 => P z.1 z.2.1 z.2.2.1 z.2.2.2.1 z.2.2.2.2.1 z.2.2.2.2.2.1 z.2.2.2.2.2.2.1 z.2.2.2.2.2.2.2) h (a1, a2, a3, a4, a5, a6, a7, a8)
abbrev Ap12 (t : Nat) {α1 α2 α3 α4 α5 α6 α7 α8 α9 α10 α11 α12 : Type} (P : α1 → α2 → α3 → α4 → α5 → α6 → α7 → α8 → α9 → α10 → α11 → α12 → Prop) (a1 : α1) (a2 : α2) (a3 : α3) (a4 : α4) (a5 : α5) (a6 : α6) (a7 : α7) (a8 : α8) (a9 : α9) (a10 : α10) (a11 : α11) (a12 : α12) : Prop := EpsOn t.succ → P a1 a2 a3 a4 a5 a6 a7 a8 a9 a10 a11 a12
abbrev AllAp12 (t : Nat) {α1 α2 α3 α4 α5 α6 α7 α8 α9 α10 α11 α12 : Type} (P : α1 → α2 → α3 → α4 → α5 → α6 → α7 → α8 → α9 → α10 → α11 → α12 → Prop) : Prop := ∀ a1 a2 a3 a4 a5 a6 a7 a8 a9 a10 a11 a12, Ap12 t P a1 a2 a3 a4 a5 a6 a7 a8 a9 a10 a11 a12
noncomputable def zz12 (t : Nat) {α1 α2 α3 α4 α5 α6 α7 α8 α9 α10 α11 α12 : Type} (n : Nonempty (α1 × α2 × α3 × α4 × α5 × α6 × α7 × α8 × α9 × α10 × α11 × α12)) (P : α1 → α2 → α3 → α4 → α5 → α6 → α7 → α8 → α9 → α10 → α11 → α12 → Prop) : α1 × α2 × α3 × α4 × α5 × α6 × α7 × α8 × α9 × α10 × α11 × α12 := eps t n fun z => P z.1 z.2.1 z.2.2.1 z.2.2.2.1 z.2.2.2.2.1 z.2.2.2.2.2.1 z.2.2.2.2.2.2.1 z.2.2.2.2.2.2.2.1 z.2.2.2.2.2.2.2.2.1 z.2.2.2.2.2.2.2.2.2.1 z.2.2.2.2.2.2.2.2.2.2.1 z.2.2.2.2.2.2.2.2.2.2.2
theorem apI12 {t : Nat} {α1 α2 α3 α4 α5 α6 α7 α8 α9 α10 α11 α12 : Type} {P : α1 → α2 → α3 → α4 → α5 → α6 → α7 → α8 → α9 → α10 → α11 → α12 → Prop} {a1 a2 a3 a4 a5 a6 a7 a8 a9 a10 a11 a12} (h : EpsOn t.succ → P a1 a2 a3 a4 a5 a6 a7 a8 a9 a10 a11 a12) : Ap12 t P a1 a2 a3 a4 a5 a6 a7 a8 a9 a10 a11 a12 := h
theorem all12 {t : Nat} (e : EpsOn t) {α1 α2 α3 α4 α5 α6 α7 α8 α9 α10 α11 α12 : Type} (n : Nonempty (α1 × α2 × α3 × α4 × α5 × α6 × α7 × α8 × α9 × α10 × α11 × α12)) {P : α1 → α2 → α3 → α4 → α5 → α6 → α7 → α8 → α9 → α10 → α11 → α12 → Prop} (h : Ap12 t P (zz12 t n P).1 (zz12 t n P).2.1 (zz12 t n P).2.2.1 (zz12 t n P).2.2.2.1 (zz12 t n P).2.2.2.2.1 (zz12 t n P).2.2.2.2.2.1 (zz12 t n P).2.2.2.2.2.2.1 (zz12 t n P).2.2.2.2.2.2.2.1 (zz12 t n P).2.2.2.2.2.2.2.2.1 (zz12 t n P).2.2.2.2.2.2.2.2.2.1 (zz12 t n P).2.2.2.2.2.2.2.2.2.2.1 (zz12 t n P).2.2.2.2.2.2.2.2.2.2.2) : ∀ a1 a2 a3 a4 a5 a6 a7 a8 a9 a10 a11 a12, P a1 a2 a3 a4 a5 a6 a7 a8 a9 a10 a11 a12 := fun a1 a2 a3 a4 a5 a6 a7 a8 a9 a10 a11 a12 => allI e n (P := fun z : α1 × α2 × α3 × α4 × α5 × α6 × α7 × α8 × α9 × α10 × α11 × α12 => P z.1 z.2.1 z.2.2.1 z.2.2.2.1 z.2.2.2.2.1 z.2.2.2.2.2.1 z.2.2.2.2.2.2.1 z.2.2.2.2.2.2.2.1 z.2.2.2.2.2.2.2.2.1 z.2.2.2.2.2.2.2.2.2.1 z.2.2.2.2.2.2.2.2.2.2.1 z.2.2.2.2.2.2.2.2.2.2.2) h (a1, a2, a3, a4, a5, a6, a7, a8, a9, a10, a11, a12)
abbrev Ap22 (t : Nat) {α1 α2 α3 α4 α5 α6 α7 α8 α9 α10 α11 α12 α13 α14 α15 α16 α17 α18 α19 α20 α21 α22 : Type} (P : α1 → α2 → α3 → α4 → α5 → α6 → α7 → α8 → α9 → α10 → α11 → α12 → α13 → α14 → α15 → α16 → α17 → α18 → α19 → α20 → α21 → α22 → Prop) (a1 : α1) (a2 : α2) (a3 : α3) (a4 : α4) (a5 : α5) (a6 : α6) (a7 : α7) (a8 : α8) (a9 : α9) (a10 : α10) (a11 : α11) (a12 : α12) (a13 : α13) (a14 : α14) (a15 : α15) (a16 : α16) (a17 : α17) (a18 : α18) (a19 : α19) (a20 : α20) (a21 : α21) (a22 : α22) : Prop := EpsOn t.succ → P a1 a2 a3 a4 a5 a6 a7 a8 a9 a10 a11 a12 a13 a14 a15 a16 a17 a18 a19 a20 a21 a22
abbrev AllAp22 (t : Nat) {α1 α2 α3 α4 α5 α6 α7 α8 α9 α10 α11 α12 α13 α14 α15 α16 α17 α18 α19 α20 α21 α22 : Type} (P : α1 → α2 → α3 → α4 → α5 → α6 → α7 → α8 → α9 → α10 → α11 → α12 → α13 → α14 → α15 → α16 → α17 → α18 → α19 → α20 → α21 → α22 → Prop) : Prop := ∀ a1 a2 a3 a4 a5 a6 a7 a8 a9 a10 a11 a12 a13 a14 a15 a16 a17 a18 a19 a20 a21 a22, Ap22 t P a1 a2 a3 a4 a5 a6 a7 a8 a9 a10 a11 a12 a13 a14 a15 a16 a17 a18 a19 a20 a21 a22
noncomputable def zz22 (t : Nat) {α1 α2 α3 α4 α5 α6 α7 α8 α9 α10 α11 α12 α13 α14 α15 α16 α17 α18 α19 α20 α21 α22 : Type} (n : Nonempty (α1 × α2 × α3 × α4 × α5 × α6 × α7 × α8 × α9 × α10 × α11 × α12 × α13 × α14 × α15 × α16 × α17 × α18 × α19 × α20 × α21 × α22)) (P : α1 → α2 → α3 → α4 → α5 → α6 → α7 → α8 → α9 → α10 → α11 → α12 → α13 → α14 → α15 → α16 → α17 → α18 → α19 → α20 → α21 → α22 → Prop) : α1 × α2 × α3 × α4 × α5 × α6 × α7 × α8 × α9 × α10 × α11 × α12 × α13 × α14 × α15 × α16 × α17 × α18 × α19 × α20 × α21 × α22 := eps t n fun z => P z.1 z.2.1 z.2.2.1 z.2.2.2.1 z.2.2.2.2.1 z.2.2.2.2.2.1 z.2.2.2.2.2.2.1 z.2.2.2.2.2.2.2.1 z.2.2.2.2.2.2.2.2.1 z.2.2.2.2.2.2.2.2.2.1 z.2.2.2.2.2.2.2.2.2.2.1 z.2.2.2.2.2.2.2.2.2.2.2.1 z.2.2.2.2.2.2.2.2.2.2.2.2.1 z.2.2.2.2.2.2.2.2.2.2.2.2.2.1 z.2.2.2.2.2.2.2.2.2.2.2.2.2.2.1 z.2.2.2.2.2.2.2.2.2.2.2.2.2.2.2.1 z.2.2.2.2.2.2.2.2.2.2.2.2.2.2.2.2.1 z.2.2.2.2.2.2.2.2.2.2.2.2.2.2.2.2.2.1 z.2.2.2.2.2.2.2.2.2.2.2.2.2.2.2.2.2.2.1 z.2.2.2.2.2.2.2.2.2.2.2.2.2.2.2.2.2.2.2.1 z.2.2.2.2.2.2.2.2.2.2.2.2.2.2.2.2.2.2.2.2.1 z.2.2.2.2.2.2.2.2.2.2.2.2.2.2.2.2.2.2.2.2.2
theorem apI22 {t : Nat} {α1 α2 α3 α4 α5 α6 α7 α8 α9 α10 α11 α12 α13 α14 α15 α16 α17 α18 α19 α20 α21 α22 : Type} {P : α1 → α2 → α3 → α4 → α5 → α6 → α7 → α8 → α9 → α10 → α11 → α12 → α13 → α14 → α15 → α16 → α17 → α18 → α19 → α20 → α21 → α22 → Prop} {a1 a2 a3 a4 a5 a6 a7 a8 a9 a10 a11 a12 a13 a14 a15 a16 a17 a18 a19 a20 a21 a22} (h : EpsOn t.succ → P a1 a2 a3 a4 a5 a6 a7 a8 a9 a10 a11 a12 a13 a14 a15 a16 a17 a18 a19 a20 a21 a22) : Ap22 t P a1 a2 a3 a4 a5 a6 a7 a8 a9 a10 a11 a12 a13 a14 a15 a16 a17 a18 a19 a20 a21 a22 := h
theorem all22 {t : Nat} (e : EpsOn t) {α1 α2 α3 α4 α5 α6 α7 α8 α9 α10 α11 α12 α13 α14 α15 α16 α17 α18 α19 α20 α21 α22 : Type} (n : Nonempty (α1 × α2 × α3 × α4 × α5 × α6 × α7 × α8 × α9 × α10 × α11 × α12 × α13 × α14 × α15 × α16 × α17 × α18 × α19 × α20 × α21 × α22)) {P : α1 → α2 → α3 → α4 → α5 → α6 → α7 → α8 → α9 → α10 → α11 → α12 → α13 → α14 → α15 → α16 → α17 → α18 → α19 → α20 → α21 → α22 → Prop} (h : Ap22 t P (zz22 t n P).1 (zz22 t n P).2.1 (zz22 t n P).2.2.1 (zz22 t n P).2.2.2.1 (zz22 t n P).2.2.2.2.1 (zz22 t n P).2.2.2.2.2.1 (zz22 t n P).2.2.2.2.2.2.1 (zz22 t n P).2.2.2.2.2.2.2.1 (zz22 t n P).2.2.2.2.2.2.2.2.1 (zz22 t n P).2.2.2.2.2.2.2.2.2.1 (zz22 t n P).2.2.2.2.2.2.2.2.2.2.1 (zz22 t n P).2.2.2.2.2.2.2.2.2.2.2.1 (zz22 t n P).2.2.2.2.2.2.2.2.2.2.2.2.1 (zz22 t n P).2.2.2.2.2.2.2.2.2.2.2.2.2.1 (zz22 t n P).2.2.2.2.2.2.2.2.2.2.2.2.2.2.1 (zz22 t n P).2.2.2.2.2.2.2.2.2.2.2.2.2.2.2.1 (zz22 t n P).2.2.2.2.2.2.2.2.2.2.2.2.2.2.2.2.1 (zz22 t n P).2.2.2.2.2.2.2.2.2.2.2.2.2.2.2.2.2.1 (zz22 t n P).2.2.2.2.2.2.2.2.2.2.2.2.2.2.2.2.2.2.1 (zz22 t n P).2.2.2.2.2.2.2.2.2.2.2.2.2.2.2.2.2.2.2.1 (zz22 t n P).2.2.2.2.2.2.2.2.2.2.2.2.2.2.2.2.2.2.2.2.1 (zz22 t n P).2.2.2.2.2.2.2.2.2.2.2.2.2.2.2.2.2.2.2.2.2) : ∀ a1 a2 a3 a4 a5 a6 a7 a8 a9 a10 a11 a12 a13 a14 a15 a16 a17 a18 a19 a20 a21 a22, P a1 a2 a3 a4 a5 a6 a7 a8 a9 a10 a11 a12 a13 a14 a15 a16 a17 a18 a19 a20 a21 a22 := fun a1 a2 a3 a4 a5 a6 a7 a8 a9 a10 a11 a12 a13 a14 a15 a16 a17 a18 a19 a20 a21 a22 => allI e n (P := fun z : α1 × α2 × α3 × α4 × α5 × α6 × α7 × α8 × α9 × α10 × α11 × α12 × α13 × α14 × α15 × α16 × α17 × α18 × α19 × α20 × α21 × α22 => P z.1 z.2.1 z.2.2.1 z.2.2.2.1 z.2.2.2.2.1 z.2.2.2.2.2.1 z.2.2.2.2.2.2.1 z.2.2.2.2.2.2.2.1 z.2.2.2.2.2.2.2.2.1 z.2.2.2.2.2.2.2.2.2.1 z.2.2.2.2.2.2.2.2.2.2.1 z.2.2.2.2.2.2.2.2.2.2.2.1 z.2.2.2.2.2.2.2.2.2.2.2.2.1 z.2.2.2.2.2.2.2.2.2.2.2.2.2.1 z.2.2.2.2.2.2.2.2.2.2.2.2.2.2.1 z.2.2.2.2.2.2.2.2.2.2.2.2.2.2.2.1 z.2.2.2.2.2.2.2.2.2.2.2.2.2.2.2.2.1 z.2.2.2.2.2.2.2.2.2.2.2.2.2.2.2.2.2.1 z.2.2.2.2.2.2.2.2.2.2.2.2.2.2.2.2.2.2.1 z.2.2.2.2.2.2.2.2.2.2.2.2.2.2.2.2.2.2.2.1 z.2.2.2.2.2.2.2.2.2.2.2.2.2.2.2.2.2.2.2.2.1 z.2.2.2.2.2.2.2.2.2.2.2.2.2.2.2.2.2.2.2.2.2) h (a1, a2, a3, a4, a5, a6, a7, a8, a9, a10, a11, a12, a13, a14, a15, a16, a17, a18, a19, a20, a21, a22)
abbrev Ap23 (t : Nat) {α1 α2 α3 α4 α5 α6 α7 α8 α9 α10 α11 α12 α13 α14 α15 α16 α17 α18 α19 α20 α21 α22 α23 : Type} (P : α1 → α2 → α3 → α4 → α5 → α6 → α7 → α8 → α9 → α10 → α11 → α12 → α13 → α14 → α15 → α16 → α17 → α18 → α19 → α20 → α21 → α22 → α23 → Prop) (a1 : α1) (a2 : α2) (a3 : α3) (a4 : α4) (a5 : α5) (a6 : α6) (a7 : α7) (a8 : α8) (a9 : α9) (a10 : α10) (a11 : α11) (a12 : α12) (a13 : α13) (a14 : α14) (a15 : α15) (a16 : α16) (a17 : α17) (a18 : α18) (a19 : α19) (a20 : α20) (a21 : α21) (a22 : α22) (a23 : α23) : Prop := EpsOn t.succ → P a1 a2 a3 a4 a5 a6 a7 a8 a9 a10 a11 a12 a13 a14 a15 a16 a17 a18 a19 a20 a21 a22 a23
abbrev AllAp23 (t : Nat) {α1 α2 α3 α4 α5 α6 α7 α8 α9 α10 α11 α12 α13 α14 α15 α16 α17 α18 α19 α20 α21 α22 α23 : Type} (P : α1 → α2 → α3 → α4 → α5 → α6 → α7 → α8 → α9 → α10 → α11 → α12 → α13 → α14 → α15 → α16 → α17 → α18 → α19 → α20 → α21 → α22 → α23 → Prop) : Prop := ∀ a1 a2 a3 a4 a5 a6 a7 a8 a9 a10 a11 a12 a13 a14 a15 a16 a17 a18 a19 a20 a21 a22 a23, Ap23 t P a1 a2 a3 a4 a5 a6 a7 a8 a9 a10 a11 a12 a13 a14 a15 a16 a17 a18 a19 a20 a21 a22 a23
noncomputable def zz23 (t : Nat) {α1 α2 α3 α4 α5 α6 α7 α8 α9 α10 α11 α12 α13 α14 α15 α16 α17 α18 α19 α20 α21 α22 α23 : Type} (n : Nonempty (α1 × α2 × α3 × α4 × α5 × α6 × α7 × α8 × α9 × α10 × α11 × α12 × α13 × α14 × α15 × α16 × α17 × α18 × α19 × α20 × α21 × α22 × α23)) (P : α1 → α2 → α3 → α4 → α5 → α6 → α7 → α8 → α9 → α10 → α11 → α12 → α13 → α14 → α15 → α16 → α17 → α18 → α19 → α20 → α21 → α22 → α23 → Prop) : α1 × α2 × α3 × α4 × α5 × α6 × α7 × α8 × α9 × α10 × α11 × α12 × α13 × α14 × α15 × α16 × α17 × α18 × α19 × α20 × α21 × α22 × α23 := eps t n fun z => P z.1 z.2.1 z.2.2.1 z.2.2.2.1 z.2.2.2.2.1 z.2.2.2.2.2.1 z.2.2.2.2.2.2.1 z.2.2.2.2.2.2.2.1 z.2.2.2.2.2.2.2.2.1 z.2.2.2.2.2.2.2.2.2.1 z.2.2.2.2.2.2.2.2.2.2.1 z.2.2.2.2.2.2.2.2.2.2.2.1 z.2.2.2.2.2.2.2.2.2.2.2.2.1 z.2.2.2.2.2.2.2.2.2.2.2.2.2.1 z.2.2.2.2.2.2.2.2.2.2.2.2.2.2.1 z.2.2.2.2.2.2.2.2.2.2.2.2.2.2.2.1 z.2.2.2.2.2.2.2.2.2.2.2.2.2.2.2.2.1 z.2.2.2.2.2.2.2.2.2.2.2.2.2.2.2.2.2.1 z.2.2.2.2.2.2.2.2.2.2.2.2.2.2.2.2.2.2.1 z.2.2.2.2.2.2.2.2.2.2.2.2.2.2.2.2.2.2.2.1 z.2.2.2.2.2.2.2.2.2.2.2.2.2.2.2.2.2.2.2.2.1 z.2.2.2.2.2.2.2.2.2.2.2.2.2.2.2.2.2.2.2.2.2.1 z.2.2.2.2.2.2.2.2.2.2.2.2.2.2.2.2.2.2.2.2.2.2
theorem apI23 {t : Nat} {α1 α2 α3 α4 α5 α6 α7 α8 α9 α10 α11 α12 α13 α14 α15 α16 α17 α18 α19 α20 α21 α22 α23 : Type} {P : α1 → α2 → α3 → α4 → α5 → α6 → α7 → α8 → α9 → α10 → α11 → α12 → α13 → α14 → α15 → α16 → α17 → α18 → α19 → α20 → α21 → α22 → α23 → Prop} {a1 a2 a3 a4 a5 a6 a7 a8 a9 a10 a11 a12 a13 a14 a15 a16 a17 a18 a19 a20 a21 a22 a23} (h : EpsOn t.succ → P a1 a2 a3 a4 a5 a6 a7 a8 a9 a10 a11 a12 a13 a14 a15 a16 a17 a18 a19 a20 a21 a22 a23) : Ap23 t P a1 a2 a3 a4 a5 a6 a7 a8 a9 a10 a11 a12 a13 a14 a15 a16 a17 a18 a19 a20 a21 a22 a23 := h
theorem all23 {t : Nat} (e : EpsOn t) {α1 α2 α3 α4 α5 α6 α7 α8 α9 α10 α11 α12 α13 α14 α15 α16 α17 α18 α19 α20 α21 α22 α23 : Type} (n : Nonempty (α1 × α2 × α3 × α4 × α5 × α6 × α7 × α8 × α9 × α10 × α11 × α12 × α13 × α14 × α15 × α16 × α17 × α18 × α19 × α20 × α21 × α22 × α23)) {P : α1 → α2 → α3 → α4 → α5 → α6 → α7 → α8 → α9 → α10 → α11 → α12 → α13 → α14 → α15 → α16 → α17 → α18 → α19 → α20 → α21 → α22 → α23 → Prop} (h : Ap23 t P (zz23 t n P).1 (zz23 t n P).2.1 (zz23 t n P).2.2.1 (zz23 t n P).2.2.2.1 (zz23 t n P).2.2.2.2.1 (zz23 t n P).2.2.2.2.2.1 (zz23 t n P).2.2.2.2.2.2.1 (zz23 t n P).2.2.2.2.2.2.2.1 (zz23 t n P).2.2.2.2.2.2.2.2.1 (zz23 t n P).2.2.2.2.2.2.2.2.2.1 (zz23 t n P).2.2.2.2.2.2.2.2.2.2.1 (zz23 t n P).2.2.2.2.2.2.2.2.2.2.2.1 (zz23 t n P).2.2.2.2.2.2.2.2.2.2.2.2.1 (zz23 t n P).2.2.2.2.2.2.2.2.2.2.2.2.2.1 (zz23 t n P).2.2.2.2.2.2.2.2.2.2.2.2.2.2.1 (zz23 t n P).2.2.2.2.2.2.2.2.2.2.2.2.2.2.2.1 (zz23 t n P).2.2.2.2.2.2.2.2.2.2.2.2.2.2.2.2.1 (zz23 t n P).2.2.2.2.2.2.2.2.2.2.2.2.2.2.2.2.2.1 (zz23 t n P).2.2.2.2.2.2.2.2.2.2.2.2.2.2.2.2.2.2.1 (zz23 t n P).2.2.2.2.2.2.2.2.2.2.2.2.2.2.2.2.2.2.2.1 (zz23 t n P).2.2.2.2.2.2.2.2.2.2.2.2.2.2.2.2.2.2.2.2.1 (zz23 t n P).2.2.2.2.2.2.2.2.2.2.2.2.2.2.2.2.2.2.2.2.2.1 (zz23 t n P).2.2.2.2.2.2.2.2.2.2.2.2.2.2.2.2.2.2.2.2.2.2) : ∀ a1 a2 a3 a4 a5 a6 a7 a8 a9 a10 a11 a12 a13 a14 a15 a16 a17 a18 a19 a20 a21 a22 a23, P a1 a2 a3 a4 a5 a6 a7 a8 a9 a10 a11 a12 a13 a14 a15 a16 a17 a18 a19 a20 a21 a22 a23 := fun a1 a2 a3 a4 a5 a6 a7 a8 a9 a10 a11 a12 a13 a14 a15 a16 a17 a18 a19 a20 a21 a22 a23 => allI e n (P := fun z : α1 × α2 × α3 × α4 × α5 × α6 × α7 × α8 × α9 × α10 × α11 × α12 × α13 × α14 × α15 × α16 × α17 × α18 × α19 × α20 × α21 × α22 × α23 => P z.1 z.2.1 z.2.2.1 z.2.2.2.1 z.2.2.2.2.1 z.2.2.2.2.2.1 z.2.2.2.2.2.2.1 z.2.2.2.2.2.2.2.1 z.2.2.2.2.2.2.2.2.1 z.2.2.2.2.2.2.2.2.2.1 z.2.2.2.2.2.2.2.2.2.2.1 z.2.2.2.2.2.2.2.2.2.2.2.1 z.2.2.2.2.2.2.2.2.2.2.2.2.1 z.2.2.2.2.2.2.2.2.2.2.2.2.2.1 z.2.2.2.2.2.2.2.2.2.2.2.2.2.2.1 z.2.2.2.2.2.2.2.2.2.2.2.2.2.2.2.1 z.2.2.2.2.2.2.2.2.2.2.2.2.2.2.2.2.1 z.2.2.2.2.2.2.2.2.2.2.2.2.2.2.2.2.2.1 z.2.2.2.2.2.2.2.2.2.2.2.2.2.2.2.2.2.2.1 z.2.2.2.2.2.2.2.2.2.2.2.2.2.2.2.2.2.2.2.1 z.2.2.2.2.2.2.2.2.2.2.2.2.2.2.2.2.2.2.2.2.1 z.2.2.2.2.2.2.2.2.2.2.2.2.2.2.2.2.2.2.2.2.2.1 z.2.2.2.2.2.2.2.2.2.2.2.2.2.2.2.2.2.2.2.2.2.2) h (a1, a2, a3, a4, a5, a6, a7, a8, a9, a10, a11, a12, a13, a14, a15, a16, a17, a18, a19, a20, a21, a22, a23)
local macro_rules | `(tactic| intro $x:ident) => `(tactic| (k_extra "MY on"; refine no_implicit_lambda% (let_mvar% ?f := (fun $x => ?_ : AllAp _ _); allI (by k_extra "MY hE") (by k_extra "MY ne1") (?f (eps _ _ _))); refine apI ?_; k_extra "MY epsE"))
local macro_rules
  | `(tactic| intros $xs*) => do
    unless 2 ≤ xs.size && xs.all (·.raw.isIdent) do Lean.Macro.throwUnsupported
    let ys : Array Lean.Ident := xs.map (⟨·.raw⟩)
    let n := toString xs.size
    let h ← `(_)
    let hs : Array Lean.Term := ys.map fun _ => h
    let f (s : String) : Lean.Ident := Lean.mkIdent (Lean.Name.mkSimple (s ++ n))
    let aA := f "AllAp"
    let aI := f "all"
    let aP := f "apI"
    let x : Lean.Term := ⟨ys[0]!.raw⟩
    let zs : Array Lean.Term := (ys.extract 1 ys.size).map (⟨·.raw⟩)
    `(tactic| first | (k_extra "MY on"; refine no_implicit_lambda% (let_mvar% ?f := (fun $ys* => ?_ : $aA _ _); $aI (by k_extra "MY hE") (by k_extra "MY ne") (?f $hs*)); refine $aP ?_; k_extra "MY epsE") | intro $x $zs*)
local macro_rules
  | `(tactic| injection $e:ident with $p:ident $h:ident) => `(tactic| ((first | refine Exists.elim $e ?_ | refine And.elim ?_ $e); (try clear $e); intro $p:ident $h:ident))
  | `(tactic| injection $e:term with $p:ident $h:ident) => `(tactic| ((first | refine Exists.elim $e ?_ | refine And.elim ?_ $e); intro $p:ident $h:ident))
local macro_rules | `(tactic| omega) => `(tactic| k_extra "MY om")
local macro_rules | `(tactic| k_fold) => `(tactic| skip)
local macro_rules | `(tactic| k_in) => `(tactic| k_extra "MY k_in")
local macro_rules | `(tactic| intro $x:ident $y:ident $zs*) => `(tactic| (intro $x:ident; intro $y:ident $zs*))
theorem dep0 {x b n : Nat} (h : x + b < n) : x < n := Nat.lt_of_le_of_lt (Nat.le_add_right x b) h
theorem dep1 {x b n a : Nat} (h : x + b < n) (e : Nat.ble a b = true) : x + a < n := Nat.lt_of_le_of_lt (Nat.add_le_add_left (Nat.le_of_ble_eq_true e) x) h
theorem dep2 {x b n a c : Nat} (h : x + b < n) (e : Nat.ble (a + c) b = true) : x + a + c < n := by rw [Nat.add_assoc]; exact dep1 h e
theorem ble_le {a b : Nat} (e : Nat.ble a b = true) : a ≤ b := Nat.le_of_ble_eq_true e
theorem le_lit {x a b : Nat} (h : x ≤ a) (e : Nat.ble a b = true) : x ≤ b := Nat.le_trans h (Nat.le_of_ble_eq_true e)
theorem ne_gt {a b : Nat} (h : b < a) : a ≠ b := Nat.ne_of_gt h
theorem ne_lt {a b : Nat} (h : a < b) : a ≠ b := Nat.ne_of_lt h
theorem ne_ne {a b : Nat} (h : a ≠ b) : a ≠ b := h
theorem ne_sy {a b : Nat} (h : b ≠ a) : a ≠ b := fun e => h e.symm
theorem words_0 : True := by
  k_with_none
  k_with "MY on" => ((fail_if_success (fail_if_success clear hEpsₑ)); (fail_if_success (refine no_implicit_lambda% (propI ?_))))
  k_with "MY hE" => (exact hEpsₑ)
  k_with "MY ne1" => (first | infer_instance | exact neW | exact neS | exact neA | exact nePT | exact neNR | exact neWt | exact neFW | exact neTE2 | exact neR3 | exact neTB | exact nePa | exact nePD | exact neDr | exact neOs | (apply neProd; k_extra "MY ne") | (apply neFun; k_extra "MY ne"))
  k_with "MY epsE" => (clear hEpsₑ; intros hEpsₑ)
  k_with "Exists" => (net_plain_pass; (goal_lacks_word Carries MadeTab Joins); (first | (refine' ⟨_, _, rfl, ?_⟩; all_goals change (_ : Prop)) | (refine' ⟨_, rfl, ?_⟩; all_goals change (_ : Prop)) | (refine' ⟨_, _, _, rfl, ?_⟩; all_goals change (_ : Prop)) | (refine' ⟨_, rfl⟩; all_goals change (_ : Prop)) | (refine' ⟨_, _, rfl⟩; all_goals change (_ : Prop)) | (refine ⟨?_, ?_⟩; rotate_left)))
  k_with "MY k_in" => (apply Frag.In.keeps; rotate_left; (apply Fr.keep; assumption); assumption)
  k_with "MY conj" => (with_reducible first | assumption | (apply And.left; first | assumption | (apply And.right; first | assumption | (apply And.right; first | assumption | (apply And.right; first | assumption | (apply And.right; first | assumption | (apply And.right; first | assumption | (apply And.right; first | assumption | (apply And.right; first | assumption | (apply And.right; first | assumption | (apply And.right; first | assumption | (apply And.right; first | assumption | (apply And.right; first | assumption | (apply And.right; first | assumption | (apply And.right; assumption)))))))))))))) | (apply And.right; first | assumption | (apply And.right; first | assumption | (apply And.right; first | assumption | (apply And.right; first | assumption | (apply And.right; first | assumption | (apply And.right; first | assumption | (apply And.right; first | assumption | (apply And.right; first | assumption | (apply And.right; first | assumption | (apply And.right; first | assumption | (apply And.right; first | assumption | (apply And.right; first | assumption | (apply And.right; assumption))))))))))))))
  k_with "MY om" => (first
    | ((with_reducible apply dep2); (with_reducible assumption); (exact rfl))
    | ((with_reducible apply dep1); (with_reducible assumption); (exact rfl))
    | ((with_reducible apply dep0); (with_reducible assumption))
    | ((with_reducible apply ble_le); (exact rfl))
    | ((with_reducible apply le_lit); (with_reducible assumption); (exact rfl))
    | ((with_reducible apply ne_gt); (k_extra "MY conj"))
    | ((with_reducible apply ne_lt); (k_extra "MY conj"))
    | ((with_reducible apply ne_ne); (k_extra "MY conj"))
    | ((with_reducible apply ne_sy); (k_extra "MY conj"))
    | omega +splitNatSub)
  k_with "MY ne" => (repeat (first | exact neW | exact neS | exact neA | exact nePT | exact neNR | exact neWt | exact neFW | exact neTE2 | exact neR3 | exact neTB | exact nePa | exact nePD | exact neDr | exact neOs | apply neProd | infer_instance | apply neFun))
  trivial
set_option linter.unusedVariables false
set_option maxRecDepth 100000 in
theorem fillTL (w : World) (h : Heap) : (hd.heap_39 w.params).In h → PySem.Challenge.rw_sy0049_01.prog = PySem.Challenge.rw_sy0049_01.prog := by
  k_fill
  intro _
  rfl
-- lines of my own
theorem words_1 : True := by
  k_with "MY reader" => ((fail_if_success k_extra "OFF 2"); (refine wpAny_call ?_; with_unfolding_all (refine' code_reader ?k1ₘ ?k2ₘ ?k3ₘ ?k4ₘ ?k5ₘ ?kAₘ ?kFₘ ?kKₘ ?k6ₘ ?k7ₘ ?k8ₘ ?k9ₘ ?kBₘ ?_ ?c2ₘ ?c3ₘ ?c4ₘ ?c5ₘ; (case kAₘ => exact rfl); (case kFₘ => exact rfl); (case kKₘ => assumption); (case k1ₘ => k_asm); (case k2ₘ => k_asm); (case k3ₘ => k_asm); (case k4ₘ => k_asm); (case k5ₘ => k_asm); (case k6ₘ => k_is); (case k7ₘ => k_is); (case k8ₘ => ((try dsimp only [ktrTop]); (k_extra "MY om"))); (case k9ₘ => exact BindsTo.of_eq rfl); (case c5ₘ => decide); (case kBₘ => exact locs rfl); (case c2ₘ => exact rfl); (case c3ₘ => exact rfl); (case c4ₘ => exact rfl); k_whole)))
  k_with "LeaveK" => ((fail_if_success k_extra "OFF 2"); ((rename (∀ _ _ _ _ _, Fr _ _ _ _ → News _ _ _ _ → _ → LeaveK _ _ _ _ _ _ _) => lv9ₘ); k_dflt (refine' lv9ₘ _ _ _ _ _ ?k1ₘ ?k2ₘ ?_; (case k1ₘ => k_asm); (case k2ₘ => k_asm); k_whole); (intros kFₘ kNₘ kSₘ kOₘ); (try dsimp only)))
  k_with "MY k_inst" => ((fail_if_success k_extra "OFF 2"); first | (refine' inst_tree ?Fₘ ?h1ₘ; (case Fₘ => k_asm); (case h1ₘ => assumption)) | (refine' inst_node ?Fₘ ?h1ₘ ?h2ₘ; (case Fₘ => k_asm); (case h1ₘ => assumption); (case h2ₘ => assumption)))
  k_with "MY k_handed" => ((fail_if_success k_extra "OFF 2"); exact handed_par _)
  k_with "call builtin:len" => ((fail_if_success k_extra "OFF 2"); (k_here; (with_reducible show wpAny _ _ (call (Value.builtin "len") [Value.ref _]) _ _ _); k_dflt (refine' len_list ?k1ₘ ?k2ₘ ?_; (case k1ₘ => exact list_rows (by k_asm) (by assumption)); (case k2ₘ => ((try simp only [List.size_toArray, List.length_map]); (k_extra "MY om"))); k_whole); (try simp only [List.size_toArray, List.length_map])))
  k_with "subscriptTail Attribute Name Name ref int" => ((fail_if_success k_extra "OFF 2"); (k_here; k_dflt (refine' item_listA ?k1ₘ ?k2ₘ ?k3ₘ ?k4ₘ ?_; (case k1ₘ => exact list_rows (by k_asm) (by assumption)); (case k2ₘ => (k_extra "MY om")); (case k3ₘ => (k_extra "MY om")); (case k4ₘ => assumption); k_whole)))
  k_with "call type:list" => ((fail_if_success k_extra "OFF 2"); (k_here; k_dflt (refine' list_copyK ?k1ₘ ?k2ₘ ?k3ₘ ?_ ?zₘ; (case k1ₘ => k_asm); (case k2ₘ => k_asm); (case k3ₘ => first | exact list_ch (by k_asm) (by assumption) (by assumption) | exact list_at (by k_asm) (by assumption) (by assumption) | exact list_ns (by k_asm) (by assumption) (by assumption)); (case zₘ => (simp only [List.size_toArray, List.length_map]; rw [PySem.sizeLine_eq]; (k_extra "MY om"))); k_whole); (intros D'ₘ c'ₘ h'ₘ; intro F'ₘ N'ₘ l1ₘ)))
  k_with "eval Name" => ((fail_if_success k_extra "OFF 21"); k_here; name_kind "local"; k_dflt (refine' nameX_L ?k1ₘ ?k2ₘ ?_ ?k3ₘ ?k4ₘ; (case k1ₘ => k_asm); (case k3ₘ => rfl); (case k4ₘ => rfl); (case k2ₘ => rfl); k_whole))
  trivial
set_option maxRecDepth 100000 in
set_option maxHeartbeats 8000000 in
theorem row_of : ∀ (w : World) (T : PT) (k : Nat) (tk : Tok) (n : NR) (hk : T.ns[k]? = some n),
    RSpec w 347 1 [.ref T.b.t, .int (k : Int) tk] (fun h => T.At w.params h) (fun _ r new => r = .ref n.a ∧ new = []) := by
  have hEpsₑ : EpsOn 0 := ⟨True.intro⟩
  intros w T k tk n
  intro hk
  (intros dp un gd cn cs a ccd cl outer A₀ base h₀ L m news s p loose mean mg mb Q E; intro B F X N Tp hk9 hd hu pre ret)
  have hkl : k < T.ns.length := by
    rcases Nat.lt_or_ge k T.ns.length with q | q
    · exact q
    · (replace hk := hk; rw [List.getElem?_eq_none q] at hk); cases hk
  have hlen := pre.2.1
  have hk : (T.ns.map fun n => Value.ref n.a)[(k : Int).toNat]? = some (.ref n.a) := by simp [hk]
  k_extra "MY reader"
  (intros L' h'; intro F' N' B' X' T' lv)
  try dsimp only
  try k_fold
  k_steps
  exact ret _ _ _ _ (by assumption) (by assumption) (by assumption) (by assumption) ⟨rfl, rfl⟩
theorem words_2 : True := by
  k_with "MY use" => ((fail_if_success k_extra "OFF 2"); ((try dsimp only); (try k_fold)))
  k_with "call ref" => ((fail_if_success k_extra "OFF 2"); ((with_reducible show wpAny _ _ (call (Value.ref 347) _) _ _ _); k_dflt (refine' RSpec.use (row_of _ _ _ _ _ ?hkₘ) ?k1ₘ ?k2ₘ ?k3ₘ ?k4ₘ ?k5ₘ ?kKₘ ?kdₘ ?kuₘ ?kpₘ ?_; (case hkₘ => assumption); (case k1ₘ => k_asm); (case k2ₘ => k_asm); (case k3ₘ => k_asm); (case k4ₘ => k_asm); (case k5ₘ => k_asm); (case kKₘ => first | exact rfl | assumption); (case kdₘ => ((try dsimp only [ktrTop, Around.deeper]); (k_extra "MY om"))); (case kuₘ => ((try dsimp only [ktrTop, Around.deeper]); (k_extra "MY om"))); (case kpₘ => exact PT.At.sub (by assumption) (Fr.keep (by k_asm))); k_whole); (intros r9ₘ new9ₘ h9ₘ tk9ₘ; intro F9ₘ N9ₘ S9ₘ O9ₘ p9ₘ); ((injection p9ₘ with p9ₘ p9'ₘ); subst p9ₘ; subst p9'ₘ); k_extra "MY use"))
  trivial
set_option maxRecDepth 100000 in
set_option maxHeartbeats 8000000 in
theorem kind_of : ∀ (w : World) (T : PT) (k : Nat) (tk : Tok) (n : NR) (hk : T.ns[k]? = some n),
    RSpec w 424 2 [.ref T.b.t, .int (k : Int) tk] (fun h => T.At w.params h) (fun _ r new => r = .str n.kind (n.vt 0) ∧ new = []) := by
  have hEpsₑ : EpsOn 0 := ⟨True.intro⟩
  intros w T k tk n
  intro hk
  (intros dp un gd cn cs a ccd cl outer A₀ base h₀ L m news s p loose mean mg mb Q E; intro B F X N Tp hk9 hd hu pre ret)
  have hn : n ∈ T.ns := List.mem_of_getElem? hk
  k_extra "MY reader"
  (intros L' h'; intro F' N' B' X' T' lv)
  try dsimp only
  try k_fold
  k_steps
  exact ret _ _ _ _ (by assumption) (by assumption) (by assumption) (by assumption) ⟨rfl, rfl⟩
set_option maxRecDepth 100000 in
set_option maxHeartbeats 8000000 in
theorem name_of : ∀ (w : World) (T : PT) (k : Nat) (tk : Tok) (n : NR) (hk : T.ns[k]? = some n),
    RSpec w 431 2 [.ref T.b.t, .int (k : Int) tk] (fun h => T.At w.params h) (fun _ r new => r = .str n.name (n.vt 1) ∧ new = []) := by
  have hEpsₑ : EpsOn 0 := ⟨True.intro⟩
  intros w T k tk n
  intro hk
  (intros dp un gd cn cs a ccd cl outer A₀ base h₀ L m news s p loose mean mg mb Q E; intro B F X N Tp hk9 hd hu pre ret)
  have hn : n ∈ T.ns := List.mem_of_getElem? hk
  k_extra "MY reader"
  (intros L' h'; intro F' N' B' X' T' lv)
  try dsimp only
  try k_fold
  k_steps
  exact ret _ _ _ _ (by assumption) (by assumption) (by assumption) (by assumption) ⟨rfl, rfl⟩
set_option maxRecDepth 100000 in
set_option maxHeartbeats 8000000 in
theorem uri_of : ∀ (w : World) (T : PT) (k : Nat) (tk : Tok) (n : NR) (hk : T.ns[k]? = some n),
    RSpec w 438 2 [.ref T.b.t, .int (k : Int) tk] (fun h => T.At w.params h) (fun _ r new => r = .str n.uri (n.vt 2) ∧ new = []) := by
  have hEpsₑ : EpsOn 0 := ⟨True.intro⟩
  intros w T k tk n
  intro hk
  (intros dp un gd cn cs a ccd cl outer A₀ base h₀ L m news s p loose mean mg mb Q E; intro B F X N Tp hk9 hd hu pre ret)
  have hn : n ∈ T.ns := List.mem_of_getElem? hk
  k_extra "MY reader"
  (intros L' h'; intro F' N' B' X' T' lv)
  try dsimp only
  try k_fold
  k_steps
  exact ret _ _ _ _ (by assumption) (by assumption) (by assumption) (by assumption) ⟨rfl, rfl⟩
set_option maxRecDepth 100000 in
set_option maxHeartbeats 8000000 in
theorem value_of : ∀ (w : World) (T : PT) (k : Nat) (tk : Tok) (n : NR) (hk : T.ns[k]? = some n),
    RSpec w 452 2 [.ref T.b.t, .int (k : Int) tk] (fun h => T.At w.params h) (fun _ r new => r = .str n.value (n.vt 4) ∧ new = []) := by
  have hEpsₑ : EpsOn 0 := ⟨True.intro⟩
  intros w T k tk n
  intro hk
  (intros dp un gd cn cs a ccd cl outer A₀ base h₀ L m news s p loose mean mg mb Q E; intro B F X N Tp hk9 hd hu pre ret)
  have hn : n ∈ T.ns := List.mem_of_getElem? hk
  k_extra "MY reader"
  (intros L' h'; intro F' N' B' X' T' lv)
  try dsimp only
  try k_fold
  k_steps
  exact ret _ _ _ _ (by assumption) (by assumption) (by assumption) (by assumption) ⟨rfl, rfl⟩
set_option maxRecDepth 100000 in
set_option maxHeartbeats 8000000 in
theorem parent_of : ∀ (w : World) (T : PT) (k : Nat) (tk : Tok) (n : NR) (hk : T.ns[k]? = some n),
    RSpec w 459 2 [.ref T.b.t, .int (k : Int) tk] (fun h => T.At w.params h) (fun _ r new => r = parV n.par ∧ new = []) := by
  have hEpsₑ : EpsOn 0 := ⟨True.intro⟩
  intros w T k tk n
  intro hk
  (intros dp un gd cn cs a ccd cl outer A₀ base h₀ L m news s p loose mean mg mb Q E; intro B F X N Tp hk9 hd hu pre ret)
  have hn : n ∈ T.ns := List.mem_of_getElem? hk
  k_extra "MY reader"
  (intros L' h'; intro F' N' B' X' T' lv)
  try dsimp only
  try k_fold
  k_steps
  exact ret _ _ _ _ (by assumption) (by assumption) (by assumption) (by assumption) ⟨rfl, rfl⟩
set_option maxRecDepth 100000 in
set_option maxHeartbeats 8000000 in
theorem children_of : ∀ (w : World) (T : PT) (k : Nat) (tk : Tok) (n : NR) (hk : T.ns[k]? = some n),
    RSpec w 466 2 [.ref T.b.t, .int (k : Int) tk] (fun h => T.At w.params h) (fun _ r new => ∃ x e, r = .ref x ∧ new = [(x, listOf (n.ch.map nv).toArray e)]) := by
  have hEpsₑ : EpsOn 0 := ⟨True.intro⟩
  intros w T k tk n
  intro hk
  (intros dp un gd cn cs a ccd cl outer A₀ base h₀ L m news s p loose mean mg mb Q E; intro B F X N Tp hk9 hd hu pre ret)
  have hn : n ∈ T.ns := List.mem_of_getElem? hk
  have hl9 := pre.2.2 n hn
  (injection hl9 with hl1 hₜ1; (injection hₜ1 with hl2 hl3))
  k_extra "MY reader"
  (intros L' h'; intro F' N' B' X' T' lv)
  try dsimp only
  try k_fold
  k_steps
  exact ret _ _ _ _ (by assumption) (by assumption) (by assumption) (by assumption) ⟨_, _, rfl, rfl⟩
set_option maxRecDepth 100000 in
set_option maxHeartbeats 8000000 in
theorem attributes_of : ∀ (w : World) (T : PT) (k : Nat) (tk : Tok) (n : NR) (hk : T.ns[k]? = some n),
    RSpec w 473 2 [.ref T.b.t, .int (k : Int) tk] (fun h => T.At w.params h) (fun _ r new => ∃ x e, r = .ref x ∧ new = [(x, listOf (n.at'.map nv).toArray e)]) := by
  have hEpsₑ : EpsOn 0 := ⟨True.intro⟩
  intros w T k tk n
  intro hk
  (intros dp un gd cn cs a ccd cl outer A₀ base h₀ L m news s p loose mean mg mb Q E; intro B F X N Tp hk9 hd hu pre ret)
  have hn : n ∈ T.ns := List.mem_of_getElem? hk
  have hl9 := pre.2.2 n hn
  (injection hl9 with hl1 hₜ1; (injection hₜ1 with hl2 hl3))
  k_extra "MY reader"
  (intros L' h'; intro F' N' B' X' T' lv)
  try dsimp only
  try k_fold
  k_steps
  exact ret _ _ _ _ (by assumption) (by assumption) (by assumption) (by assumption) ⟨_, _, rfl, rfl⟩
set_option maxRecDepth 100000 in
set_option maxHeartbeats 8000000 in
theorem namespaces_of : ∀ (w : World) (T : PT) (k : Nat) (tk : Tok) (n : NR) (hk : T.ns[k]? = some n),
    RSpec w 480 2 [.ref T.b.t, .int (k : Int) tk] (fun h => T.At w.params h) (fun _ r new => ∃ x e, r = .ref x ∧ new = [(x, listOf (n.ns.map nv).toArray e)]) := by
  have hEpsₑ : EpsOn 0 := ⟨True.intro⟩
  intros w T k tk n
  intro hk
  (intros dp un gd cn cs a ccd cl outer A₀ base h₀ L m news s p loose mean mg mb Q E; intro B F X N Tp hk9 hd hu pre ret)
  have hn : n ∈ T.ns := List.mem_of_getElem? hk
  have hl9 := pre.2.2 n hn
  (injection hl9 with hl1 hₜ1; (injection hₜ1 with hl2 hl3))
  k_extra "MY reader"
  (intros L' h'; intro F' N' B' X' T' lv)
  try dsimp only
  try k_fold
  k_steps
  exact ret _ _ _ _ (by assumption) (by assumption) (by assumption) (by assumption) ⟨_, _, rfl, rfl⟩
set_option linter.unusedVariables false
theorem words_3 : True := by
  k_with "OFF 2" => (skip)
  k_with "MY enter" => ((fail_if_success k_extra "OFF 10"); (refine wpAny_call ?_; with_unfolding_all (refine' code_def ?k1ₘ ?k2ₘ ?k3ₘ ?k4ₘ ?k5ₘ ?kAₘ ?kFₘ ?kKₘ ?k6ₘ ?k7ₘ ?k8ₘ ?k9ₘ ?kBₘ ?_ ?c2ₘ ?c3ₘ ?c4ₘ ?c5ₘ; (case kAₘ => exact rfl); (case kFₘ => exact rfl); (case kKₘ => assumption); (case k1ₘ => k_asm); (case k2ₘ => k_asm); (case k3ₘ => k_asm); (case k4ₘ => k_asm); (case k5ₘ => k_asm); (case k6ₘ => k_is); (case k7ₘ => k_is); (case k8ₘ => ((try dsimp only [ktrTop]); (k_extra "MY om"))); (case k9ₘ => exact BindsTo.of_eq rfl); (case c5ₘ => decide); (case kBₘ => exact locs rfl); (case c2ₘ => exact rfl); (case c3ₘ => exact rfl); (case c4ₘ => exact rfl); k_whole)))
  k_with "MY k_room" => ((fail_if_success k_extra "OFF 10"); ((try dsimp only [ktrTop, Around.deeper]); (try simp only [depth_under_make, depth_under_kw, depth_in1, depth_deeper, depth_caller]); (k_extra "MY om")))
  k_with "MY k_all" => ((fail_if_success k_extra "OFF 3"); first | assumption | (tbn_letter; assumption))
  k_with "call builtin:len" => ((fail_if_success k_extra "OFF 3"); (k_here; (with_reducible show wpAny _ _ (call (Value.builtin "len") [Value.ref _]) _ _ _); k_dflt (refine' len_list ?k1ₘ ?k2ₘ ?_; (case k1ₘ => exact News.isList (by k_asm) (by k_mem)); (case k2ₘ => ((try simp only [List.size_toArray, Array.size_push, List.length_map]); (k_extra "MY om"))); k_whole); (try simp only [List.size_toArray, Array.size_push, List.length_map])))
  k_with "call builtin:list.append" => ((fail_if_success k_extra "OFF 3"); (k_here; (with_reducible show wpAny _ _ (call (Value.builtin _) [Value.ref _, _]) _ _ _); k_dflt (refine' append_K ?k1ₘ ?k2ₘ ?k3ₘ ?_ ?zₘ; (case k1ₘ => k_asm); (case k2ₘ => k_asm); (case k3ₘ => k_upd); (case zₘ => (simp only [List.size_toArray, List.length_map]; rw [PySem.sizeLine_eq]; (k_extra "MY om"))); k_whole); intro h'ₘ F'ₘ N'ₘ; (try k_sweep)))
  trivial
/-- a tree with one row more -/
def PT.more (T : PT) (e : Nat) (n : NR) : PT := ⟨{ T.b with en := e }, T.ns ++ [n]⟩
def tks (l : List Nat) (i : Nat) : Nat := l.getD i 0
theorem nd_new {a : Addr} {o : Obj} {l : List (Addr × Obj)} (h : AllLt a l) (n : ND l) : ND ((a, o) :: l) := by
  refine List.nodup_cons.mpr ⟨fun hm => ?_, n⟩
  (injection (List.mem_map.mp hm) with p hₜ1; (injection hₜ1 with hp e))
  exact Nat.ne_of_lt (tb_ltOf h p hp) e
theorem perm_more {α : Type} (n o a r : List α) : (n ++ (o ++ (a ++ r))).Perm (o ++ ((a ++ n) ++ r)) := by
  refine (List.perm_append_comm_assoc n o (a ++ r)).trans (List.Perm.append_left o ?_)
  rw [List.append_assoc]
  exact List.perm_append_comm_assoc n a r
theorem more_objs (T : PT) (P : Params) (e : Nat) (n : NR) (rest : List (Addr × Obj)) :
    (n.objs P ++ (T.b.t, instObj 504 T.b.td) :: (T.b.td, dictOf [⟨PyData.keyHash P "rows", .str "rows" T.b.kt, .ref T.b.rl⟩] T.b.ep) :: (T.b.rl, listOf ((T.ns.map fun n => Value.ref (NR.a n)).toArray.push (Value.ref n.a)) e) :: (T.ns.flatMap (NR.objs · P) ++ rest)).Perm ((T.more e n).objs P ++ rest) := by
  unfold PT.objs PT.more TB.objs
  simp only [List.flatMap_append, List.flatMap_cons, List.flatMap_nil, List.append_nil, List.map_append, List.map_cons, List.map_nil]
  have h := perm_more (n.objs P) [(T.b.t, instObj 504 T.b.td), (T.b.td, dictOf [⟨PyData.keyHash P "rows", .str "rows" T.b.kt, .ref T.b.rl⟩] T.b.ep), (T.b.rl, listOf ((T.ns.map fun n => Value.ref (NR.a n)) ++ [Value.ref n.a]).toArray e)] (T.ns.flatMap (NR.objs · P)) rest
  simpa [List.push_toArray] using h
theorem new_row_end {h₀ h' : Heap} {L : Addr} {T : PT} {P : Params} {rest tail : List (Addr × Obj)} {kind name uri loc value : Str} {par : Option (Nat × Tok)} {k0 k1 k2 k3 k4 k5 k6 k7 k8 v0 v1 v2 v3 v4 e0 e1 l3 l2 l1 x d : Nat}
    (htl : T.ns.flatMap (NR.objs · P) ++ rest = tail) {D : Obj} (hD : dictOf (NR.es ⟨x, d, l1, l2, l3, kind, name, uri, loc, value, par, [], [], [], tks [k0, k1, k2, k3, k4, k5, k6, k7, k8], tks [v0, v1, v2, v3, v4], tks [e0]⟩ P) e0 = D) (i : Int) (tk : Nat) (hi : i = (T.ns.length : Int))
    (N : News h₀ L h' ((l3, listOf #[] 0) :: (l2, listOf #[] 0) :: (l1, listOf #[] 0) :: (x, instObj 315 d) :: (d, D) :: (T.b.t, instObj 504 T.b.td) :: (T.b.td, dictOf [⟨PyData.keyHash P "rows", .str "rows" T.b.kt, .ref T.b.rl⟩] T.b.ep) :: (T.b.rl, listOf ((T.ns.map fun n => Value.ref (NR.a n)).toArray.push (.ref x)) e1) :: tail))
    {O1 O2 O3 : Obj}
    (hnd : ND ((T.b.t, O1) :: (T.b.td, O2) :: (T.b.rl, O3) :: tail)) (a3 : AllLt l3 ((l2, listOf #[] 0) :: (l1, listOf #[] 0) :: (x, instObj 315 d) :: (d, D) :: (T.b.t, O1) :: (T.b.td, O2) :: (T.b.rl, O3) :: tail)) (a2 : AllLt l2 ((l1, listOf #[] 0) :: (x, instObj 315 d) :: (d, D) :: (T.b.t, O1) :: (T.b.td, O2) :: (T.b.rl, O3) :: tail))
    (a1 : AllLt l1 ((x, instObj 315 d) :: (d, D) :: (T.b.t, O1) :: (T.b.td, O2) :: (T.b.rl, O3) :: tail)) (ax : @LT.lt Nat _ d x) (ad : AllLt d ((T.b.t, O1) :: (T.b.td, O2) :: (T.b.rl, O3) :: tail)) :
    ∃ news', News h₀ L h' news' ∧ ∃ (n : NR) (e tk' : Nat), Value.int i tk = .int (T.ns.length : Int) tk' ∧ n.Is kind name uri loc value par ∧
        news' = (T.more e n).objs P ++ rest ∧ ND ((T.more e n).objs P ++ rest) := by
  subst htl hD hi
  have pm := more_objs T P e1 ⟨x, d, l1, l2, l3, kind, name, uri, loc, value, par, [], [], [], tks [k0, k1, k2, k3, k4, k5, k6, k7, k8], tks [v0, v1, v2, v3, v4], tks [e0]⟩ rest
  have nd8 := nd_new (o := listOf #[] 0) a3 (nd_new (o := listOf #[] 0) a2 (nd_new (o := listOf #[] 0) a1 (nd_new (o := instObj 315 d) ⟨ax, tbn_up ax ad⟩ (nd_new ad hnd))))
  refine ⟨_, News.of_sub N fun q hq => ?_, ⟨x, d, l1, l2, l3, kind, name, uri, loc, value, par, [], [], [], tks [k0, k1, k2, k3, k4, k5, k6, k7, k8], tks [v0, v1, v2, v3, v4], tks [e0]⟩, e1, tk, rfl, ⟨rfl, rfl, rfl, rfl, rfl, rfl, rfl, rfl, rfl⟩, rfl, ?_⟩
  · exact pm.mem_iff.mpr hq
  · refine (pm.map Prod.fst).nodup_iff.mp ?_
    exact nd8
set_option maxRecDepth 100000 in
set_option maxHeartbeats 8000000 in
theorem new_row_of : ∀ (w : World) (T : PT) (rest : List (Addr × Obj)) (kind name uri loc value : Str) (par : Option (Nat × Tok)) (t0 t1 t2 t3 t4 : Tok) (hnd : ND (T.objs w.params ++ rest)) (hlen : T.ns.length ≤ 900),
    MSpec w 340 5 [.ref T.b.t, .str kind t0, .str name t1, .str uri t2, .str loc t3, .str value t4, parV par] (T.objs w.params ++ rest)
      (fun r news' => ∃ (n : NR) (e tk : Nat), r = .int (T.ns.length : Int) tk ∧ n.Is kind name uri loc value par ∧
        news' = (T.more e n).objs w.params ++ rest ∧ ND ((T.more e n).objs w.params ++ rest)) := by
  have hEpsₑ : EpsOn 0 := ⟨True.intro⟩
  intros w T rest kind name uri loc value par t0 t1 t2
  intros t3 t4
  intro hnd
  intro hlen
  (intros dp un gd cn cs a ccd cl outer A₀ base h₀ L m s p loose mean mg mb Q E; intro B F X N Tp hk9 hd hu ret)
  have hlen' : (T.ns.map fun n => Value.ref (NR.a n)).length ≤ 900 := by simpa using hlen
  have N0 : News h₀ L s.heap ((T.b.t, instObj 504 T.b.td) :: (T.b.td, dictOf [⟨PyData.keyHash w.params "rows", .str "rows" T.b.kt, .ref T.b.rl⟩] T.b.ep) :: (T.b.rl, listOf (T.ns.map fun n => Value.ref (NR.a n)).toArray T.b.en) :: (T.ns.flatMap (NR.objs · w.params) ++ rest)) := N
  have hnd0 : ND ((T.b.t, instObj 504 T.b.td) :: (T.b.td, dictOf [⟨PyData.keyHash w.params "rows", .str "rows" T.b.kt, .ref T.b.rl⟩] T.b.ep) :: (T.b.rl, listOf (T.ns.map fun n => Value.ref (NR.a n)).toArray T.b.en) :: (T.ns.flatMap (NR.objs · w.params) ++ rest)) := hnd
  clear N
  generalize htl : (T.ns.flatMap (NR.objs · w.params) ++ rest) = tail at N0 hnd0
  have hnd0' := hnd0
  simp only [ND, List.map_cons, List.nodup_cons, List.mem_cons, not_or] at hnd0
  have hne1 : @Ne Nat T.b.t T.b.rl := hnd0.1.2.1
  have hne2 : @Ne Nat T.b.td T.b.rl := hnd0.2.1.1
  have hne3 : ∀ p ∈ tail, p.1 ≠ T.b.rl := fun q hq e => hnd0.2.2.1 (e ▸ List.mem_map_of_mem hq)
  k_extra "MY enter"
  (intros g L' h'; intro FG F' N' B' X' T')
  try dsimp only
  try k_fold
  k_steps
  rename (News h₀ L _ _) => N9
  (first | (injection (new_row_end (kind := kind) (name := name) (uri := uri) (loc := loc) (value := value) (par := par) (e0 := 9) htl (by exact rfl) (((T.ns.length + 1 : Nat) : Int) - 1) _ (by (k_extra "MY om")) N9 hnd0' (by assumption) (by assumption) (by assumption) (by assumption) (by assumption)) with news' hₜ1; (injection hₜ1 with N8 hp)) | rcases new_row_end (kind := kind) (name := name) (uri := uri) (loc := loc) (value := value) (par := par) (e0 := 9) htl (by exact rfl) (((T.ns.length + 1 : Nat) : Int) - 1) _ (by (k_extra "MY om")) N9 hnd0' (by assumption) (by assumption) (by assumption) (by assumption) (by assumption) with ⟨news', N8, hp⟩)
  exact ret _ _ _ _ (by assumption) N8 hp
theorem at_news {T : PT} {P : Params} {h₀ h : Heap} {L : Addr} {rest : List (Addr × Obj)} (N : News h₀ L h (T.objs P ++ rest)) (hl : T.ns.length ≤ 1000) (hb : ∀ n ∈ T.ns, n.ch.length ≤ 1000 ∧ n.at'.length ≤ 1000 ∧ n.ns.length ≤ 1000) : T.At P h :=
  ⟨fun q hq => (N q (List.mem_append_left _ hq)).1, hl, hb⟩
theorem inst_treeN {T : PT} {P : Params} {h₀ h : Heap} {L : Addr} {rest : List (Addr × Obj)} (N : News h₀ L h (T.objs P ++ rest)) :
    InstAt h T.b.t (instObj 504 T.b.td) 504 (some (dictOf [⟨PyData.keyHash P "rows", .str "rows" T.b.kt, .ref T.b.rl⟩] T.b.ep)) := ⟨(N _ (List.mem_append_left _ (.head _))).1, rfl, rfl, (N _ (List.mem_append_left _ (.tail _ (.head _)))).1⟩
theorem inst_nodeN {T : PT} {P : Params} {h₀ h : Heap} {L : Addr} {rest : List (Addr × Obj)} {n : NR} (N : News h₀ L h (T.objs P ++ rest)) (hn : n ∈ T.ns) : InstAt h n.a (instObj 315 n.d) 315 (some (dictOf (n.es P) (n.ep 0))) :=
  ⟨(N _ (List.mem_append_left _ (T.mem_node hn _ mem5d))).1, rfl, rfl, (N _ (List.mem_append_left _ (T.mem_node hn _ mem5e))).1⟩
theorem list_rowsN {T : PT} {P : Params} {h₀ h : Heap} {L : Addr} {rest : List (Addr × Obj)} (N : News h₀ L h (T.objs P ++ rest)) : h.IsList T.b.rl (T.ns.map fun n => Value.ref n.a).toArray := ⟨_, (N _ (List.mem_append_left _ (.tail _ (.tail _ (.head _))))).1, rfl, _, rfl⟩
theorem list_chN {T : PT} {P : Params} {h₀ h : Heap} {L : Addr} {rest : List (Addr × Obj)} {n : NR} (N : News h₀ L h (T.objs P ++ rest)) (hn : n ∈ T.ns) : h.IsList n.cl (n.ch.map nv).toArray := ⟨_, (N _ (List.mem_append_left _ (T.mem_node hn _ mem5c))).1, rfl, _, rfl⟩
theorem list_atN {T : PT} {P : Params} {h₀ h : Heap} {L : Addr} {rest : List (Addr × Obj)} {n : NR} (N : News h₀ L h (T.objs P ++ rest)) (hn : n ∈ T.ns) : h.IsList n.al (n.at'.map nv).toArray := ⟨_, (N _ (List.mem_append_left _ (T.mem_node hn _ mem5b))).1, rfl, _, rfl⟩
theorem list_nsN {T : PT} {P : Params} {h₀ h : Heap} {L : Addr} {rest : List (Addr × Obj)} {n : NR} (N : News h₀ L h (T.objs P ++ rest)) (hn : n ∈ T.ns) : h.IsList n.nl (n.ns.map nv).toArray := ⟨_, (N _ (List.mem_append_left _ (T.mem_node hn _ mem5a))).1, rfl, _, rfl⟩
theorem nodict_chN {T : PT} {P : Params} {h₀ h : Heap} {L : Addr} {rest : List (Addr × Obj)} {n : NR} (N : News h₀ L h (T.objs P ++ rest)) (hn : n ∈ T.ns) : h.NoDictAt (.ref n.cl) := ⟨_, (N _ (List.mem_append_left _ (T.mem_node hn _ mem5c))).1, rfl⟩
theorem nodict_atN {T : PT} {P : Params} {h₀ h : Heap} {L : Addr} {rest : List (Addr × Obj)} {n : NR} (N : News h₀ L h (T.objs P ++ rest)) (hn : n ∈ T.ns) : h.NoDictAt (.ref n.al) := ⟨_, (N _ (List.mem_append_left _ (T.mem_node hn _ mem5b))).1, rfl⟩
theorem nodict_nsN {T : PT} {P : Params} {h₀ h : Heap} {L : Addr} {rest : List (Addr × Obj)} {n : NR} (N : News h₀ L h (T.objs P ++ rest)) (hn : n ∈ T.ns) : h.NoDictAt (.ref n.nl) := ⟨_, (N _ (List.mem_append_left _ (T.mem_node hn _ mem5a))).1, rfl⟩
/-- one node set anew -/
def PT.setN (T : PT) (k : Nat) (n : NR) : PT := ⟨T.b, T.ns.set k n⟩
def NR.addCh (n : NR) (c : Nat × Tok) : NR := { n with ch := n.ch ++ [c], ep := tks [n.ep 0, n.ep 1 + 1, n.ep 2, n.ep 3] }
def NR.addAt (n : NR) (c : Nat × Tok) : NR := { n with at' := n.at' ++ [c], ep := tks [n.ep 0, n.ep 1, n.ep 2 + 1, n.ep 3] }
def NR.addNs (n : NR) (c : Nat × Tok) : NR := { n with ns := n.ns ++ [c], ep := tks [n.ep 0, n.ep 1, n.ep 2, n.ep 3 + 1] }
theorem upd_mid {d : Addr} {o o' : Obj} : ∀ {A C : List (Addr × Obj)}, ND (A ++ (d, o) :: C) → Upd d o o' (A ++ (d, o) :: C) (A ++ (d, o') :: C)
  | [], C, h => .head fun p hp e => (List.nodup_cons.mp h).1 (List.mem_map.mpr ⟨p, hp, e⟩)
  | q :: A, C, h => .tail (fun e => (List.nodup_cons.mp h).1 (List.mem_map.mpr ⟨(d, o), List.mem_append_right _ (.head _), e.symm⟩)) (upd_mid (List.nodup_cons.mp h).2)
theorem split_at {α : Type} : ∀ {l : List α} {k : Nat} {x : α}, l[k]? = some x → ∃ A C, l = A ++ x :: C ∧ ∀ y, l.set k y = A ++ y :: C
  | [], _, _, h => by simp at h
  | a :: l, 0, x, h => by
    obtain rfl : a = x := by simpa using h
    exact ⟨[], l, rfl, fun y => rfl⟩
  | a :: l, k + 1, x, h => by
    (injection (split_at (l := l) (k := k) (by simpa using h)) with A hₜ1; (injection hₜ1 with C hₜ2; (injection hₜ2 with h1 h2)))
    exact ⟨a :: A, C, by rw [h1]; rfl, fun y => by rw [List.set_cons_succ, h2]; rfl⟩
theorem set_objs (T : PT) (P : Params) (rest : List (Addr × Obj)) {k : Nat} {n : NR} (hk : T.ns[k]? = some n) : ∃ A C, T.objs P ++ rest = A ++ (n.objs P ++ C) ∧ ∀ n' : NR, n'.a = n.a → (T.setN k n').objs P ++ rest = A ++ (n'.objs P ++ C) := by
  (injection (split_at hk) with A hₜ1; (injection hₜ1 with C hₜ2; (injection hₜ2 with h1 h2)))
  refine ⟨T.b.objs P (T.ns.map fun n => .ref n.a) ++ A.flatMap (NR.objs · P), C.flatMap (NR.objs · P) ++ rest, ?_, fun n' hn => ?_⟩
  · unfold PT.objs
    conv => lhs; rw [h1]
    rw [h1]
    simp [List.flatMap_append, List.append_assoc]
  · have e : (T.ns.set k n').map (fun n => Value.ref n.a) = T.ns.map fun n => Value.ref n.a := by rw [h2, h1]; simp [hn]
    unfold PT.objs PT.setN
    dsimp only
    rw [e, h2]
    simp [List.flatMap_append, List.append_assoc]
theorem upd_ch {T : PT} {P : Params} {rest : List (Addr × Obj)} {k : Nat} {n : NR} (c : Nat × Tok) (hk : T.ns[k]? = some n) (hnd : ND (T.objs P ++ rest)) :
    Upd n.cl (listOf (n.ch.map nv).toArray (n.ep 1)) (listOf ((n.ch.map nv).toArray.push (nv c)) (n.ep 1 + 1)) (T.objs P ++ rest) ((T.setN k (n.addCh c)).objs P ++ rest) := by
  (injection (set_objs T P rest hk) with A hₜ1; (injection hₜ1 with C hₜ2; (injection hₜ2 with h1 h2)))
  rw [h2 (n.addCh c) rfl]
  (replace hnd := hnd; rw [h1] at hnd ⊢)
  have h := @upd_mid n.cl (listOf (n.ch.map nv).toArray (n.ep 1)) (listOf ((n.ch.map nv).toArray.push (nv c)) (n.ep 1 + 1)) (A ++ [(n.nl, listOf (n.ns.map nv).toArray (n.ep 3)), (n.al, listOf (n.at'.map nv).toArray (n.ep 2))]) ((n.a, instObj 315 n.d) :: (n.d, dictOf (n.es P) (n.ep 0)) :: C) (by simpa [NR.objs] using hnd)
  simpa [NR.objs, NR.addCh, tks, NR.es] using h
theorem upd_at {T : PT} {P : Params} {rest : List (Addr × Obj)} {k : Nat} {n : NR} (c : Nat × Tok) (hk : T.ns[k]? = some n) (hnd : ND (T.objs P ++ rest)) :
    Upd n.al (listOf (n.at'.map nv).toArray (n.ep 2)) (listOf ((n.at'.map nv).toArray.push (nv c)) (n.ep 2 + 1)) (T.objs P ++ rest) ((T.setN k (n.addAt c)).objs P ++ rest) := by
  (injection (set_objs T P rest hk) with A hₜ1; (injection hₜ1 with C hₜ2; (injection hₜ2 with h1 h2)))
  rw [h2 (n.addAt c) rfl]
  (replace hnd := hnd; rw [h1] at hnd ⊢)
  have h := @upd_mid n.al (listOf (n.at'.map nv).toArray (n.ep 2)) (listOf ((n.at'.map nv).toArray.push (nv c)) (n.ep 2 + 1)) (A ++ [(n.nl, listOf (n.ns.map nv).toArray (n.ep 3))]) ((n.cl, listOf (n.ch.map nv).toArray (n.ep 1)) :: (n.a, instObj 315 n.d) :: (n.d, dictOf (n.es P) (n.ep 0)) :: C) (by simpa [NR.objs] using hnd)
  simpa [NR.objs, NR.addAt, tks, NR.es] using h
theorem upd_ns {T : PT} {P : Params} {rest : List (Addr × Obj)} {k : Nat} {n : NR} (c : Nat × Tok) (hk : T.ns[k]? = some n) (hnd : ND (T.objs P ++ rest)) :
    Upd n.nl (listOf (n.ns.map nv).toArray (n.ep 3)) (listOf ((n.ns.map nv).toArray.push (nv c)) (n.ep 3 + 1)) (T.objs P ++ rest) ((T.setN k (n.addNs c)).objs P ++ rest) := by
  (injection (set_objs T P rest hk) with A hₜ1; (injection hₜ1 with C hₜ2; (injection hₜ2 with h1 h2)))
  rw [h2 (n.addNs c) rfl]
  (replace hnd := hnd; rw [h1] at hnd ⊢)
  have h := @upd_mid n.nl (listOf (n.ns.map nv).toArray (n.ep 3)) (listOf ((n.ns.map nv).toArray.push (nv c)) (n.ep 3 + 1)) A ((n.al, listOf (n.at'.map nv).toArray (n.ep 2)) :: (n.cl, listOf (n.ch.map nv).toArray (n.ep 1)) :: (n.a, instObj 315 n.d) :: (n.d, dictOf (n.es P) (n.ep 0)) :: C) (by simpa [NR.objs] using hnd)
  simpa [NR.objs, NR.addNs, tks, NR.es] using h
theorem nd_set {T : PT} {P : Params} {rest : List (Addr × Obj)} {k : Nat} {n n' : NR} (hk : T.ns[k]? = some n) (hnd : ND (T.objs P ++ rest)) (h : (n'.objs P).map Prod.fst = (n.objs P).map Prod.fst) (ha : n'.a = n.a) : ND ((T.setN k n').objs P ++ rest) := by
  (injection (set_objs T P rest hk) with A hₜ1; (injection hₜ1 with C hₜ2; (injection hₜ2 with h1 h2)))
  rw [h2 n' ha]
  (replace hnd := hnd; rw [h1] at hnd)
  simp only [ND, List.map_append] at hnd ⊢
  rw [h]; exact hnd
set_option linter.unusedVariables false
theorem words_4 : True := by
  k_with "OFF 3" => (skip)
  k_with "MY k_inst" => ((fail_if_success k_extra "OFF 10"); first | (refine' inst_treeN ?Fₘ; (case Fₘ => k_asm)) | (refine' inst_nodeN ?Fₘ ?h2ₘ; (case Fₘ => k_asm); (case h2ₘ => assumption)))
  k_with "MY k_handed" => ((fail_if_success k_extra "OFF 55"); exact handed_par _)
  k_with "MY use" => ((fail_if_success k_extra "OFF 55"); ((try dsimp only); (try k_fold)))
  k_with "MY rd" => ((fail_if_success k_extra "OFF 55"); ((case k1ₘ => k_asm); (case k2ₘ => k_asm); (case k3ₘ => k_asm); (case k4ₘ => k_asm); (case k5ₘ => k_asm); (case kKₘ => first | exact rfl | assumption); (case kdₘ => ((try dsimp only [ktrTop, Around.deeper]); (k_extra "MY om"))); (case kuₘ => ((try dsimp only [ktrTop, Around.deeper]); (k_extra "MY om")))))
  k_with "call ref" => ((fail_if_success k_extra "OFF 10"); ((with_reducible show wpAny _ _ (call (Value.ref 347) _) _ _ _); k_dflt (refine' RSpec.use (row_of _ _ _ _ _ ?hkₘ) ?k1ₘ ?k2ₘ ?k3ₘ ?k4ₘ ?k5ₘ ?kKₘ ?kdₘ ?kuₘ ?kpₘ ?_; (case hkₘ => assumption); k_extra "MY rd"; (case kpₘ => exact at_news (by k_asm) (by (k_extra "MY om")) (by assumption)); k_whole); (intros r9ₘ new9ₘ h9ₘ tk9ₘ; intro F9ₘ N9ₘ S9ₘ O9ₘ p9ₘ); ((injection p9ₘ with p9ₘ p9'ₘ); subst p9ₘ; subst p9'ₘ); simp only [List.nil_append] at N9ₘ; k_extra "MY use"))
  trivial
/-- the bounds of a tree's lists -/
def PT.Small (T : PT) : Prop := T.ns.length ≤ 900 ∧ ∀ n ∈ T.ns, n.ch.length ≤ 900 ∧ n.at'.length ≤ 900 ∧ n.ns.length ≤ 900
theorem notin_parents {w : World} {A : Around} {E : Value → Shared → Prop} {s : Shared} {h₀ : Heap} {L : Addr} {m : Str → Option Value} {x : Str} {t t1 t2 : Tok} {n : Nat} {dd : Option Addr} {sl : Array (Option Value)} {Q : Value → Shared → Prop}
    (F : Fr h₀ L s.heap m) (X : (hd.heap_39 w.params).In h₀) (hl : (hd.heap_39 w.params).lookup 298 = some ⟨.type "tuple", dd, .seq [Value.str "root" t1, Value.str "element" t2].toArray n, sl⟩) (hx : x = "root" ∨ x = "element") (h : Q (.bool false) s) :
    wpAny (model PG w) A (compareOp .NotIn (.str x t) (.ref 298)) Q E s := by
  refine PySem.SeqAt.notIn_tupleAt (fun y => match y with | .str z _ => z == x | _ => false) (l := 298) (items := [Value.str "root" t1, Value.str "element" t2].toArray) (tupK (X.keeps F.keep) hl) (fun y hy => ?_) ?_
  · simp at hy
    rcases hy with rfl | rfl
    · exact (eqGives_str _ _ _ _).at _ _
    · exact (eqGives_str _ _ _ _).at _ _
  · have e : (!([Value.str "root" t1, Value.str "element" t2].toArray.any fun y => match y with | .str z _ => z == x | _ => false)) = false := by rcases hx with rfl | rfl <;> simp
    rw [e]; exact h
theorem words_5 : True := by
  k_with "compareOp NotIn str ref" => ((fail_if_success k_extra "OFF 10"); (k_dflt (refine' notin_parents ?k1ₘ ?k2ₘ ?k3ₘ ?k4ₘ ?_; (case k1ₘ => k_asm); (case k2ₘ => k_asm); (case k3ₘ => k_is); (case k4ₘ => assumption); k_whole)))
  trivial
section
theorem words_6 : True := by
  k_with "call ref" => ((fail_if_success k_extra "OFF 6"); ((with_reducible show wpAny _ _ (call (Value.ref 340) _) _ _ _); k_dflt (refine' MSpec.use (new_row_of _ _ _ _ _ _ _ _ none _ _ _ _ _ ?hnₘ ?hlₘ) ?k1ₘ ?k2ₘ ?k3ₘ ?k4ₘ ?k5ₘ ?kKₘ ?kdₘ ?kuₘ ?_; (case hnₘ => assumption); (case hlₘ => assumption); k_extra "MY rd"; k_whole); (intros r9ₘ new9ₘ h9ₘ tk9ₘ; intro F9ₘ N9ₘ p9ₘ); ((injection p9ₘ with n9ₘ hₜ1; (injection hₜ1 with e9ₘ hₜ2; (injection hₜ2 with t9ₘ hₜ3; (injection hₜ3 with q0ₘ hₜ4; (injection hₜ4 with q1ₘ hₜ5; (injection hₜ5 with qaₘ qbₘ))))))); subst q0ₘ; subst qaₘ; k_extra "MY use"))
  trivial
set_option maxRecDepth 100000 in
set_option maxHeartbeats 8000000 in
theorem new_root_of : ∀ (w : World) (T : PT) (rest : List (Addr × Obj)) (hnd : ND (T.objs w.params ++ rest)) (hlen : T.ns.length ≤ 900),
    MSpec w 354 6 [.ref T.b.t] (T.objs w.params ++ rest)
      (fun r news' => ∃ (n : NR) (e tk : Nat), r = .int (T.ns.length : Int) tk ∧ n.Is "root" "" "" "" "" none ∧
        news' = (T.more e n).objs w.params ++ rest ∧ ND ((T.more e n).objs w.params ++ rest)) := by
  have hEpsₑ : EpsOn 0 := ⟨True.intro⟩
  intros w T rest
  intro hnd
  intro hlen
  (intros dp un gd cn cs a ccd cl outer A₀ base h₀ L m s p loose mean mg mb Q E; intro B F X N Tp hk9 hd hu ret)
  k_extra "MY enter"
  (intros g L' h'; intro FG F' N' B' X' T')
  try dsimp only
  try k_fold
  k_steps
  exact ret _ _ _ _ (by assumption) (by assumption) ⟨_, _, _, rfl, (by assumption), rfl, (by assumption)⟩
end
theorem words_7 : True := by
  k_with "OFF 6" => (skip)
  trivial
theorem more_get {T : PT} {e k : Nat} {n n' : NR} (h : T.ns[k]? = some n) : (T.more e n').ns[k]? = some n := by
  unfold PT.more
  rw [List.getElem?_append_left]
  · exact h
  · rcases Nat.lt_or_ge k T.ns.length with q | q
    · exact q
    · (replace h := h; rw [List.getElem?_eq_none q] at h); cases h
theorem item_rows {T : PT} {k : Nat} {n : NR} (h : T.ns[k]? = some n) : (T.ns.map fun n => Value.ref n.a)[((k : Nat) : Int).toNat]? = some (.ref n.a) := by simp [h]
section
theorem words_8 : True := by
  k_with "call ref" => ((fail_if_success k_extra "OFF 8"); ((with_reducible show wpAny _ _ (call (Value.ref 340) _) _ _ _); (rename Tok => pt9ₘ); k_dflt (refine' MSpec.use (new_row_of _ _ _ _ _ _ _ _ (some (_, _)) _ _ _ _ _ ?hnₘ ?hlₘ) ?k1ₘ ?k2ₘ ?k3ₘ ?k4ₘ ?k5ₘ ?kKₘ ?kdₘ ?kuₘ ?_; (case hnₘ => assumption); (case hlₘ => assumption); k_extra "MY rd"; k_whole); (intros r9ₘ new9ₘ h9ₘ tk9ₘ; intro F9ₘ N9ₘ p9ₘ); ((injection p9ₘ with n9ₘ hₜ1; (injection hₜ1 with e9ₘ hₜ2; (injection hₜ2 with t9ₘ hₜ3; (injection hₜ3 with q0ₘ hₜ4; (injection hₜ4 with q1ₘ hₜ5; (injection hₜ5 with qaₘ qbₘ))))))); subst q0ₘ; subst qaₘ; (have m9ₘ := more_get (e := e9ₘ) (n' := n9ₘ) (by assumption)); (have mm9ₘ := List.mem_of_getElem? m9ₘ); (have i9ₘ := item_rows m9ₘ); k_extra "MY use"))
  k_with "subscriptTail Attribute Name Name ref int" => ((fail_if_success k_extra "OFF 8"); (k_here; k_dflt (refine' item_listA ?k1ₘ ?k2ₘ ?k3ₘ ?k4ₘ ?_; (case k1ₘ => exact list_rowsN (by k_asm)); (case k2ₘ => (k_extra "MY om")); (case k3ₘ => (k_extra "MY om")); (case k4ₘ => assumption); k_whole)))
  k_with "call builtin:list.append" => ((fail_if_success k_extra "OFF 8"); (k_here; (with_reducible show wpAny _ _ (call (Value.builtin _) [Value.ref _, _]) _ _ _); k_dflt (refine' append_K ?k1ₘ ?k2ₘ ?k3ₘ ?_ ?zₘ; (case k1ₘ => k_asm); (case k2ₘ => k_asm); (case k3ₘ => exact upd_ch (_, _) (by assumption) (by assumption)); (case zₘ => (simp only [List.size_toArray, List.length_map]; rw [PySem.sizeLine_eq]; (k_extra "MY om"))); k_whole); intro h'ₘ F'ₘ N'ₘ))
  k_with "getMethod ref" => ((fail_if_success k_extra "OFF 8"); ((with_reducible show wpAny _ _ (getMethod (Value.ref (NR.cl _)) _ _) _ _ _); with_unfolding_all refine getMethod_list_of PySem.F.slot_list_append PySem.F.type_list_append (list_chN (by k_asm) (by assumption)) (nodict_chN (by k_asm) (by assumption)) ?_))
  trivial
set_option maxRecDepth 100000 in
set_option maxHeartbeats 8000000 in
theorem add_child_of : ∀ (w : World) (T : PT) (rest : List (Addr × Obj)) (k : Nat) (n : NR) (kind name uri loc value : Str) (tk t0 t1 t2 t3 t4 : Tok) (hk : T.ns[k]? = some n) (hkind : n.kind = "root" ∨ n.kind = "element") (hnd : ND (T.objs w.params ++ rest)) (hs : T.Small),
    MSpec w 361 6 [.ref T.b.t, .int (k : Int) tk, .str kind t0, .str name t1, .str uri t2, .str loc t3, .str value t4] (T.objs w.params ++ rest)
      (fun r news' => ∃ (n' : NR) (e t9 : Nat), r = .int (T.ns.length : Int) t9 ∧ n'.Is kind name uri loc value (some (k, tk)) ∧
        news' = ((T.more e n').setN k (n.addCh (T.ns.length, t9))).objs w.params ++ rest ∧ ND (((T.more e n').setN k (n.addCh (T.ns.length, t9))).objs w.params ++ rest)) := by
  have hEpsₑ : EpsOn 0 := ⟨True.intro⟩
  intros w T rest k n kind name uri loc value tk t0
  intros t1 t2 t3 t4
  intro hk
  intro hkind
  intro hnd
  intro hs
  (intros dp un gd cn cs a ccd cl outer A₀ base h₀ L m s p loose mean mg mb Q E; intro B F X N Tp hk9 hd hu ret)
  (injection hs with hl hb)
  have hkl : k < T.ns.length := by
    rcases Nat.lt_or_ge k T.ns.length with q | q
    · exact q
    · (replace hk := hk; rw [List.getElem?_eq_none q] at hk); cases hk
  have hn := List.mem_of_getElem? hk
  have hb1 := hb n hn
  have hb' : ∀ n ∈ T.ns, n.ch.length ≤ 1000 ∧ n.at'.length ≤ 1000 ∧ n.ns.length ≤ 1000 := fun n hn => by have := hb n hn; (k_extra "MY om")
  k_extra "MY enter"
  (intros g L' h'; intro FG F' N' B' X' T')
  try dsimp only
  try k_fold
  k_steps
  exact ret _ _ _ _ (by assumption) (by assumption) ⟨_, _, _, rfl, (by assumption), rfl, nd_set (n := n) (by assumption) (by assumption) rfl rfl⟩
end
theorem words_9 : True := by
  k_with "OFF 8" => (skip)
  trivial
/-- a tree with one child more of the node k -/
def PT.child (T : PT) (e : Nat) (n' : NR) (k : Nat) (n : NR) (t9 : Tok) : PT := (T.more e n').setN k (n.addCh (T.ns.length, t9))
section
theorem words_10 : True := by
  k_with "call ref" => ((fail_if_success k_extra "OFF 10"); ((with_reducible show wpAny _ _ (call (Value.ref 361) _) _ _ _); k_dflt (refine' MSpec.use (add_child_of _ _ _ _ _ _ _ _ _ _ _ _ _ _ _ _ ?hkₘ ?hcₘ ?hnₘ ?hlₘ) ?k1ₘ ?k2ₘ ?k3ₘ ?k4ₘ ?k5ₘ ?kKₘ ?kdₘ ?kuₘ ?_; (case hkₘ => assumption); (case hcₘ => assumption); (case hnₘ => assumption); (case hlₘ => assumption); k_extra "MY rd"; k_whole); (intros r9ₘ new9ₘ h9ₘ tk9ₘ; intro F9ₘ N9ₘ p9ₘ); ((injection p9ₘ with n9ₘ hₜ1; (injection hₜ1 with e9ₘ hₜ2; (injection hₜ2 with t9ₘ hₜ3; (injection hₜ3 with q0ₘ hₜ4; (injection hₜ4 with q1ₘ hₜ5; (injection hₜ5 with qaₘ qbₘ))))))); subst q0ₘ; subst qaₘ; k_extra "MY use"))
  trivial
set_option maxRecDepth 100000 in
set_option maxHeartbeats 8000000 in
theorem add_element_of : ∀ (w : World) (T : PT) (rest : List (Addr × Obj)) (k : Nat) (n : NR) (name uri loc : Str) (tk t1 t2 t3 : Tok) (hk : T.ns[k]? = some n) (hkind : n.kind = "root" ∨ n.kind = "element") (hnd : ND (T.objs w.params ++ rest)) (hs : T.Small),
    MSpec w 368 7 [.ref T.b.t, .int (k : Int) tk, .str name t1, .str uri t2, .str loc t3] (T.objs w.params ++ rest)
      (fun r news' => ∃ (n' : NR) (e t9 : Nat), r = .int (T.ns.length : Int) t9 ∧ n'.Is "element" name uri loc "" (some (k, tk)) ∧
        news' = (T.child e n' k n t9).objs w.params ++ rest ∧ ND ((T.child e n' k n t9).objs w.params ++ rest)) := by
  have hEpsₑ : EpsOn 0 := ⟨True.intro⟩
  intros w T rest k n name uri loc tk t1 t2 t3
  intro hk
  intro hkind
  intro hnd
  intro hs
  (intros dp un gd cn cs a ccd cl outer A₀ base h₀ L m s p loose mean mg mb Q E; intro B F X N Tp hk9 hd hu ret)
  k_extra "MY enter"
  (intros g L' h'; intro FG F' N' B' X' T')
  try dsimp only
  try k_fold
  k_steps
  exact ret _ _ _ _ (by assumption) (by assumption) ⟨_, _, _, rfl, (by assumption), rfl, (by assumption)⟩
set_option maxRecDepth 100000 in
set_option maxHeartbeats 8000000 in
theorem add_comment_of : ∀ (w : World) (T : PT) (rest : List (Addr × Obj)) (k : Nat) (n : NR) (value : Str) (tk t1 : Tok) (hk : T.ns[k]? = some n) (hkind : n.kind = "root" ∨ n.kind = "element") (hnd : ND (T.objs w.params ++ rest)) (hs : T.Small),
    MSpec w 382 7 [.ref T.b.t, .int (k : Int) tk, .str value t1] (T.objs w.params ++ rest)
      (fun r news' => ∃ (n' : NR) (e t9 : Nat), r = .int (T.ns.length : Int) t9 ∧ n'.Is "comment" "" "" "" value (some (k, tk)) ∧
        news' = (T.child e n' k n t9).objs w.params ++ rest ∧ ND ((T.child e n' k n t9).objs w.params ++ rest)) := by
  have hEpsₑ : EpsOn 0 := ⟨True.intro⟩
  intros w T rest k n value tk t1
  intro hk
  intro hkind
  intro hnd
  intro hs
  (intros dp un gd cn cs a ccd cl outer A₀ base h₀ L m s p loose mean mg mb Q E; intro B F X N Tp hk9 hd hu ret)
  k_extra "MY enter"
  (intros g L' h'; intro FG F' N' B' X' T')
  try dsimp only
  try k_fold
  k_steps
  exact ret _ _ _ _ (by assumption) (by assumption) ⟨_, _, _, rfl, (by assumption), rfl, (by assumption)⟩
end
set_option linter.unusedVariables false
/-- the walk stops here -/
def Halt (P : Prop) : Prop := P
theorem halt_of {P : Prop} (h : Halt P) : P := h
section
variable {prog : Program} {w : World} {A : Around} {E : Value → Shared → Prop} {s : Shared} {env : Env} {h₀ : Heap} {x : Str} {body : List Stmt} {Q : Flow → Shared → Prop}
/-- the end of a turn -/
def TurnQ (h₀ : Heap) (L I : Addr) (oI : Obj) (J : (Str → Option Value) → List (Addr × Obj) → Prop) (s : Shared) (Q : Flow → Shared → Prop) (f : Flow) (s' : Shared) : Prop :=
  match f with
  | .ret v => Q (.ret v) s'
  | .brk => Q .next s'
  | _ => ∃ h' tk' m' news', s' = { s with heap := h', toks := tk' } ∧ Fr h₀ L h' m' ∧ News h₀ L h' ((I, oI) :: news') ∧ (∀ p ∈ news', p.1 ≠ I) ∧ J m' news'
theorem for_list : ∀ {prog : Program} {w : World} {A : Around} {E : Value → Shared → Prop} {s : Shared} {env : Env} {h₀ : Heap} {x : Str} {body : List Stmt} {Q : Flow → Shared → Prop} {l : Addr} {vs : List Value} {c : Nat} {m₀ : Str → Option Value} {news : List (Addr × Obj)} (J : Nat → (Str → Option Value) → List (Addr × Obj) → Prop) (hh : A.handled = none) (F : Fr h₀ env.locals s.heap m₀) (N : News h₀ env.locals s.heap news) (hin : ∀ i m news, J i m news → (l, listOf vs.toArray c) ∈ news ∨ h₀.get? l = some (listOf vs.toArray c)) (hj : J 0 m₀ news) (turn : ∀ i v m₁ news₁ h tk I oI, vs[i]? = some v → J i m₁ news₁ → (∀ p ∈ news₁, p.1 ≠ I) → Fr h₀ env.locals h (fun y => if y = x then some v else m₁ y) → News h₀ env.locals h ((I, oI) :: news₁) →
      wpAny (model prog w) A (execs body env) (TurnQ h₀ env.locals I oI (J (i + 1)) s Q) E { s with heap := h, toks := tk }) (done : ∀ m₁ news₁ h tk, J vs.length m₁ news₁ → Fr h₀ env.locals h m₁ → News h₀ env.locals h news₁ → Q .next { s with heap := h, toks := tk }),
    wpAny (model prog w) A (pyIter (.ref l)) (fun it s₂ => LoopAtV prog w A h₀ env x body Q E it s₂) E s := by
  have hEpsₑ : EpsOn 0 := ⟨True.intro⟩
  intros prog w A E s env h₀ x body Q l vs
  intros c m₀ news J
  intro hh
  intro F
  intro N
  intro hin
  intro hj
  intro turn
  intro done
  have at_ : ∀ {i m news} {h : Heap}, J i m news → Fr h₀ env.locals h m → News h₀ env.locals h news → h.get? l = some (listOf vs.toArray c) := fun hJ F N => (hin _ _ _ hJ).elim (fun q => (N _ q).1) fun q => F.keep _ _ q
  have hol := at_ hj F N
  have hls : s.heap.IsList l vs.toArray := ⟨_, hol, rfl, _, rfl⟩
  have hlt : l < s.heap.objs.size := Heap.lt_size hol
  have hne : l ≠ s.heap.objs.size := Nat.ne_of_lt hlt
  have hlL : l ≠ env.locals := by
    rcases hin _ _ _ hj with q | q
    · exact (N _ q).2.1
    · exact Nat.ne_of_lt (Nat.lt_of_lt_of_le (Heap.lt_size q) F.above)
  refine wpAny_pyIter_list hls ?_
  have W := Walks.list (prog := prog) (w := w) hh s.heap.objs.size l hne vs.toArray
  have hlen : vs.toArray.size = vs.length := by simp
  (replace W := W; rw [hlen] at W)
  refine ⟨_, _, _, vs.length, _, _, m₀, news, J, rfl, W, ?_, ?_, ?_, ⟨⟨_, Heap.get?_push_size _ rfl, rfl, rfl⟩, hls.at fun o e => Heap.get?_push_of_some _ e⟩, F.push _, (fun p hp => ⟨Heap.get?_push_of_some _ (N p hp).1, (N p hp).2⟩), hj, ?_, ?_⟩
  · intro hm
    rcases List.mem_cons.mp hm with e | hm
    · exact absurd F.ns.lt (e ▸ Nat.lt_irrefl _)
    · exact hlL (List.mem_singleton.mp hm).symm
  · intro b hb
    rw [List.mem_singleton.mp hb]
    exact next_is_new F
  · intro p hp hI
    exact absurd (Heap.lt_size (N p hp).1) ((List.mem_singleton.mp hI) ▸ Nat.lt_irrefl _)
  · ((intros i v m₁ news₁ s₁ own); (intro hₜ6; (injection hₜ6 with hh' hₜ1; (injection hₜ1 with tk' hₜ2; rcases hₜ2 with rfl))); (intro hi hP hJ hoff hown hownget hmem hst; intros F₁ N₁))
    (refine And.elim ?_ (hst); (try clear hst); intro hₜ1 hₜ2; (injection hₜ1 with oi hₜ3; (injection hₜ3 with hoi hₜ4; rcases hₜ4 with _)); rcases hₜ2 with _)
    have hI : (s.heap.objs.size, oi) ∈ own := hmem _ (.head _) (next_is_new F) oi hoi
    have hv : vs[i]? = some v := by simpa using hP
    have hI1 : ∀ p ∈ news₁, p.1 ≠ s.heap.objs.size := fun p hp e => hoff p hp (e ▸ .head _)
    have N₂ : News h₀ env.locals hh' ((s.heap.objs.size, oi) :: news₁) := fun p hp => N₁ p ((List.mem_cons.mp hp).elim (fun e => List.mem_append.mpr (.inl (e ▸ hI))) fun h => List.mem_append.mpr (.inr h))
    have hl₁ : hh'.get? l = some (listOf vs.toArray c) := by
      have q := hin _ _ _ hJ
      rcases q with q | q
      · exact (N₂ _ (.tail _ q)).1
      · exact F₁.keep _ _ q
    refine wpAny_mono (turn i v m₁ news₁ hh' tk' s.heap.objs.size oi hv hJ hI1 F₁ N₂) ?_ fun _ _ e => e
    (intros f s₂ p)
    have fin : (∃ h' tk' m' news', s₂ = { s with heap := h', toks := tk' } ∧ Fr h₀ env.locals h' m' ∧ News h₀ env.locals h' ((s.heap.objs.size, oi) :: news') ∧ (∀ p ∈ news', p.1 ≠ s.heap.objs.size) ∧ J (i + 1) m' news') →
        LoopStepU h₀ env.locals [s.heap.objs.size] own (J (i + 1)) { s with heap := hh', toks := tk' } .next s₂ := by
      ((intro hₜ5; (injection hₜ5 with h' hₜ1; (injection hₜ1 with tk2 hₜ2; (injection hₜ2 with m' hₜ3; (injection hₜ3 with news' hₜ4; (refine And.elim ?_ (hₜ4); (try clear hₜ4); intro hₜ5 hₜ6; rcases hₜ5 with rfl; (injection hₜ6 with F' hₜ7; (injection hₜ7 with N' hₜ8; (injection hₜ8 with hI2 hJ'))))))))))
      refine ⟨rfl, h', tk2, m', news', rfl, F', fun p hp => ?_, fun p hp hq => hI2 p hp (List.mem_singleton.mp hq), hJ'⟩
      rcases List.mem_append.mp hp with hp | hp
      · have h1 := hown p hp
        have h2 := hownget p hp
        rcases List.mem_cons.mp h1 with e | e
        · have : p = (s.heap.objs.size, oi) := by
            (first | (injection p with a o) | rcases p with ⟨a, o⟩)
            dsimp only at e h2
            subst e
            (replace h2 := h2; rw [hoi] at h2)
            cases h2; rfl
          exact this ▸ N' _ (.head _)
        · have e := List.mem_singleton.mp e
          (first | (injection p with a o) | rcases p with ⟨a, o⟩)
          dsimp only at e h2
          subst e
          (replace h2 := h2; rw [hl₁] at h2)
          cases h2
          refine ⟨?_, hlL, (N₁ _ (List.mem_append_left _ hp)).2.2⟩
          rcases hin _ _ _ hJ' with q | q
          · exact (N' _ (.tail _ q)).1
          · exact F'.keep _ _ q
      · exact N' _ (.tail _ hp)
    cases f with
    | ret v => exact .ret p
    | brk => exact .brk p
    | next => exact .next (fin p)
    | cont => exact .cont (fin p)
  · ((intros h' tk m' news'; intro F' N' _ hJ))
    exact done m' news' h' tk hJ F' N'
end
/-- names laid over a map -/
def putsL : List (Str × Value) → (Str → Option Value) → Str → Option Value
  | [], M => M
  | p :: l, M => fun y => if y = p.1 then some p.2 else putsL l M y
theorem putsL_self : ∀ {l : List (Str × Value)} {M : Str → Option Value}, (∀ p ∈ l, M p.1 = some p.2) → putsL l M = M
  | [], _, _ => rfl
  | p :: l, M, h => by
    funext y
    have ih := putsL_self (l := l) (M := M) fun q hq => h q (.tail _ hq)
    show (if y = p.1 then some p.2 else putsL l M y) = M y
    rw [ih]
    by_cases e : y = p.1
    · rw [if_pos e, e]; exact (h p (.head _)).symm
    · rw [if_neg e]
section
variable {prog : Program} {w : World} {A : Around} {E : Value → Shared → Prop} {Q : Flow → Shared → Prop} {s : Shared} {env : Env} {h₀ : Heap} {L : Addr}
theorem While_puts {test : PySem.Expr} {body : List Stmt} {pos : Pos} {M : Str → Option Value} {news : List (Addr × Obj)} (J : Nat → List (Str × Value) → List (Addr × Obj) → Prop) {n₀ : Nat} (l₀ : List (Str × Value))
    (F : Fr h₀ L s.heap M) (N : News h₀ L s.heap news) (hl : ∀ p ∈ l₀, M p.1 = some p.2) (hJ : J n₀ l₀ news)
    (turn : ∀ n l news₁ h₁ tk₁, J n l news₁ → Fr h₀ L h₁ (putsL l M) → News h₀ L h₁ news₁ →
      wpAny (model prog w) A (isTrue test env (eval test env)) (fun b s₂ =>
        if b = true then wpAny (model prog w) A (execs body env) (WhileStep h₀ L s (fun n' m' news' => ∃ l', m' = putsL l' M ∧ J n' l' news') n) E s₂ else Q .next s₂) E { s with heap := h₁, toks := tk₁ })
    (hE : PassesOwn (model prog w) A env E := by passes_own) :
    wpAny (model prog w) A (exec (.While test body [] pos) env) Q E s := by
  refine While_inv (fun n' m' news' => ∃ l', m' = putsL l' M ∧ J n' l' news') F N ⟨l₀, (putsL_self hl).symm, hJ⟩ ?_ hE
  ((intros n m₁ news₁ h₁ tk₁ F₁; intro N₁); (intro hₜ1; (injection hₜ1 with l' hₜ1; (refine And.elim ?_ (hₜ1); (try clear hₜ1); intro hₜ2 hJ'; rcases hₜ2 with rfl))))
  exact turn n l' news₁ h₁ tk₁ hJ' F₁ N₁
end
set_option linter.unusedVariables false
theorem words_11 : True := by
  k_with "OFF 10" => (skip)
  k_with "MY reader" => ((fail_if_success k_extra "OFF 18"); (refine wpAny_call ?_; with_unfolding_all (refine' code_reader ?k1ₘ ?k2ₘ ?k3ₘ ?k4ₘ ?k5ₘ ?kAₘ ?kFₘ ?kKₘ ?k6ₘ ?k7ₘ ?k8ₘ ?k9ₘ ?kBₘ ?_ ?c2ₘ ?c3ₘ ?c4ₘ ?c5ₘ; (case kAₘ => exact rfl); (case kFₘ => exact rfl); (case kKₘ => assumption); (case k1ₘ => k_asm); (case k2ₘ => k_asm); (case k3ₘ => k_asm); (case k4ₘ => k_asm); (case k5ₘ => k_asm); (case k6ₘ => k_is); (case k7ₘ => k_is); (case k8ₘ => ((try dsimp only [ktrTop]); (k_extra "MY om"))); (case k9ₘ => exact BindsTo.of_eq rfl); (case c5ₘ => decide); (case kBₘ => exact locs rfl); (case c2ₘ => exact rfl); (case c3ₘ => exact rfl); (case c4ₘ => exact rfl); k_whole)))
  k_with "LeaveK" => ((fail_if_success k_extra "OFF 18"); ((rename (∀ _ _ _ _ _, Fr _ _ _ _ → News _ _ _ _ → _ → LeaveK _ _ _ _ _ _ _) => lv9ₘ); k_dflt (refine' lv9ₘ _ _ _ _ _ ?k1ₘ ?k2ₘ ?_; (case k1ₘ => k_asm); (case k2ₘ => k_asm); k_whole); (intros kFₘ kNₘ kSₘ kOₘ); (try dsimp only)))
  k_with "exec While Compare cons nil" => ((fail_if_success k_extra "OFF 18"); refine halt_of ?_)
  k_with "exec For Name Name cons nil" => ((fail_if_success k_extra "OFF 18"); refine halt_of ?_)
  k_with "Halt" => ((fail_if_success k_extra "OFF 40"); fail "halt")
  k_with "MY k_inst" => ((fail_if_success k_extra "OFF 18"); first | (refine' inst_tree ?Fₘ ?h1ₘ; (case Fₘ => k_asm); (case h1ₘ => assumption)) | (refine' inst_node ?Fₘ ?h1ₘ ?h2ₘ; (case Fₘ => k_asm); (case h1ₘ => assumption); (case h2ₘ => assumption)))
  k_with "MY rp" => ((fail_if_success k_extra "OFF 18"); (case kpₘ => exact PT.At.sub (by assumption) (Fr.keep (by k_asm))))
  k_with "MY size" => ((fail_if_success k_extra "OFF 18"); (simp only [List.size_toArray, List.length_map, Array.size_push, PySem.sizeLine_eq]; (k_extra "MY om")))
  k_with "call builtin:list.append" => ((fail_if_success k_extra "OFF 18"); (k_here; (with_reducible show wpAny _ _ (call (Value.builtin _) [Value.ref _, _]) _ _ _); k_dflt (refine' append_K ?k1ₘ ?k2ₘ ?k3ₘ ?_ ?zₘ; (case k1ₘ => k_asm); (case k2ₘ => k_asm); (case k3ₘ => k_upd); (case zₘ => k_extra "MY size"); k_whole); intro h'ₘ F'ₘ N'ₘ))
  k_with "subscriptTail Name Slice ref ref" => ((fail_if_success k_extra "OFF 18"); (k_here; k_dflt (refine' krv_lit ?Fₘ ?Nₘ ?lₘ ?kₘ ?eₘ ?_ ?sₘ ?tₘ ?zₘ; (case Fₘ => k_asm); (case Nₘ => k_asm); (case lₘ => exact News.isList (by k_asm) (by k_mem)); (case kₘ => exact IsPart.int _ _); (case eₘ => exact rfl); (case sₘ => with_unfolding_all rfl); (case tₘ => (intro _; with_unfolding_all rfl)); (case zₘ => k_extra "MY size")); (intros D'ₘ h'ₘ; intro F'ₘ N'ₘ l1ₘ); (try k_lt l1ₘ)))
  trivial
/-- parents lie below, children above -/
structure PT.Wf (T : PT) : Prop where
  par : ∀ i (n : NR), T.ns[i]? = some n → ∀ c : Nat × Tok, n.par = some c → c.1 < i
  ch : ∀ i (n : NR), T.ns[i]? = some n → ∀ c ∈ n.ch, i < c.1 ∧ c.1 < T.ns.length
theorem get_lt {T : PT} {k : Nat} {n : NR} (h : T.ns[k]? = some n) : k < T.ns.length := by
  rcases Nat.lt_or_ge k T.ns.length with q | q
  · exact q
  · (replace h := h; rw [List.getElem?_eq_none q] at h); cases h
theorem lt_get {T : PT} {k : Nat} (h : k < T.ns.length) : ∃ n, T.ns[k]? = some n := ⟨_, List.getElem?_eq_getElem h⟩
theorem exists_D {g h : Heap} {L D : Addr} {o : Obj} {l : List (Addr × Obj)} (N : News g L h ((D, o) :: l)) : ∃ D', D' = D := ⟨_, rfl⟩
section
theorem words_12 : True := by
  k_with "call ref" => ((fail_if_success k_extra "OFF 12"); ((with_reducible show wpAny _ _ (call (Value.ref 459) _) _ _ _); k_dflt (refine' RSpec.use (parent_of _ _ _ _ _ ?hkₘ) ?k1ₘ ?k2ₘ ?k3ₘ ?k4ₘ ?k5ₘ ?kKₘ ?kdₘ ?kuₘ ?kpₘ ?_; (case hkₘ => assumption); k_extra "MY rd"; k_extra "MY rp"; k_whole); (intros r9ₘ new9ₘ h9ₘ tk9ₘ; intro F9ₘ N9ₘ S9ₘ O9ₘ p9ₘ); ((injection p9ₘ with p9ₘ p9'ₘ); subst p9ₘ; subst p9'ₘ); simp only [List.nil_append] at N9ₘ; k_extra "MY use"))
  trivial
set_option maxRecDepth 100000 in
set_option maxHeartbeats 8000000 in
theorem lines_down_of : ∀ (w : World) (T : PT) (k : Nat) (tq : Tok) (hk : k < T.ns.length) (wf : T.Wf),
    RSpec w 28 3 [.ref T.b.t, .int (k : Int) tq] (fun h => T.At w.params h) (fun _ r new => ∃ (x e : Nat) (xs : List (Nat × Tok)), r = .ref x ∧ (∀ c ∈ xs, c.1 < T.ns.length) ∧ xs.length ≤ 1000 ∧ (x, listOf (xs.map nv).toArray e) ∈ new) := by
  have hEpsₑ : EpsOn 0 := ⟨True.intro⟩
  intros w T k tq
  intro hk
  intro wf
  (intros dp un gd cn cs a ccd cl outer A₀ base h₀ L m news s p loose mean mg mb Q E; intro B F X N Tp hk9 hd hu pre ret)
  have hT := pre.2.1
  k_extra "MY reader"
  (intros L' h'; intro F' N' B' X' T' lv)
  try dsimp only
  try k_fold
  k_steps
  unfold Halt
  rename (Fr _ _ _ _) => F1
  rename (News _ _ _ _) => N1
  (injection (exists_D N1) with D hD)
  subst hD
  refine While_puts (fun n l news' => ∃ (o : Option (Nat × Tok)) (xs : List (Nat × Tok)) (c : Nat), l = [(Str.ofString "node", parV o)] ∧ news' = [(D, listOf (xs.map nv).toArray c)] ∧ (∀ c ∈ xs, c.1 < T.ns.length) ∧ (match o with | none => 0 | some i => i.1 + 1) = n ∧ (∀ i, o = some i → i.1 < T.ns.length) ∧ xs.length + n ≤ k + 1)
    [(Str.ofString "node", .int (k : Int) tq)] F1 N1 (by intro q hq; cases hq with | head => with_unfolding_all exact rfl | tail _ h => nomatch h) ⟨some (k, tq), [], 0, rfl, rfl, (fun _ h => nomatch h), rfl, (fun i e => by cases e; exact hk), by simp⟩ ?_
  clear F1 N1
  ((intro n; intro l; intros news₁ h₁ tk₁); (intro hₜ1; (injection hₜ1 with o hₜ1; (injection hₜ1 with xs hₜ2; (injection hₜ2 with c hₜ3; (refine And.elim ?_ (hₜ3); (try clear hₜ3); intro hₜ4 hₜ5; rcases hₜ4 with rfl; (refine And.elim ?_ (hₜ5); (try clear hₜ5); intro hₜ6 hₜ7; rcases hₜ6 with rfl; (injection hₜ7 with hx hₜ8; (injection hₜ8 with hn hₜ9; (injection hₜ9 with ho hlen))))))))); intro F1 N1)
  rcases o with _ | ⟨i, ti⟩
  all_goals simp only [putsL, parV, nv] at F1
  · k_steps
    refine ret _ _ _ _ (by assumption) (by assumption) (by assumption) (by assumption) ⟨_, 0, xs.reverse, rfl, fun c hc => hx c (List.mem_reverse.mp hc), by simp only [List.length_reverse]; (k_extra "MY om"), ?_⟩
    rw [List.map_reverse]
    exact .head _
  · have hi := ho _ rfl
    (injection (lt_get hi) with ni hni)
    k_steps
    rename (Fr _ _ _ _) => F5
    rename (News _ _ _ _) => N5
    dsimp only at hn
    have hp := wf.par i ni hni
    refine WhileStep.intro (n' := match ni.par with | none => 0 | some c => c.1 + 1) F5 N5 ?_ ⟨[(Str.ofString "node", parV ni.par)], ?_, ni.par, xs ++ [(i, ti)], c + 1, rfl, ?_, ?_, rfl, ?_, ?_⟩
    · cases hq : ni.par with
      | none => dsimp only; (k_extra "MY om")
      | some q => have := hp q hq; dsimp only; (k_extra "MY om")
    · funext y
      simp only [putsL]
      by_cases e : y = Str.ofString "node" <;> simp [e]
    · simp only [List.map_append, List.map_cons, List.map_nil, List.push_toArray, nv]
    · intro q hq
      rcases List.mem_append.mp hq with hq | hq
      · exact hx q hq
      · rw [List.mem_singleton.mp hq]; exact hi
    · intro q hq
      have := hp q hq
      dsimp only at hi; (k_extra "MY om")
    · cases hq : ni.par with
      | none => simp only [List.length_append, List.length_cons, List.length_nil]; (k_extra "MY om")
      | some q => have := hp q hq; simp only [List.length_append, List.length_cons, List.length_nil]; (k_extra "MY om")
end
set_option linter.unusedVariables false
/-- the three objects of a comprehension: its block C, its iterator I, what it makes D -/
structure Blk (h₀ : Heap) (L C I D : Addr) : Prop where
  cL : C ≠ L
  iL : I ≠ L
  dL : D ≠ L
  ci : C ≠ I
  cd : C ≠ D
  di : D ≠ I
  c0 : h₀.get? C = none
  i0 : h₀.get? I = none
  d0 : h₀.get? D = none
abbrev Apart (C I D : Addr) (news : List (Addr × Obj)) : Prop := ∀ p ∈ news, p.1 ≠ C ∧ p.1 ≠ I ∧ p.1 ≠ D
section
variable {prog : Program} {w : World} {A : Around} {E : Value → Shared → Prop} {s : Shared} {h₀ : Heap} {L : Addr} {m : Str → Option Value}
/-- the ground of a turn -/
structure Gnd (h₀ : Heap) (L : Addr) (m : Str → Option Value) (h : Heap) (C I D l : Addr) (i : Nat) (news : List (Addr × Obj)) : Prop where
  F : Fr h₀ L h m
  N : News h₀ L h news
  ap : Apart C I D news
  it : h.IsListIter I l i
  ns : ∃ mC, h.Ns C mC
theorem Gnd.led {h : Heap} {C I D l : Addr} {i : Nat} {news : List (Addr × Obj)} (G : Gnd h₀ L m h C I D l i news) (B : Blk h₀ L C I D) {oD : Obj} (hD : h.get? D = some oD) {mC : Str → Option Value} (hC : h.Ns C mC) :
    ∃ oI oC, h.get? I = some oI ∧ h.get? C = some oC ∧ (∀ h' : Heap, h'.get? I = some oI → h'.IsListIter I l i) ∧ LCg.NsObj oC mC ∧ News h₀ L h ((C, oC) :: (I, oI) :: (D, oD) :: news) := by
  (injection hC with oC hₜ1; (injection hₜ1 with es hₜ2; (injection hₜ2 with ep hₜ3; (injection hₜ3 with hoC r))))
  (injection (G.it) with oI hₜ1; (injection hₜ1 with hoI q))
  refine ⟨oI, oC, hoI, hoC, fun h' e => ⟨oI, e, q⟩, ⟨es, ep, r⟩, ?_⟩
  intro p hp
  cases hp with
  | head => exact ⟨hoC, B.cL, B.c0⟩
  | tail _ hp => cases hp with
    | head => exact ⟨hoI, B.iL, B.i0⟩
    | tail _ hp => cases hp with
      | head => exact ⟨hD, B.dL, B.d0⟩
      | tail _ hp => exact G.N p hp
theorem Gnd.but {h h' : Heap} {C I D l b : Addr} {i : Nat} {news : List (Addr × Obj)} (G : Gnd h₀ L m h C I D l i news) (hs : Heap.ExtBut b h h') (hb : b = C ∨ b = I ∨ b = D) (B : Blk h₀ L C I D) : Fr h₀ L h' m ∧ News h₀ L h' news := by
  have hbL : L ≠ b := by rcases hb with e | e | e <;> rw [e] <;> first | exact B.cL.symm | exact B.iL.symm | exact B.dL.symm
  have hb0 : h₀.get? b = none := by rcases hb with e | e | e <;> rw [e] <;> first | exact B.c0 | exact B.i0 | exact B.d0
  refine ⟨⟨G.F.ns.extBut hs hbL, fun x o e => hs x o (fun q => by (replace e := e; rw [q, hb0] at e); cases e) (G.F.keep x o e), G.F.above⟩, fun p hp => ⟨hs _ _ ?_ (G.N p hp).1, (G.N p hp).2⟩⟩
  rcases hb with e | e | e <;> rw [e] <;> first | exact (G.ap p hp).1 | exact (G.ap p hp).2.1 | exact (G.ap p hp).2.2
theorem extBut_of {h h' : Heap} {b : Addr} (hk : ∀ x o, x ∉ [b] → h.get? x = some o → h'.get? x = some o) : Heap.ExtBut b h h' := fun x o hx e => hk x o (fun q => hx (List.mem_singleton.mp q)) e
variable {R : Result → Shared → Prop}
theorem compL_loop : ∀ {prog : Program} {w : World} {A : Around} {s : Shared} {h₀ : Heap} {L : Addr} {m : Str → Option Value} {R : Result → Shared → Prop} {elt iter : PySem.Expr} {x : Str} {px : Pos} {scope : Scope} {pos : Pos} {C I D l c : Addr} {vs : List Value} {cenv : Env} {news : List (Addr × Obj)} (J : Nat → List Value → List (Addr × Obj) → Prop) (hh : A.handled = none) (B : Blk h₀ L C I D) (hC : cenv.locals = C) (hx : cenv.kindOf x = some .local) (hp : (cenv.scope.kind == .class || (cenv.scope.kind == .module && cenv.locals != cenv.globals)) = false) (hsz : vs.length ≤ sizeLine) (hin : ∀ i ys news', J i ys news' → (l, listOf vs.toArray c) ∈ news' ∨ h₀.get? l = some (listOf vs.toArray c)) (G : Gnd h₀ L m s.heap C I D l 0 news) (hD : s.heap.PlainList D #[]) (hJ : J 0 [] news) (turn : ∀ i v ys news₁ h tk oC oI oD m₂ E', vs[i]? = some v → J i ys news₁ → Apart C I D news₁ → Fr h₀ L h m → News h₀ L h ((C, oC) :: (I, oI) :: (D, oD) :: news₁) → LCg.NsObj oC m₂ → m₂ x = some v →
      wpAny (model prog w) A (eval elt cenv) (fun y s₃ => ∃ h' tk' news', s₃ = { s with heap := h', toks := tk' } ∧ Fr h₀ L h' m ∧ News h₀ L h' ((C, oC) :: (I, oI) :: (D, oD) :: news') ∧ Apart C I D news' ∧ J (i + 1) (ys ++ [y]) news') E' { s with heap := h, toks := tk }) (hR : ∀ h' tk ys news' k mC, Fr h₀ L h' m → h'.Ns C mC → News h₀ L h' ((D, listOf ys.toArray k) :: news') → Apart C I D news' → J vs.length ys news' → ys.length = vs.length → R (.ok .next) { s with heap := h', toks := tk }),
    codeAny (model prog w) A (.compLoop (.ListComp elt [⟨.Name x px, iter, [], 0⟩] scope pos) 0 (.ref I) (.ref D) cenv) R s := by
  have hEpsₑ : EpsOn 0 := ⟨True.intro⟩
  intros prog w A s h₀ L m R elt iter x px scope pos C I D l c vs cenv news J
  intro hh
  intro B
  intro hC
  intro hx
  intro hp
  intro hsz
  intro hin
  intro G
  intro hD
  intro hJ
  intro turn
  intro hR
  subst hC
  refine codeAny_compLoop_tests
    (fun k s' => ∃ h' tk, ∃ i : Nat, ∃ ys news', s' = { s with heap := h', toks := tk } ∧ Gnd h₀ L m h' cenv.locals I D l i news' ∧ h'.PlainList D (ys : List Value).toArray ∧ J i ys news' ∧ ys.length = i ∧ i ≤ vs.length ∧ k = vs.length + 1 - i) ?_ (vs.length + 1)
    ⟨s.heap, s.toks, 0, [], news, rfl, G, hD, hJ, rfl, Nat.zero_le _, rfl⟩
  ((intros k s'); (intro hₜ2; (injection hₜ2 with h' hₜ1; (injection hₜ1 with tk hₜ2; (injection hₜ2 with i hₜ3; (injection hₜ3 with ys hₜ4; (injection hₜ4 with news' hₜ5; (refine And.elim ?_ (hₜ5); (try clear hₜ5); intro hₜ6 hₜ7; rcases hₜ6 with rfl; (injection hₜ7 with G' hₜ8; (injection hₜ8 with hD' hₜ9; (injection hₜ9 with hJ' hₜ10; (injection hₜ10 with hys hₜ11; (injection hₜ11 with hi hₜ12; rcases hₜ12 with rfl)))))))))))))
  have hl' : h'.IsList l vs.toArray := by
    rcases hin _ _ _ hJ' with q | q
    · exact ⟨_, (G'.N _ q).1, rfl, _, rfl⟩
    · exact ⟨_, G'.F.keep _ _ q, rfl, _, rfl⟩
  have hlI : l ≠ I := by
    rcases hin _ _ _ hJ' with q | q
    · exact (G'.ap _ q).2.1
    · intro e; (replace q := q; rw [e, B.i0] at q); cases q
  have W := Walks.list (prog := prog) (w := w) hh I l hlI vs.toArray
  rcases Nat.lt_or_ge i vs.length with hlt | hge
  · refine W.item i _ _ _ (by simpa using hlt) ⟨G'.it, hl'⟩ ?_
    (intros v h₁ tk₁; intro hv; intro st₁; intro hk₁)
    have hv : vs[i]? = some v := by simpa using hv
    (injection (G'.ns) with mC hns)
    have x₁ := extBut_of hk₁
    (injection (G'.but x₁ (.inr (.inl rfl)) B) with F₁ N₁)
    have G₁ : Gnd h₀ L m h₁ cenv.locals I D l (i + 1) news' := ⟨F₁, N₁, G'.ap, st₁.1, mC, hns.extBut x₁ B.ci⟩
    refine wpAny_assign_Name (wpAny_storeName_local hx (hns.extBut x₁ B.ci) ?_ hp)
    intro h₂ hn₂ hs₂
    (injection (G₁.but hs₂.extBut (.inl rfl) B) with F₂ N₂)
    have G₂ : Gnd h₀ L m h₂ cenv.locals I D l (i + 1) news' := ⟨F₂, N₂, G'.ap, st₁.1.extBut hs₂.extBut B.ci.symm, _, hn₂⟩
    have hD₂ := (hD'.extBut x₁ B.di).extBut hs₂.extBut B.cd.symm
    (injection hD₂ with kD oD)
    (injection (G₂.led B oD hn₂) with oI hₜ1; (injection hₜ1 with oC hₜ2; (injection hₜ2 with hoI hₜ3; (injection hₜ3 with hoC hₜ4; (injection hₜ4 with qI hₜ5; (injection hₜ5 with qC N3))))))
    show wpAny _ _ (pure true) _ _ _
    refine wpAny_pure ?_
    simp only [if_true]
    refine wpAny_mono (turn i v ys news' _ _ oC oI _ _ _ hv hJ' G'.ap F₂ N3 qC (by simp)) ?_ fun _ _ e => e
    (intros y s₃ h₃)
    (injection h₃ with h₃ hₜ1; (injection hₜ1 with tk₃ hₜ2; (injection hₜ2 with news₃ hₜ3; (refine And.elim ?_ (hₜ3); (try clear hₜ3); intro hₜ4 hₜ5; rcases hₜ4 with rfl; (injection hₜ5 with F₃ hₜ6; (injection hₜ6 with N₄ hₜ7; (injection hₜ7 with ap₃ hJ₃)))))))
    have eI := (N₄ _ (.tail _ (.head _))).1
    have eC := (N₄ _ (.head _)).1
    have eD := (N₄ _ (.tail _ (.tail _ (.head _)))).1
    have G₃ : Gnd h₀ L m h₃ cenv.locals I D l (i + 1) news₃ := ⟨F₃, fun p hp => N₄ p (.tail _ (.tail _ (.tail _ hp))), ap₃, qI _ eI, _, qC.ns eC⟩
    refine wpAny_list_append_plain (hsz := by simp; (k_extra "MY om")) (⟨_, eD⟩ : h₃.PlainList D ys.toArray) ?_
    intro h₅ hl₅ hs₅
    (injection (G₃.but hs₅.extBut (.inr (.inr rfl)) B) with F₅ N₅)
    exact ⟨vs.length + 1 - (i + 1), by (k_extra "MY om"), h₅, _, i + 1, ys ++ [y], news₃, rfl, ⟨F₅, N₅, ap₃, (qI _ eI).extBut hs₅.extBut B.di.symm, _, (qC.ns eC).extBut hs₅.extBut B.cd⟩, by simpa using hl₅, hJ₃, by simp [hys], by (k_extra "MY om"), rfl⟩
  · have hin' : i = vs.length := by (k_extra "MY om")
    subst hin'
    refine W.done _ _ _ (by have := G'.it; simp only [List.size_toArray]; exact ⟨this, hl'⟩) ?_
    (intros h₁ tk₁; intro hk₁)
    have x₁ := extBut_of hk₁
    (injection (G'.but x₁ (.inr (.inl rfl)) B) with F₁ N₁)
    (injection (G'.ns) with mC hns)
    (injection (hD'.extBut x₁ B.di) with kD oD)
    refine hR h₁ tk₁ ys news' kD mC F₁ (hns.extBut x₁ B.ci) ?_ G'.ap hJ' hys
    intro p hp
    cases hp with
    | head => exact ⟨oD, B.dL, B.d0⟩
    | tail _ hp => exact N₁ p hp
theorem compD_loop : ∀ {prog : Program} {w : World} {A : Around} {s : Shared} {h₀ : Heap} {L : Addr} {m : Str → Option Value} {R : Result → Shared → Prop} {kx vx iter : PySem.Expr} {x : Str} {px : Pos} {scope : Scope} {pos : Pos} {C I D l c : Addr} {vs : List Value} {cenv : Env} {news : List (Addr × Obj)} (J : Nat → List (Int × Value) → List (Addr × Obj) → Prop) (hh : A.handled = none) (B : Blk h₀ L C I D) (hC : cenv.locals = C) (hx : cenv.kindOf x = some .local) (hp : (cenv.scope.kind == .class || (cenv.scope.kind == .module && cenv.locals != cenv.globals)) = false) (hsz : ∀ i kvs news', J i kvs news' → kvs.length ≤ sizeLine) (hin : ∀ i ys news', J i ys news' → (l, listOf vs.toArray c) ∈ news' ∨ h₀.get? l = some (listOf vs.toArray c)) (G : Gnd h₀ L m s.heap C I D l 0 news) (hD : s.heap.DictOf (PySem.intKind prog w) D []) (hJ : J 0 [] news) (turn : ∀ i v ys news₁ h tk oC oI oD m₂ E', vs[i]? = some v → J i ys news₁ → Apart C I D news₁ → Fr h₀ L h m → News h₀ L h ((C, oC) :: (I, oI) :: (D, oD) :: news₁) → LCg.NsObj oC m₂ → m₂ x = some v →
      wpAny (model prog w) A (eval kx cenv) (fun kv s₂ => wpAny (model prog w) A (eval vx cenv) (fun y s₃ => ∃ h' tk' news' k, (PySem.intKind prog w).is k kv = true ∧ s₃ = { s with heap := h', toks := tk' } ∧ Fr h₀ L h' m ∧ News h₀ L h' ((C, oC) :: (I, oI) :: (D, oD) :: news') ∧ Apart C I D news' ∧ J (i + 1) (stored ys k y) news') E' s₂) E' { s with heap := h, toks := tk }) (hR : ∀ h' tk ys news' oD mC, Fr h₀ L h' m → h'.Ns C mC → oD.IsDictOf (PySem.intKind prog w) ys → News h₀ L h' ((D, oD) :: news') → Apart C I D news' → J vs.length ys news' → R (.ok .next) { s with heap := h', toks := tk }),
    codeAny (model prog w) A (.compLoop (.DictComp kx vx [⟨.Name x px, iter, [], 0⟩] scope pos) 0 (.ref I) (.ref D) cenv) R s := by
  have hEpsₑ : EpsOn 0 := ⟨True.intro⟩
  intros prog w A s h₀ L m R kx vx iter x px scope pos C I D l c vs cenv news
  intro J
  intro hh
  intro B
  intro hC
  intro hx
  intro hp
  intro hsz
  intro hin
  intro G
  intro hD
  intro hJ
  intro turn
  intro hR
  subst hC
  refine codeAny_compLoop_testsD
    (fun k s' => ∃ h' tk, ∃ i : Nat, ∃ ys news', s' = { s with heap := h', toks := tk } ∧ Gnd h₀ L m h' cenv.locals I D l i news' ∧ h'.DictOf (PySem.intKind prog w) D ys ∧ J i ys news' ∧ i ≤ vs.length ∧ k = vs.length + 1 - i) ?_ (vs.length + 1)
    ⟨s.heap, s.toks, 0, [], news, rfl, G, hD, hJ, Nat.zero_le _, rfl⟩
  ((intros k s'); (intro hₜ1; (injection hₜ1 with h' hₜ1; (injection hₜ1 with tk hₜ2; (injection hₜ2 with i hₜ3; (injection hₜ3 with ys hₜ4; (injection hₜ4 with news' hₜ5; (refine And.elim ?_ (hₜ5); (try clear hₜ5); intro hₜ6 hₜ7; rcases hₜ6 with rfl; (injection hₜ7 with G' hₜ8; (injection hₜ8 with hD' hₜ9; (injection hₜ9 with hJ' hₜ10; (injection hₜ10 with hi hₜ11; rcases hₜ11 with rfl))))))))))))
  have hl' : h'.IsList l vs.toArray := by
    rcases hin _ _ _ hJ' with q | q
    · exact ⟨_, (G'.N _ q).1, rfl, _, rfl⟩
    · exact ⟨_, G'.F.keep _ _ q, rfl, _, rfl⟩
  have hlI : l ≠ I := by
    rcases hin _ _ _ hJ' with q | q
    · exact (G'.ap _ q).2.1
    · intro e; (replace q := q; rw [e, B.i0] at q); cases q
  have W := Walks.list (prog := prog) (w := w) hh I l hlI vs.toArray
  rcases Nat.lt_or_ge i vs.length with hlt | hge
  · refine W.item i _ _ _ (by simpa using hlt) ⟨G'.it, hl'⟩ ?_
    (intros v h₁ tk₁; intro hv; intro st₁; intro hk₁)
    have hv : vs[i]? = some v := by simpa using hv
    (injection (G'.ns) with mC hns)
    have x₁ := extBut_of hk₁
    (injection (G'.but x₁ (.inr (.inl rfl)) B) with F₁ N₁)
    have G₁ : Gnd h₀ L m h₁ cenv.locals I D l (i + 1) news' := ⟨F₁, N₁, G'.ap, st₁.1, mC, hns.extBut x₁ B.ci⟩
    refine wpAny_assign_Name (wpAny_storeName_local hx (hns.extBut x₁ B.ci) ?_ hp)
    intro h₂ hn₂ hs₂
    (injection (G₁.but hs₂.extBut (.inl rfl) B) with F₂ N₂)
    have G₂ : Gnd h₀ L m h₂ cenv.locals I D l (i + 1) news' := ⟨F₂, N₂, G'.ap, st₁.1.extBut hs₂.extBut B.ci.symm, _, hn₂⟩
    have hD₂ := (hD'.extBut x₁ B.di).extBut hs₂.extBut B.cd.symm
    (injection (Heap.dictOf_iff.mp hD₂) with oD hₜ1; (injection hₜ1 with hoD dD))
    (injection (G₂.led B hoD hn₂) with oI hₜ1; (injection hₜ1 with oC hₜ2; (injection hₜ2 with hoI hₜ3; (injection hₜ3 with hoC hₜ4; (injection hₜ4 with qI hₜ5; (injection hₜ5 with qC N3))))))
    show wpAny _ _ (pure true) _ _ _
    refine wpAny_pure ?_
    simp only [if_true]
    refine wpAny_mono (turn i v ys news' _ _ oC oI _ _ _ hv hJ' G'.ap F₂ N3 qC (by simp)) ?_ fun _ _ e => e
    (intros kv s₃ h₃)
    refine wpAny_mono h₃ ?_ fun _ _ e => e
    (intros y s₄ h₄)
    (injection h₄ with h₃ hₜ1; (injection hₜ1 with tk₃ hₜ2; (injection hₜ2 with news₃ hₜ3; (injection hₜ3 with kk hₜ4; (injection hₜ4 with hkk hₜ5; (refine And.elim ?_ (hₜ5); (try clear hₜ5); intro hₜ6 hₜ7; rcases hₜ6 with rfl; (injection hₜ7 with F₃ hₜ8; (injection hₜ8 with N₄ hₜ9; (injection hₜ9 with ap₃ hJ₃)))))))))
    have eI := (N₄ _ (.tail _ (.head _))).1
    have eC := (N₄ _ (.head _)).1
    have eD := (N₄ _ (.tail _ (.tail _ (.head _)))).1
    have G₃ : Gnd h₀ L m h₃ cenv.locals I D l (i + 1) news₃ := ⟨F₃, fun p hp => N₄ p (.tail _ (.tail _ (.tail _ hp))), ap₃, qI _ eI, _, qC.ns eC⟩
    refine wpAny_dictSet_pairs (hsz := hsz _ _ _ hJ') hkk (Heap.dictOf_iff.mpr ⟨oD, eD, dD⟩) ?_
    intro h₅ hl₅ hs₅
    (injection (G₃.but hs₅.extBut (.inr (.inr rfl)) B) with F₅ N₅)
    exact ⟨vs.length + 1 - (i + 1), by (k_extra "MY om"), h₅, _, i + 1, _, news₃, rfl, ⟨F₅, N₅, ap₃, (qI _ eI).extBut hs₅.extBut B.di.symm, _, (qC.ns eC).extBut hs₅.extBut B.cd⟩, hl₅, hJ₃, by (k_extra "MY om"), rfl⟩
  · have hin' : i = vs.length := by (k_extra "MY om")
    subst hin'
    refine W.done _ _ _ (by have := G'.it; simp only [List.size_toArray]; exact ⟨this, hl'⟩) ?_
    (intros h₁ tk₁; intro hk₁)
    have x₁ := extBut_of hk₁
    (injection (G'.but x₁ (.inr (.inl rfl)) B) with F₁ N₁)
    (injection (G'.ns) with mC hns)
    (injection (Heap.dictOf_iff.mp (hD'.extBut x₁ B.di)) with oD hₜ1; (injection hₜ1 with hoD dD))
    refine hR h₁ tk₁ ys news' oD mC F₁ (hns.extBut x₁ B.ci) dD ?_ G'.ap hJ'
    intro p hp
    cases hp with
    | head => exact ⟨hoD, B.dL, B.d0⟩
    | tail _ hp => exact N₁ p hp
end
set_option linter.unusedVariables false
section
variable {prog : Program} {w : World} {A : Around} {E : Value → Shared → Prop} {s : Shared} {h₀ : Heap} {L : Addr} {m : Str → Option Value} {env : Env}
/-- the turn of a list comprehension -/
def TurnL (prog : Program) (w : World) (A : Around) (h₀ : Heap) (L : Addr) (m : Str → Option Value) (env : Env) (scope : Scope) (cl : List (Str × Addr)) (x : Str) (elt : PySem.Expr) (vs : List Value) (J : Nat → List Value → List (Addr × Obj) → Prop) (s₁ : Shared) : Prop :=
  ∀ C I D i v ys news₁ h tk oC oI oD m₂ E', Blk h₀ L C I D → vs[i]? = some v → J i ys news₁ → Apart C I D news₁ → Fr h₀ L h m → News h₀ L h ((C, oC) :: (I, oI) :: (D, oD) :: news₁) → LCg.NsObj oC m₂ → m₂ x = some v →
    wpAny (model prog w) A (eval elt (compEnvC scope cl C env)) (fun y s₃ => ∃ h' tk' news', s₃ = { s₁ with heap := h', toks := tk' } ∧ Fr h₀ L h' m ∧ News h₀ L h' ((C, oC) :: (I, oI) :: (D, oD) :: news') ∧ Apart C I D news' ∧ J (i + 1) (ys ++ [y]) news') E' { s₁ with heap := h, toks := tk }
def CompAtL (prog : Program) (w : World) (A : Around) (h₀ : Heap) (L : Addr) (m : Str → Option Value) (env : Env) (scope : Scope) (cl : List (Str × Addr)) (x : Str) (elt : PySem.Expr) (done : Nat → Addr → List Value → Nat → List (Addr × Obj) → (Nat → List Value → List (Addr × Obj) → Prop) → Shared → Heap → Nat → Prop) (xv : Value) (s₁ : Shared) : Prop :=
  ∃ l vs c news, ∃ J : Nat → List Value → List (Addr × Obj) → Prop, xv = .ref l ∧ vs.length ≤ sizeLine ∧ Fr h₀ L s₁.heap m ∧ News h₀ L s₁.heap news ∧ (∀ i ys news', J i ys news' → (l, listOf vs.toArray c) ∈ news' ∨ h₀.get? l = some (listOf vs.toArray c)) ∧ J 0 [] news ∧
    TurnL prog w A h₀ L m env scope cl x elt vs J s₁ ∧ ∀ D ys k news' h' tk, h₀.get? D = none → (∀ p ∈ news', p.1 ≠ D) → J vs.length ys news' → ys.length = vs.length → News h₀ L h' ((D, listOf ys.toArray k) :: news') → done vs.length D ys k news' J s₁ h' tk
theorem blk_of {s : Shared} {H1 H2 : Heap} {o1 o2 : Obj} (F : Fr h₀ L s.heap m) (e1 : s.heap.push o1 = H1) (e2 : H1.push o2 = H2) : Blk h₀ L H2.objs.size s.heap.objs.size H1.objs.size := by
  have hl := F.ns.lt
  have z1 : H1.objs.size = s.heap.objs.size + 1 := by rw [← e1, Heap.size_push]
  have z2 : H2.objs.size = s.heap.objs.size + 2 := by rw [← e2, Heap.size_push, z1]
  have fresh : ∀ a, s.heap.objs.size ≤ a → h₀.get? a = none := fun a ha => by
    cases e : h₀.get? a with
    | none => rfl
    | some o' => exact absurd (Heap.lt_size (F.keep _ _ e)) (Nat.not_lt.mpr ha)
  have hl' : @LT.lt Nat _ L s.heap.objs.size := hl
  have g1 : @LT.lt Nat _ L H1.objs.size := by (k_extra "MY om")
  have g2 : @LT.lt Nat _ L H2.objs.size := by (k_extra "MY om")
  have g3 : @LT.lt Nat _ s.heap.objs.size H1.objs.size := by (k_extra "MY om")
  have g4 : @LT.lt Nat _ H1.objs.size H2.objs.size := by (k_extra "MY om")
  have g5 : @LT.lt Nat _ s.heap.objs.size H2.objs.size := by (k_extra "MY om")
  exact ⟨Nat.ne_of_gt g2, Nat.ne_of_gt hl', Nat.ne_of_gt g1, Nat.ne_of_gt g5, Nat.ne_of_gt g4, Nat.ne_of_gt g3, fresh _ (Nat.le_of_lt g5), fresh _ (Nat.le_refl _), fresh _ (Nat.le_of_lt g3)⟩
/-- the block of a list comprehension, its loop given -/
theorem comp_blockG {elt iter target : PySem.Expr} {ifs : List PySem.Expr} {scope : Scope} {cl : List (Str × Addr)} {pos : Pos} {l c : Addr} {vs : List Value} {news : List (Addr × Obj)} {RR : Value → Addr → Result → Shared → Prop}
    (hcell : ∀ y ∈ scope.names, y.2 ≠ .cell) (hkind : scope.kind = .function) (F : Fr h₀ L s.heap m) (N : News h₀ L s.heap news) (hol : s.heap.get? l = some (listOf vs.toArray c))
    (loop : ∀ C I D h₁ tk₁, Blk h₀ L C I D → Gnd h₀ L m h₁ C I D l 0 news → h₁.PlainList D #[] →
      codeAny (model prog w) A (.compLoop (.ListComp elt [⟨target, iter, ifs, 0⟩] scope pos) 0 (.ref I) (.ref D) (compEnvC scope cl C env)) (RR (.ref D) C) { s with heap := h₁, toks := tk₁ }) :
    wpAny (model prog w) A (pyIter (.ref l)) (fun it s₂ => wpAny (model prog w) A (newList []) (fun acc s₃ => wpAny (model prog w) A (newFunctionEnv scope env.globals cl [] env.qual none .none (some env)) (fun cenv s₄ =>
      codeAny (model prog w) A (.compStart (.ListComp elt [⟨target, iter, ifs, 0⟩] scope pos) 0 it acc { cenv with scope := relabel scope env }) (RR acc cenv.locals) s₄) E s₃) E s₂) E s := by
  have hls : s.heap.IsList l vs.toArray := ⟨_, hol, rfl, _, rfl⟩
  refine wpAny_pyIter_list hls ?_
  generalize hH1 : s.heap.push { cls := .type "list_iterator", data := .fields #[.ref l, .int 0 0] } = H1
  refine wpAny_newObj_type (wpAny_newFunctionEnv hcell (by intro y hy; simp at hy) (fun h₁ hns₁ hsb₁ => ?_) hkind)
  dsimp only at hns₁ hsb₁ ⊢
  generalize hH2 : H1.push { cls := .type "list", dict := none, data := .seq ([] : List Value).toArray } = H2 at hns₁ hsb₁ ⊢
  have B := blk_of F hH1 hH2
  have old : ∀ b o, s.heap.get? b = some o → h₁.get? b = some o := fun b o e => hsb₁.extBut b o (Nat.ne_of_lt (by
      have q : @LT.lt Nat _ b s.heap.objs.size := Heap.lt_size e
      have z1 : H1.objs.size = s.heap.objs.size + 1 := by rw [← hH1, Heap.size_push]
      have z2 : H2.objs.size = s.heap.objs.size + 2 := by rw [← hH2, Heap.size_push, z1]
      show @LT.lt Nat _ b H2.objs.size
      (k_extra "MY om"))) (Heap.get?_push_of_some _ (hH2 ▸ Heap.get?_push_of_some _ (hH1 ▸ Heap.get?_push_of_some _ e)))
  have hI : h₁.IsListIter s.heap.objs.size l 0 := by
    refine ⟨{ cls := .type "list_iterator", data := .fields #[.ref l, .int 0 0] }, hsb₁.extBut _ _ B.ci.symm (Heap.get?_push_of_some _ (hH2 ▸ Heap.get?_push_of_some _ (hH1 ▸ Heap.get?_push_size _ rfl))), rfl, rfl⟩
  have hD : h₁.PlainList H1.objs.size #[] := ⟨_, hsb₁.extBut _ _ B.cd.symm (Heap.get?_push_of_some _ (hH2 ▸ Heap.get?_push_size _ rfl))⟩
  have ap : Apart H2.objs.size s.heap.objs.size H1.objs.size news := fun p hp => by
    have q : @LT.lt Nat _ p.1 s.heap.objs.size := Heap.lt_size (N p hp).1
    have z1 : H1.objs.size = s.heap.objs.size + 1 := by rw [← hH1, Heap.size_push]
    have z2 : H2.objs.size = s.heap.objs.size + 2 := by rw [← hH2, Heap.size_push, z1]
    have g1 : @LT.lt Nat _ p.1 H1.objs.size := by (k_extra "MY om")
    have g2 : @LT.lt Nat _ p.1 H2.objs.size := by (k_extra "MY om")
    exact ⟨Nat.ne_of_lt g2, Nat.ne_of_lt q, Nat.ne_of_lt g1⟩
  have lp : ∀ s₃ : Shared, s₃ = { s with heap := h₁, toks := s.toks + ([] : List (Str × Value)).length } →
      codeAny (model prog w) A (.compLoop (.ListComp elt [⟨target, iter, ifs, 0⟩] scope pos) 0 (.ref s.heap.objs.size) (.ref H1.objs.size) (compEnvC scope cl H2.objs.size env))
        (RR (.ref H1.objs.size) H2.objs.size) s₃ := by
    rintro s₃ rfl
    exact loop _ _ _ _ _ B ⟨F.keeps old, N.grown old, ap, hI, _, hns₁⟩ hD
  refine codeAny_compStart_list (lp _ rfl) ?_
  refine wpAny_pyIter_listiter hI (lp _ rfl)
theorem comp_blockL {elt iter : PySem.Expr} {x : Str} {px : Pos} {scope : Scope} {cl : List (Str × Addr)} {pos : Pos} {xv : Value} {RR : Value → Addr → Result → Shared → Prop}
    {done : Nat → Addr → List Value → Nat → List (Addr × Obj) → (Nat → List Value → List (Addr × Obj) → Prop) → Shared → Heap → Nat → Prop}
    (hh : A.handled = none) (hcell : ∀ y ∈ scope.names, y.2 ≠ .cell) (hkind : scope.kind = .function) (hx : scope.names.lookup x = some .local)
    (h : CompAtL prog w A h₀ L m env scope cl x elt done xv s)
    (hRR : ∀ D C h' tk ys k news' n J mC, Fr h₀ L h' m → h'.Ns C mC → C ≠ L → C ≠ D → h₀.get? C = none → News h₀ L h' ((D, listOf ys.toArray k) :: news') → (∀ p ∈ news', p.1 ≠ C ∧ p.1 ≠ D) → (∀ h'' tk', News h₀ L h'' ((D, listOf ys.toArray k) :: news') → done n D ys k news' J s h'' tk') → RR (.ref D) C (.ok .next) { s with heap := h', toks := tk }) :
    wpAny (model prog w) A (pyIter xv) (fun it s₂ => wpAny (model prog w) A (newList []) (fun acc s₃ => wpAny (model prog w) A (newFunctionEnv scope env.globals cl [] env.qual none .none (some env)) (fun cenv s₄ =>
      codeAny (model prog w) A (.compStart (.ListComp elt [⟨.Name x px, iter, [], 0⟩] scope pos) 0 it acc { cenv with scope := relabel scope env }) (RR acc cenv.locals) s₄) E s₃) E s₂) E s := by
  obtain ⟨l, vs, c, news, J, rfl, hsz, F, N, hin, hJ, turn, hQ⟩ := h
  refine comp_blockG hcell hkind F N ((hin _ _ _ hJ).elim (fun q => (N _ q).1) fun q => F.keep _ _ q) fun C I D h₁ tk₁ B G hD => ?_
  refine compL_loop (L := L) (m := m) (cenv := compEnvC scope cl C env) (news := news) J hh B rfl (lookup_relabel_local hx) (by simp [compEnvC, relabel, hkind]) hsz hin G hD hJ ?_ ?_
  · intro i v ys news₁ h tk oC oI oD m₂ E' hv hJ' ap' F' N' hns hm
    exact turn _ _ _ i v ys news₁ h tk oC oI oD m₂ E' B hv hJ' ap' F' N' hns hm
  · intro h' tk ys news' k mC F' hns' N' ap' hJ' hlen
    exact hRR _ _ h' tk ys k news' vs.length J mC F' hns' B.cL B.cd B.c0 N' (fun p hp => ⟨(ap' p hp).1, (ap' p hp).2.2⟩) fun h'' tk' N'' => hQ _ ys k news' h'' tk' B.d0 (fun p hp => (ap' p hp).2.2) hJ' hlen N''
theorem ListComp_J {elt iter : PySem.Expr} {x : Str} {px : Pos} {scope : Scope} {cl : List (Str × Addr)} {pos : Pos} {Q : Value → Shared → Prop}
    (F₀ : Fr h₀ L s.heap m) (hclos : closureFor scope env = pure cl) (hh : A.handled = none) (hcell : ∀ y ∈ scope.names, y.2 ≠ .cell) (hkind : scope.kind = .function)
    (hnames : ∀ y ∈ scope.names, y.2 = .local → scope.names.lookup y.1 = some .local) (hx : scope.names.lookup x = some .local)
    (h : wpAny (model prog w) A (eval iter env) (CompAtL prog w A h₀ L m env scope cl x elt (fun n D ys k news' J s₁ h' tk => Fr h₀ L h' m → Q (.ref D) { s₁ with heap := h', toks := tk })) E s)
    (hs : ∀ x, foldedSetIterable iter env x = pure x := by intro _; rfl) :
    wpAny (model prog w) A (eval (.ListComp elt [⟨.Name x px, iter, [], 0⟩] scope pos) env) Q E s := by
  rw [eval_ListComp]
  refine wpAny_comprehension_free (use := none) rfl hs hclos hkind hnames (wpAny_mono h (fun xv s₁ h₁ => ?_) fun _ _ e => e)
  refine comp_blockL (RR := fun acc C => compPost (model prog w) A E none Q acc C) hh hcell hkind hx h₁ ?_
  intro D C h' tk ys k news' n J mC F' hns' cL cD c0 N' ap' fin
  refine ⟨mC, hns', fun h'' hs'' => fin h'' tk (fun p hp => ⟨(hs''.2 p.1 ?_).trans (N' p hp).1, (N' p hp).2⟩) ⟨F'.ns.sameBut hs'' cL.symm, fun b o e => (hs''.2 b fun q => by rw [q, c0] at e; cases e).trans (F'.keep b o e), F'.above⟩⟩
  cases hp with
  | head => exact cD.symm
  | tail _ hp => exact (ap' p hp).1
theorem Assign_ListComp_J {elt iter : PySem.Expr} {x y : Str} {px py : Pos} {scope : Scope} {cl : List (Str × Addr)} {pos spos : Pos} {Q : Flow → Shared → Prop}
    (F₀ : Fr h₀ L s.heap m) (hsw : swapsWith (.ListComp elt [⟨.Name x px, iter, [], 0⟩] scope pos) (some (.Name y py)) spos.line env = pure true) (hL : env.locals = L)
    (hclos : closureFor scope env = pure cl) (hh : A.handled = none) (hcell : ∀ y ∈ scope.names, y.2 ≠ .cell) (hkind : scope.kind = .function)
    (hnames : ∀ y ∈ scope.names, y.2 = .local → scope.names.lookup y.1 = some .local) (hx : scope.names.lookup x = some .local)
    (hy : env.kindOf y = some .local) (hp : (env.scope.kind == .class || (env.scope.kind == .module && env.locals != env.globals)) = false)
    (h : wpAny (model prog w) A (eval iter env) (CompAtL prog w A h₀ L m env scope cl x elt (fun n D ys k news' J s₁ h' tk => Fr h₀ L h' (fun z => if z = y then some (.ref D) else m z) → Q .next { s₁ with heap := h', toks := tk })) E s)
    (hs : ∀ x, foldedSetIterable iter env x = pure x := by intro _; rfl) :
    wpAny (model prog w) A (exec (.Assign [.Name y py] (.ListComp elt [⟨.Name x px, iter, [], 0⟩] scope pos) spos) env) Q E s := by
  subst hL
  rw [exec_Assign_Name_used _ _ _ _ hsw]
  refine wpAny_bind (wpAny_standAt (wpAny_bind ?_))
  show wpAny _ A (do let _ ← comprehension (.ListComp elt [⟨.Name x px, iter, [], 0⟩] scope pos) scope env _ (newList []) false (eval iter env) (some (assign (.Name y py) env))) _ _ s
  refine wpAny_bind (wpAny_mono (wpAny_comprehension_free (use := some (assign (.Name y py) env)) (Q := fun _ s' => Q .next s') rfl hs hclos hkind hnames
    (wpAny_mono h (fun xv s₁ h₁ => ?_) fun _ _ e => e)) (fun _ s' hq => wpAny_pure (wpAny_pure hq)) fun _ _ e => e)
  refine comp_blockL (RR := fun acc C => compPost (model prog w) A E (some (assign (.Name y py) env)) (fun _ s' => Q .next s') acc C) hh hcell hkind hx h₁ ?_
  intro D C h' tk ys k news' n J mC F' hns' cL cD c0 N' ap' fin
  show wpAny _ A (assign (.Name y py) env (.ref D)) _ _ _
  refine wpAny_assign_Name (wpAny_storeName_local hy F'.ns (fun h₂ hn₂ hs₂ => ?_) hp)
  have F₂ := F'.set hn₂ hs₂
  have N₂ := N'.set hs₂
  refine ⟨mC, hns'.sameBut hs₂ cL, fun h'' hs'' => fin h'' _ (fun p hp => ⟨(hs''.2 p.1 ?_).trans (N₂ p hp).1, (N₂ p hp).2⟩) ⟨F₂.ns.sameBut hs'' cL.symm, fun b o e => (hs''.2 b fun q => by rw [q, c0] at e; cases e).trans (F₂.keep b o e), F₂.above⟩⟩
  cases hp with
  | head => exact cD.symm
  | tail _ hp => exact (ap' p hp).1
end
set_option linter.unusedVariables false
section
variable {prog : Program} {w : World} {A : Around} {E : Value → Shared → Prop} {s : Shared} {h₀ : Heap} {L : Addr} {m : Str → Option Value} {env : Env}
/-- the turn of a dict comprehension -/
def TurnD (knd : KeyKind prog w Int) (A : Around) (h₀ : Heap) (L : Addr) (m : Str → Option Value) (env : Env) (scope : Scope) (cl : List (Str × Addr)) (x : Str) (kx vx : PySem.Expr) (vs : List Value) (J : Nat → List (Int × Value) → List (Addr × Obj) → Prop) (s₁ : Shared) : Prop :=
  ∀ C I D i v ys news₁ h tk oC oI oD m₂ E', Blk h₀ L C I D → vs[i]? = some v → J i ys news₁ → Apart C I D news₁ → Fr h₀ L h m → News h₀ L h ((C, oC) :: (I, oI) :: (D, oD) :: news₁) → LCg.NsObj oC m₂ → m₂ x = some v →
    wpAny (model prog w) A (eval kx (compEnvC scope cl C env)) (fun kv s₂ => wpAny (model prog w) A (eval vx (compEnvC scope cl C env)) (fun y s₃ => ∃ h' tk' news' k, knd.is k kv = true ∧ s₃ = { s₁ with heap := h', toks := tk' } ∧ Fr h₀ L h' m ∧ News h₀ L h' ((C, oC) :: (I, oI) :: (D, oD) :: news') ∧ Apart C I D news' ∧ J (i + 1) (stored ys k y) news') E' s₂) E' { s₁ with heap := h, toks := tk }
def CompAtD (knd : KeyKind prog w Int) (A : Around) (h₀ : Heap) (L : Addr) (m : Str → Option Value) (env : Env) (scope : Scope) (cl : List (Str × Addr)) (x : Str) (kx vx : PySem.Expr) (done : Nat → Addr → List (Int × Value) → Obj → List (Addr × Obj) → (Nat → List (Int × Value) → List (Addr × Obj) → Prop) → Shared → Heap → Nat → Prop) (xv : Value) (s₁ : Shared) : Prop :=
  ∃ l vs c news, ∃ J : Nat → List (Int × Value) → List (Addr × Obj) → Prop, xv = .ref l ∧ (∀ i kvs news', J i kvs news' → kvs.length ≤ sizeLine) ∧ Fr h₀ L s₁.heap m ∧ News h₀ L s₁.heap news ∧ (∀ i ys news', J i ys news' → (l, listOf vs.toArray c) ∈ news' ∨ h₀.get? l = some (listOf vs.toArray c)) ∧ J 0 [] news ∧
    TurnD knd A h₀ L m env scope cl x kx vx vs J s₁ ∧ ∀ D ys oD news' h' tk, h₀.get? D = none → oD.IsDictOf knd ys → (∀ p ∈ news', p.1 ≠ D) → J vs.length ys news' → News h₀ L h' ((D, oD) :: news') → done vs.length D ys oD news' J s₁ h' tk
theorem comp_blockD {kx vx iter : PySem.Expr} {x : Str} {px : Pos} {scope : Scope} {cl : List (Str × Addr)} {pos : Pos} {xv : Value} {RR : Value → Addr → Result → Shared → Prop}
    {done : Nat → Addr → List (Int × Value) → Obj → List (Addr × Obj) → (Nat → List (Int × Value) → List (Addr × Obj) → Prop) → Shared → Heap → Nat → Prop}
    (hh : A.handled = none) (hcell : ∀ y ∈ scope.names, y.2 ≠ .cell) (hkind : scope.kind = .function) (hx : scope.names.lookup x = some .local)
    (h : CompAtD (PySem.intKind prog w) A h₀ L m env scope cl x kx vx done xv s)
    (hRR : ∀ D C h' tk ys oD news' n J mC, Fr h₀ L h' m → h'.Ns C mC → C ≠ L → C ≠ D → h₀.get? C = none → News h₀ L h' ((D, oD) :: news') → (∀ p ∈ news', p.1 ≠ C ∧ p.1 ≠ D) → (∀ h'' tk', News h₀ L h'' ((D, oD) :: news') → done n D ys oD news' J s h'' tk') → RR (.ref D) C (.ok .next) { s with heap := h', toks := tk }) :
    wpAny (model prog w) A (pyIter xv) (fun it s₂ => wpAny (model prog w) A newDict (fun acc s₃ => wpAny (model prog w) A (newFunctionEnv scope env.globals cl [] env.qual none .none (some env)) (fun cenv s₄ =>
      codeAny (model prog w) A (.compStart (.DictComp kx vx [⟨.Name x px, iter, [], 0⟩] scope pos) 0 it acc { cenv with scope := relabel scope env }) (RR acc cenv.locals) s₄) E s₃) E s₂) E s := by
  obtain ⟨l, vs, c, news, J, rfl, hsz, F, N, hin, hJ, turn, hQ⟩ := h
  have hol : s.heap.get? l = some (listOf vs.toArray c) := (hin _ _ _ hJ).elim (fun q => (N _ q).1) fun q => F.keep _ _ q
  have hls : s.heap.IsList l vs.toArray := ⟨_, hol, rfl, _, rfl⟩
  refine wpAny_pyIter_list hls ?_
  generalize hH1 : s.heap.push { cls := .type "list_iterator", data := .fields #[.ref l, .int 0 0] } = H1
  refine wpAny_newObj_type (wpAny_newFunctionEnv hcell (by intro y hy; simp at hy) (fun h₁ hns₁ hsb₁ => ?_) hkind)
  dsimp only at hns₁ hsb₁ ⊢
  generalize hH2 : H1.push { cls := .type "dict", dict := none, data := .dict #[] } = H2 at hns₁ hsb₁ ⊢
  have B := blk_of F hH1 hH2
  have old : ∀ b o, s.heap.get? b = some o → h₁.get? b = some o := fun b o e => hsb₁.extBut b o (Nat.ne_of_lt (by
      have q : @LT.lt Nat _ b s.heap.objs.size := Heap.lt_size e
      have z1 : H1.objs.size = s.heap.objs.size + 1 := by rw [← hH1, Heap.size_push]
      have z2 : H2.objs.size = s.heap.objs.size + 2 := by rw [← hH2, Heap.size_push, z1]
      show @LT.lt Nat _ b H2.objs.size
      (k_extra "MY om"))) (Heap.get?_push_of_some _ (hH2 ▸ Heap.get?_push_of_some _ (hH1 ▸ Heap.get?_push_of_some _ e)))
  have hI : h₁.IsListIter s.heap.objs.size l 0 := by
    refine ⟨{ cls := .type "list_iterator", data := .fields #[.ref l, .int 0 0] }, hsb₁.extBut _ _ B.ci.symm (Heap.get?_push_of_some _ (hH2 ▸ Heap.get?_push_of_some _ (hH1 ▸ Heap.get?_push_size _ rfl))), rfl, rfl⟩
  have hD : h₁.DictOf (PySem.intKind prog w) H1.objs.size [] := (Heap.DictOf.new H1).at fun o e => hsb₁.extBut _ _ B.cd.symm (Heap.get?_push_of_some _ (hH2 ▸ e))
  have ap : Apart H2.objs.size s.heap.objs.size H1.objs.size news := fun p hp => by
    have q : @LT.lt Nat _ p.1 s.heap.objs.size := Heap.lt_size (N p hp).1
    have z1 : H1.objs.size = s.heap.objs.size + 1 := by rw [← hH1, Heap.size_push]
    have z2 : H2.objs.size = s.heap.objs.size + 2 := by rw [← hH2, Heap.size_push, z1]
    have g1 : @LT.lt Nat _ p.1 H1.objs.size := by (k_extra "MY om")
    have g2 : @LT.lt Nat _ p.1 H2.objs.size := by (k_extra "MY om")
    exact ⟨Nat.ne_of_lt g2, Nat.ne_of_lt q, Nat.ne_of_lt g1⟩
  have loop : ∀ s₃ : Shared, s₃ = { s with heap := h₁, toks := s.toks + ([] : List (Str × Value)).length } →
      codeAny (model prog w) A (.compLoop (.DictComp kx vx [⟨.Name x px, iter, [], 0⟩] scope pos) 0 (.ref s.heap.objs.size) (.ref H1.objs.size) (compEnvC scope cl H2.objs.size env))
        (RR (.ref H1.objs.size) H2.objs.size) s₃ := by
    rintro s₃ rfl
    refine compD_loop (L := L) (m := m) (cenv := compEnvC scope cl H2.objs.size env) (news := news) J hh B rfl (lookup_relabel_local hx) (by simp [compEnvC, relabel, hkind]) hsz hin
      ⟨F.keeps old, N.grown old, ap, hI, _, hns₁⟩ hD hJ ?_ ?_
    · intro i v ys news₁ h tk oC oI oD m₂ E' hv hJ' ap' F' N' hns hm
      exact turn _ _ _ i v ys news₁ h tk oC oI oD m₂ E' B hv hJ' ap' F' N' hns hm
    · intro h' tk ys news' oD mC F' hns' dD N' ap' hJ'
      exact hRR _ _ h' tk ys oD news' vs.length J mC F' hns' B.cL B.cd B.c0 N' (fun p hp => ⟨(ap' p hp).1, (ap' p hp).2.2⟩) fun h'' tk' N'' => hQ _ ys oD news' h'' tk' B.d0 dD (fun p hp => (ap' p hp).2.2) hJ' N''
  refine codeAny_compStart_dict (loop _ rfl) ?_
  refine wpAny_pyIter_listiter hI (loop _ rfl)

theorem Assign_DictComp_J {kx vx iter : PySem.Expr} {x y : Str} {px py : Pos} {scope : Scope} {cl : List (Str × Addr)} {pos spos : Pos} {Q : Flow → Shared → Prop}
    (F₀ : Fr h₀ L s.heap m) (hsw : swapsWith (.DictComp kx vx [⟨.Name x px, iter, [], 0⟩] scope pos) (some (.Name y py)) spos.line env = pure true) (hL : env.locals = L)
    (hclos : closureFor scope env = pure cl) (hh : A.handled = none) (hcell : ∀ y ∈ scope.names, y.2 ≠ .cell) (hkind : scope.kind = .function)
    (hnames : ∀ y ∈ scope.names, y.2 = .local → scope.names.lookup y.1 = some .local) (hx : scope.names.lookup x = some .local)
    (hy : env.kindOf y = some .local) (hp : (env.scope.kind == .class || (env.scope.kind == .module && env.locals != env.globals)) = false)
    (h : wpAny (model prog w) A (eval iter env) (CompAtD (PySem.intKind prog w) A h₀ L m env scope cl x kx vx (fun n D ys oD news' J s₁ h' tk => Fr h₀ L h' (fun z => if z = y then some (.ref D) else m z) → Q .next { s₁ with heap := h', toks := tk })) E s)
    (hs : ∀ x, foldedSetIterable iter env x = pure x := by intro _; rfl) :
    wpAny (model prog w) A (exec (.Assign [.Name y py] (.DictComp kx vx [⟨.Name x px, iter, [], 0⟩] scope pos) spos) env) Q E s := by
  subst hL
  rw [exec_Assign_Name_used _ _ _ _ hsw]
  refine wpAny_bind (wpAny_standAt (wpAny_bind ?_))
  show wpAny _ A (do let _ ← comprehension (.DictComp kx vx [⟨.Name x px, iter, [], 0⟩] scope pos) scope env _ newDict false (eval iter env) (some (assign (.Name y py) env))) _ _ s
  refine wpAny_bind (wpAny_mono (wpAny_comprehension_free (use := some (assign (.Name y py) env)) (Q := fun _ s' => Q .next s') rfl hs hclos hkind hnames
    (wpAny_mono h (fun xv s₁ h₁ => ?_) fun _ _ e => e)) (fun _ s' hq => wpAny_pure (wpAny_pure hq)) fun _ _ e => e)
  refine comp_blockD (RR := fun acc C => compPost (model prog w) A E (some (assign (.Name y py) env)) (fun _ s' => Q .next s') acc C) hh hcell hkind hx h₁ ?_
  intro D C h' tk ys oD news' n J mC F' hns' cL cD c0 N' ap' fin
  show wpAny _ A (assign (.Name y py) env (.ref D)) _ _ _
  refine wpAny_assign_Name (wpAny_storeName_local hy F'.ns (fun h₂ hn₂ hs₂ => ?_) hp)
  have F₂ := F'.set hn₂ hs₂
  have N₂ := N'.set hs₂
  refine ⟨mC, hns'.sameBut hs₂ cL, fun h'' hs'' => fin h'' _ (fun p hp => ⟨(hs''.2 p.1 ?_).trans (N₂ p hp).1, (N₂ p hp).2⟩) ⟨F₂.ns.sameBut hs'' cL.symm, fun b o e => (hs''.2 b fun q => by rw [q, c0] at e; cases e).trans (F₂.keep b o e), F₂.above⟩⟩
  cases hp with
  | head => exact cD.symm
  | tail _ hp => exact (ap' p hp).1
end
set_option linter.unusedVariables false
theorem putsL_dup {x : Str} {v v' : Value} {l : List (Str × Value)} {M : Str → Option Value} : putsL ((x, v) :: (x, v') :: l) M = putsL ((x, v) :: l) M := by
  funext y; simp only [putsL]; by_cases h : y = x <;> simp [h]
section
variable {prog : Program} {w : World} {A : Around} {E : Value → Shared → Prop} {s : Shared} {env : Env} {h₀ : Heap} {x : Str} {body : List Stmt} {Q : Flow → Shared → Prop}
theorem TurnQ.intro {L I : Addr} {oI : Obj} {J : (Str → Option Value) → List (Addr × Obj) → Prop} {h' : Heap} {tk' : Nat} {m' : Str → Option Value} {news' : List (Addr × Obj)} (F : Fr h₀ L h' m') (N : News h₀ L h' ((I, oI) :: news')) (ap : ∀ p ∈ news', p.1 ≠ I) (j : J m' news') :
    TurnQ h₀ L I oI J s Q .next { s with heap := h', toks := tk' } := ⟨h', tk', m', news', rfl, F, N, ap, j⟩
theorem for_puts {l : Addr} {vs : List Value} {c : Nat} {M : Str → Option Value} {news : List (Addr × Obj)} (J : Nat → List (Str × Value) → List (Addr × Obj) → Prop) (l₀ : List (Str × Value))
    (hh : A.handled = none) (F : Fr h₀ env.locals s.heap M) (N : News h₀ env.locals s.heap news) (hl : ∀ p ∈ l₀, M p.1 = some p.2) (hin : ∀ i m news, J i m news → (l, listOf vs.toArray c) ∈ news ∨ h₀.get? l = some (listOf vs.toArray c)) (hj : J 0 l₀ news)
    (turn : ∀ i v l₁ news₁ h tk I oI, vs[i]? = some v → J i l₁ news₁ → (∀ p ∈ news₁, p.1 ≠ I) → Fr h₀ env.locals h (putsL ((x, v) :: l₁) M) → News h₀ env.locals h ((I, oI) :: news₁) → h₀.get? I = none →
      wpAny (model prog w) A (execs body env) (TurnQ h₀ env.locals I oI (fun m' news' => ∃ l', m' = putsL l' M ∧ J (i + 1) l' news') s Q) E { s with heap := h, toks := tk })
    (done : ∀ l₁ news₁ h tk, J vs.length l₁ news₁ → Fr h₀ env.locals h (putsL l₁ M) → News h₀ env.locals h news₁ → Q .next { s with heap := h, toks := tk }) :
    wpAny (model prog w) A (pyIter (.ref l)) (fun it s₂ => LoopAtV prog w A h₀ env x body Q E it s₂) E s := by
  refine for_list (J := fun i m' news' => ∃ l', m' = putsL l' M ∧ J i l' news') hh F N (fun i m news ⟨l', _, hJ⟩ => hin i l' news hJ) ⟨l₀, (putsL_self hl).symm, hj⟩ ?_ ?_
  · rintro i v m₁ news₁ h tk I oI hv ⟨l', rfl, hJ⟩ ap F₁ N₁
    exact turn i v l' news₁ h tk I oI hv hJ ap F₁ N₁ (N₁ _ (.head _)).2.2
  · rintro m₁ news₁ h tk ⟨l', rfl, hJ⟩ F₁ N₁
    exact done l' news₁ h tk hJ F₁ N₁
theorem notnew {g : Heap} {a : Addr} {o : Obj} (ho : g.get? a = some o) {news : List (Addr × Obj)} (hn : ∀ q ∈ news, g.get? q.1 = none) : ∀ q ∈ news, q.1 ≠ a := fun q hq e => by
  have := hn q hq; rw [e, ho] at this; cases this
end
set_option linter.unusedVariables false
local macro_rules | `(tactic| walk_at "pyIter ref") => `(tactic| refine halt_of ?_)
theorem words_13 : True := by
  k_with "OFF 12" => (skip)
  k_with "exec For Name Call cons nil" => ((fail_if_success k_extra "OFF 29"); (k_here; (rename Fr _ _ _ _ => lF'ₘ); (with_unfolding_all refine' For_invVF lF'ₘ ?k1ₘ ?k2ₘ ?_; (case k1ₘ => exact rfl); (case k2ₘ => exact rfl); k_whole)))
  k_with "exec For Name Attribute cons nil" => ((fail_if_success k_extra "OFF 29"); (k_here; (rename Fr _ _ _ _ => lF'ₘ); (with_unfolding_all refine' For_invVF lF'ₘ ?k1ₘ ?k2ₘ ?_; (case k1ₘ => exact rfl); (case k2ₘ => exact rfl); k_whole)))
  k_with "exec For Name Subscript cons nil" => ((fail_if_success k_extra "OFF 29"); (k_here; (rename Fr _ _ _ _ => lF'ₘ); (with_unfolding_all refine' For_invVF lF'ₘ ?k1ₘ ?k2ₘ ?_; (case k1ₘ => exact rfl); (case k2ₘ => exact rfl); k_whole)))
  trivial
/-- no names bound, no attributes -/
structure PT.Bare (T : PT) : Prop where
  ns : ∀ n ∈ T.ns, n.ns = []
  at' : ∀ n ∈ T.ns, n.at' = []
/-- the scope of a place in a bare tree -/
def XmlO (w : World) (o : Obj) : Prop := ∃ t1 t2, Obj.IsDictOf (PySem.strKind PG w) o (strPairs [(Value.str "xml" t1, Value.str "http://www.w3.org/XML/1998/namespace" t2)]) ∧ PyProof.V.FlatPairs PyData.str (strPairs [(Value.str "xml" t1, Value.str "http://www.w3.org/XML/1998/namespace" t2)]) (strData [(Value.str "xml" t1, Value.str "http://www.w3.org/XML/1998/namespace" t2)])
theorem News.pick {g h : Heap} {L : Addr} {p : Addr × Obj} {new news : List (Addr × Obj)} (N : News g L h (new ++ news)) (hm : p ∈ new) : News g L h (p :: news) := fun q hq => by
  cases hq with
  | head => exact N _ (List.mem_append_left _ hm)
  | tail _ hq => exact N _ (List.mem_append_right _ hq)
theorem News.swap {g h : Heap} {L : Addr} {a b : Addr × Obj} {l : List (Addr × Obj)} (N : News g L h (a :: b :: l)) : News g L h (b :: a :: l) := fun p hp => N p (by simp only [List.mem_cons] at hp ⊢; rcases hp with h | h | h <;> simp [h])
theorem tab_base {prog : Program} {w : World} {K : Type} [DecidableEq K] {knd : KeyKind prog w K} {enc : K → PyData} {g h : Heap} {L d : Addr} {m : Str → Option Value} {o : Obj} {kvs : List (K × Value)} {D : List (PyData × PyData)} (F : Fr g L h m) (lo : (d == sysModules) = false) (ho : g.get? d = some o) (hd : o.IsDictOf knd kvs) (hf : PyProof.V.FlatPairs enc kvs D) : TabAt knd enc h d D := TabAt.ofObj lo (F.keep _ _ ho) hd hf
theorem puts1 {P : (Str → Option Value) → Prop} {x : Str} {v : Value} {l : List (Str × Value)} {M : Str → Option Value} (hl : l = [] ∨ ∃ v', l = [(x, v')]) (F : P (putsL ((x, v) :: l) M)) : P (putsL [(x, v)] M) := by
  ((rcases hl with hᵤ1 | hᵤ2) <;> (first | ((fail_if_success (fail_if_success clear hᵤ1)); subst hᵤ1) | ((fail_if_success (fail_if_success clear hᵤ2)); (injection hᵤ2 with v' hₜ1; rcases hₜ1 with rfl))))
  · exact F
  · (replace F := F; rw [putsL_dup] at F); exact F
section
theorem words_14 : True := by
  k_with "call ref" => ((fail_if_success k_extra "OFF 14"); ((with_reducible show wpAny _ _ (call (Value.ref 28) _) _ _ _); k_dflt (refine' RSpec.use (lines_down_of _ _ _ _ ?hkₘ ?hwₘ) ?k1ₘ ?k2ₘ ?k3ₘ ?k4ₘ ?k5ₘ ?kKₘ ?kdₘ ?kuₘ ?kpₘ ?_; (case hkₘ => assumption); (case hwₘ => assumption); k_extra "MY rd"; k_extra "MY rp"; k_whole); (intros r9ₘ new9ₘ h9ₘ tk9ₘ; intro F9ₘ N9ₘ S9ₘ O9ₘ p9ₘ); ((injection p9ₘ with x9ₘ hₜ1; (injection hₜ1 with e9ₘ hₜ2; (injection hₜ2 with xs9ₘ hₜ3; (injection hₜ3 with p9ₘ hₜ4; (injection hₜ4 with px9ₘ hₜ5; (injection hₜ5 with pl9ₘ pm9ₘ)))))); subst p9ₘ); k_extra "MY use"))
  k_with "call ref" => ((fail_if_success k_extra "OFF 14"); ((with_reducible show wpAny _ _ (call (Value.ref 480) _) _ _ _); k_dflt (refine' RSpec.use (namespaces_of _ _ _ _ _ ?hkₘ) ?k1ₘ ?k2ₘ ?k3ₘ ?k4ₘ ?k5ₘ ?kKₘ ?kdₘ ?kuₘ ?kpₘ ?_; (case hkₘ => assumption); k_extra "MY rd"; k_extra "MY rp"; k_whole); (intros r9ₘ new9ₘ h9ₘ tk9ₘ; intro F9ₘ N9ₘ S9ₘ O9ₘ p9ₘ); ((injection p9ₘ with x9ₘ hₜ1; (injection hₜ1 with e9ₘ hₜ2; (injection hₜ2 with p9ₘ p9'ₘ))); subst p9ₘ; subst p9'ₘ); simp only [List.cons_append, List.nil_append] at N9ₘ; k_extra "MY use"))
  trivial
set_option maxRecDepth 100000 in
set_option maxHeartbeats 8000000 in
theorem scope_of_of : ∀ (w : World) (T : PT) (k : Nat) (tq : Tok) (hk : k < T.ns.length) (wf : T.Wf) (hb : T.Bare),
    RSpec w 42 4 [.ref T.b.t, .int (k : Int) tq] (fun h => T.At w.params h) (fun _ r new => ∃ x oD, r = .ref x ∧ (x, oD) ∈ new ∧ (x == sysModules) = false ∧ XmlO w oD) := by
  have hEpsₑ : EpsOn 0 := ⟨True.intro⟩
  intros w T k tq
  intro hk
  intro wf
  intro hb
  (intros dp un gd cn cs a ccd cl outer A₀ base h₀ L m news s p loose mean mg mb Q E; intro B F X N Tp hk9 hd hu pre ret)
  have hT := pre.2.1
  k_extra "MY reader"
  (intros L' h'; intro F' N' B' X' T' lv)
  try dsimp only
  try k_fold
  k_steps
  unfold Halt
  rename (Fr _ _ _ _) => F1
  rename (News _ _ _ _) => N1
  rename Obj.IsDictOf _ _ _ => hd1
  rename PyProof.V.FlatPairs _ _ _ => hf1
  rename (_, listOf _ _) ∈ _ => pm1
  rename ∀ c : Nat × Tok, _ → _ < _ => px1
  rename (List (Nat × Tok)) => xs
  rename Obj => oD
  have hX : XmlO w oD := ⟨_, _, hd1, hf1⟩
  clear hd1 hf1
  refine for_puts (vs := xs.map nv) (fun i l news' => (l = [] ∨ ∃ v, l = [(Str.ofString "above", v)]) ∧ _ ∈ news' ∧ (_, oD) ∈ news') [] (by exact rfl) F1 N1 (fun _ h => nomatch h) (fun i l news' h => .inl h.2.1) ⟨.inl rfl, List.mem_append_left _ pm1, List.mem_append_right _ (.head _)⟩ ?_ ?_
  · clear F1 N1
    (intros i v l₁ news₁ h tk I oI; intro hv hJ; intro ap; intro F1 N1 hI0)
    (injection hJ with hl hₜ1; (injection hₜ1 with hm1 hm2))
    have hₜ2 : ∃ c, c ∈ xs ∧ v = nv c := by
      (replace hv := hv; rw [List.getElem?_map] at hv)
      cases hq : xs[i]? with
      | none => (replace hv := hv; rw [hq] at hv); cases hv
      | some c => (replace hv := hv; rw [hq] at hv); exact ⟨c, List.mem_of_getElem? hq, (Option.some.inj hv).symm⟩
    (injection hₜ2 with c hₜ1; (injection hₜ1 with hc hₜ2; rcases hₜ2 with rfl))
    have hci := px1 c hc
    (have hₜ2 : ∃ a b, c = (a, b) := (⟨c.1, c.2, rfl⟩); (injection hₜ2 with c hₜ1; (injection hₜ1 with tc hₜ2; rcases hₜ2 with rfl)))
    (injection (lt_get hci) with nc hnc)
    have F2 := puts1 (P := Fr _ _ _) hl F1
    clear F1
    simp only [putsL, nv] at F2
    have hns := hb.ns nc (List.mem_of_getElem? hnc)
    k_steps
    unfold Halt
    rename (Fr _ _ _ _) => F3
    rename (News _ _ _ _) => N3
    rename (∀ q ∈ _, _ = none) => O3
    refine for_puts (vs := nc.ns.map nv) (fun i l news' => l = [] ∧ news' = _) [] (by exact rfl) F3 N3 (fun _ h => nomatch h) (fun i l news' h => .inl (by rw [h.2]; exact .head _)) ⟨rfl, rfl⟩ ?_ ?_
    · (intros i v l₁ news₂ h tk I oI; intro hv)
      (replace hv := hv; rw [hns] at hv); cases hv
    · ((intros l₁ news₂ h tk); (intro hₜ1; (refine And.elim ?_ (hₜ1); (try clear hₜ1); intro hₜ1 hₜ2; rcases hₜ1 with rfl; rcases hₜ2 with rfl)); intro F4 N4)
      k_steps
      refine TurnQ.intro F4 (News.swap N4) ?_ ?_
      · intro p hp
        cases hp with
        | head => exact notnew (N1 _ (.head _)).1 O3 _ (.head _)
        | tail _ hp => exact ap p hp
      · refine ⟨[(Str.ofString "above", .int (c : Int) tc)], ?_, ?_, ?_, ?_⟩
        · rfl
        · exact .inr ⟨_, rfl⟩
        · exact List.mem_cons_of_mem _ hm1
        · exact List.mem_cons_of_mem _ hm2
  · ((intros l₁ news₁ h tk); (first | (refine prodI ?_; intro hl; refine prodI ?_; intro hm1; intro hm2) | (intro hₜ3; (injection hₜ3 with hl hₜ1; (injection hₜ1 with hm1 hm2)))); intro F4 N4)
    ((rcases hl with hᵤ3 | hᵤ4) <;> (first | ((fail_if_success (fail_if_success clear hᵤ3)); subst hᵤ3) | ((fail_if_success (fail_if_success clear hᵤ4)); (injection hᵤ4 with v hₜ1; rcases hₜ1 with rfl))))
    all_goals simp only [putsL] at F4
    all_goals k_steps
    all_goals exact ret _ _ _ _ (by assumption) (by assumption) (by assumption) (by assumption) ⟨_, _, rfl, hm2, by assumption, hX⟩
end
set_option linter.unusedVariables false
theorem words_15 : True := by
  k_with "OFF 14" => (skip)
  trivial
theorem sort_one {prog : Program} {w : World} {A : Around} {E : Value → Shared → Prop} {s : Shared} {h₀ : Heap} {L B : Addr} {m : Str → Option Value} {news : List (Addr × Obj)} {x : Str} {t : Tok} {c : Nat} {Q : Value → Shared → Prop}
    (F : Fr h₀ L s.heap m) (N : News h₀ L s.heap ((B, listOf [Value.str x t].toArray c) :: news)) (hne : ∀ q ∈ news, q.1 ≠ B) (h : ∀ h' e, Fr h₀ L h' m → News h₀ L h' ((B, listOf [Value.str x t].toArray e) :: news) → Q .none { s with heap := h' }) :
    wpAny (model prog w) A (call (.builtin "list.sort") [.ref B]) Q E s := by
  have ho := (N _ (.head _)).1
  refine wpAny_call_entry slot_list_sort ⟨_, ho, rfl⟩ PyProof.Rows.entry_list_sort (list_sort_treeK (κ := PyProof.Rows.strKind) strKind_oneLt ho ?_ ?_ (by simp) fun st' a1 a2 => ⟨_, rfl, ?_⟩) (args_list_sort _)
  · intro p hp
    have : p = (Value.str x t, Value.str x t) := by simpa [pairsOf] using hp
    exact ⟨x.cps.toList, by rw [this]⟩
  · (intros v₁ v₂ rest e); cases e
  · have e1 : (arrOf st').map (·.2) = [Value.str x t].toArray := by
      have e2 : arrOf st' = #[(Value.str x t, Value.str x t)] := by
        have := a1.toList
        have e3 : (pairsOf [Value.str x t]).toList = [(Value.str x t, Value.str x t)] := by simp [pairsOf]
        (replace this := this; rw [e3] at this)
        have := List.perm_singleton.mp this
        rw [← Array.toArray_toList (xs := arrOf st'), this]
      rw [e2]; simp
    rw [e1]
    (injection (sortedHeap_at (vs := [Value.str x t]) (out := [Value.str x t].toArray) ho) with e he)
    have old : ∀ b o, b ≠ B → s.heap.get? b = some o → (sortedHeap s.heap B [Value.str x t] [Value.str x t].toArray).get? b = some o := fun b o hb e => (sortedHeap_old hb (Heap.lt_size e)).trans e
    (injection (F.ns) with oL hₜ1; (injection hₜ1 with es hₜ2; (injection hₜ2 with ep hₜ3; (injection hₜ3 with hL r))))
    refine h _ e ⟨⟨oL, es, ep, old _ _ (N _ (.head _)).2.1.symm hL, r⟩, fun b o eb => old b o (fun q => ?_) (F.keep b o eb), F.above⟩ fun p hp => ?_
    · have := (N _ (.head _)).2.2
      (replace eb := eb; rw [q] at eb); dsimp only at this; (replace eb := eb; rw [this] at eb); cases eb
    · cases hp with
      | head => exact ⟨he, (N _ (.head _)).2⟩
      | tail _ hp => exact ⟨old _ _ (hne p hp) (N p (.tail _ hp)).1, (N p (.tail _ hp)).2⟩
section
theorem words_16 : True := by
  k_with "MY k_tabat" => ((fail_if_success k_extra "OFF 16"); exact tab_base (by k_asm) (by assumption) (by assumption) (by assumption) (by assumption))
  k_with "call ref" => ((fail_if_success k_extra "OFF 16"); ((with_reducible show wpAny _ _ (call (Value.ref 42) _) _ _ _); k_dflt (refine' RSpec.use (scope_of_of _ _ _ _ ?hkₘ ?hwₘ ?hbₘ) ?k1ₘ ?k2ₘ ?k3ₘ ?k4ₘ ?k5ₘ ?kKₘ ?kdₘ ?kuₘ ?kpₘ ?_; (case hkₘ => assumption); (case hwₘ => assumption); (case hbₘ => assumption); k_extra "MY rd"; k_extra "MY rp"; k_whole); (intros r9ₘ new9ₘ h9ₘ tk9ₘ; intro F9ₘ N9ₘ S9ₘ O9ₘ p9ₘ); ((first | (injection p9ₘ with x9ₘ hₜ1; (first | (injection hₜ1 with o9ₘ hₜ2; (first | (injection hₜ2 with p9ₘ hₜ3; (first | (injection hₜ3 with pm9ₘ hₜ4; (first | (injection hₜ4 with pl9ₘ hₜ5; (first | (injection hₜ5 with t19ₘ hₜ6; (injection hₜ6 with t29ₘ hₜ7; (injection hₜ7 with pd9ₘ pf9ₘ))) | rcases hₜ5 with ⟨t19ₘ, t29ₘ, pd9ₘ, pf9ₘ⟩)) | rcases hₜ4 with ⟨pl9ₘ, t19ₘ, t29ₘ, pd9ₘ, pf9ₘ⟩)) | rcases hₜ3 with ⟨pm9ₘ, pl9ₘ, t19ₘ, t29ₘ, pd9ₘ, pf9ₘ⟩)) | rcases hₜ2 with ⟨p9ₘ, pm9ₘ, pl9ₘ, t19ₘ, t29ₘ, pd9ₘ, pf9ₘ⟩)) | rcases hₜ1 with ⟨o9ₘ, p9ₘ, pm9ₘ, pl9ₘ, t19ₘ, t29ₘ, pd9ₘ, pf9ₘ⟩)) | rcases p9ₘ with ⟨x9ₘ, o9ₘ, p9ₘ, pm9ₘ, pl9ₘ, t19ₘ, t29ₘ, pd9ₘ, pf9ₘ⟩); subst p9ₘ); replace N9ₘ := News.pick N9ₘ pm9ₘ; replace O9ₘ := O9ₘ _ pm9ₘ; clear pm9ₘ; k_extra "MY use"))
  trivial
set_option maxRecDepth 100000 in
set_option maxHeartbeats 8000000 in
theorem bring_names_of : ∀ (w : World) (T : PT) (k : Nat) (tq : Tok) (hk : k < T.ns.length) (wf : T.Wf) (hb : T.Bare) (xw : Addr) (oW : Obj) (hlo : (xw == sysModules) = false) (hW : XmlO w oW),
    RSpec w 66 5 [.ref T.b.t, .ref xw, .int (k : Int) tq] (fun h => T.At w.params h ∧ h.get? xw = some oW) (fun _ r new => r = .none) := by
  have hEpsₑ : EpsOn 0 := ⟨True.intro⟩
  intros w T k tq
  intro hk
  intro wf
  intro hb
  intros xw oW
  intro hlo
  intro hW
  (intros dp un gd cn cs a ccd cl outer A₀ base h₀ L m news s p loose mean mg mb Q E; intro B F X N Tp hk9 hd hu pre ret)
  (injection pre with pre preW)
  (injection hW with tw1 hₜ1; (injection hₜ1 with tw2 hₜ2; (injection hₜ2 with wd wf1)))
  have hT := pre.2.1
  k_extra "MY reader"
  (intros L' h'; intro F' N' B' X' T' lv)
  try dsimp only
  try k_fold
  k_steps
  refine kdu_sortedD (knd := PySem.strKind _ _) (enc := PyData.str) (fun _ _ => kdl_flat_str) (by rfl) (by k_asm) (by k_asm) (by k_tabat) (by k_units) ?_
  (intro B9; intros h9 tk9)
  (intros v9 fv9; intro F9 N9 l9)
  (injection (fv9.str_inv) with t9 hₜ1; rcases hₜ1 with rfl)
  refine sort_one F9 N9 (fun q hq => Nat.ne_of_lt (l9 q hq)) ?_
  (intros h8 e8; intro F8 N8)
  k_steps
  unfold Halt
  refine for_puts (vs := [Value.str "xml" t9]) (fun i l news' => (l = [] ∨ ∃ v, l = [(Str.ofString "prefix", v)]) ∧ news' = _) [] (by exact rfl) F8 N8 (fun _ h => nomatch h) (fun i l news' h => .inl (by rw [h.2]; exact .head _)) ⟨.inl rfl, rfl⟩ ?_ ?_
  · ((intros i v l₁ news₂ h tk I oI; intro hv); (intro hₜ2; (injection hₜ2 with hl hₜ1; rcases hₜ1 with rfl)); intro ap F1 N1 hI0)
    have hv : v = Value.str "xml" t9 := by
      (first | ((rcases optE i with hᵤ1 | hᵤ2) <;> (first | ((fail_if_success (fail_if_success clear hᵤ1)); subst hᵤ1) | (refine Exists.elim hᵤ2 ?_; clear hᵤ2; intro i hᵤ3; subst hᵤ3))) | rcases i with _ | i)
      · exact (Option.some.inj hv).symm
      · cases hv
    subst hv
    have F2 := puts1 (P := Fr _ _ _) hl F1
    clear F1
    simp only [putsL] at F2
    k_steps
    rename (Fr _ _ _ _) => F3
    rename (News _ _ _ _) => N3
    refine TurnQ.intro F3 N3 ap ⟨[(Str.ofString "prefix", .str "xml" t9)], ?_, .inr ⟨_, rfl⟩, rfl⟩
    rfl
  · ((intros l₁ news₁ h tk); (intro hₜ2; (injection hₜ2 with hl hₜ1; rcases hₜ1 with rfl)); intro F4 N4)
    ((rcases hl with hᵤ4 | hᵤ5) <;> (first | ((fail_if_success (fail_if_success clear hᵤ4)); subst hᵤ4) | ((fail_if_success (fail_if_success clear hᵤ5)); (injection hᵤ5 with v hₜ1; rcases hₜ1 with rfl))))
    all_goals simp only [putsL] at F4
    all_goals k_steps
    all_goals first | exact ret _ _ _ _ (by assumption) (by assumption) (by assumption) (by assumption) rfl | (exfalso; (rename (Spec.lookup _ (strData _)).isSome = true => c9); with_unfolding_all exact Bool.false_ne_true c9)
end
set_option linter.unusedVariables false
theorem words_17 : True := by
  k_with "OFF 16" => (skip)
  trivial
/-- the children of a node stand in a row that rises -/
def PT.Inc (T : PT) : Prop := ∀ (i : Nat) (n : NR), T.ns[i]? = some n → (n.ch.map (·.1)).Pairwise (· < ·)
/-- the weight of a row of places -/
def wts (N0 : Nat) : List (Nat × Tok) → Nat
  | [] => 0
  | c :: r => 2 ^ (N0 - 1 - c.1) + wts N0 r
theorem wts_append (N0 : Nat) : ∀ a0 b0, wts N0 (a0 ++ b0) = wts N0 a0 + wts N0 b0
  | [], b => by simp [wts]
  | c :: r, b => by simp only [List.cons_append, wts, wts_append N0 r b]; (k_extra "MY om")
theorem wts_reverse (N0 : Nat) : ∀ a0, wts N0 a0.reverse = wts N0 a0
  | [] => rfl
  | c :: r => by simp only [List.reverse_cons, wts_append, wts_reverse N0 r, wts]; (k_extra "MY om")
theorem wts_len (N0 : Nat) : ∀ a0, a0.length ≤ wts N0 a0
  | [] => Nat.le_refl _
  | c :: r => by have := wts_len N0 r; have h : 0 < 2 ^ (N0 - 1 - c.1) := Nat.pow_pos (by (k_extra "MY om")); simp only [List.length_cons, wts]; (k_extra "MY om")
theorem wts_le (N0 : Nat) : ∀ (l0 : List (Nat × Tok)) (i0 : Nat), (∀ c ∈ l0, i0 < c.1 ∧ c.1 < N0) → (l0.map (·.1)).Pairwise (· < ·) → wts N0 l0 + 1 ≤ 2 ^ (N0 - 1 - i0)
  | [], i, _, _ => by have h : 0 < 2 ^ (N0 - 1 - i) := Nat.pow_pos (by (k_extra "MY om")); simp only [wts]; (k_extra "MY om")
  | c :: r, i, h, hp => by
    have hc := h c (.head _)
    (replace hp := hp; rw [List.map_cons, List.pairwise_cons] at hp)
    have ih := wts_le N0 r c.1 (fun d hd => ⟨hp.1 _ (List.mem_map_of_mem hd), (h d (.tail _ hd)).2⟩) hp.2
    have e : 2 ^ (N0 - 1 - c.1 + 1) ≤ 2 ^ (N0 - 1 - i) := Nat.pow_le_pow_right (by (k_extra "MY om")) (by (k_extra "MY om"))
    (replace e := e; rw [Nat.pow_succ] at e)
    simp only [wts]; (k_extra "MY om")
theorem PT.wt_ch {T : PT} (wf : T.Wf) (inc : T.Inc) {i : Nat} {n : NR} (h : T.ns[i]? = some n) : wts T.ns.length n.ch + 1 ≤ 2 ^ (T.ns.length - 1 - i) := wts_le _ _ _ (wf.ch i n h) (inc i n h)
theorem pow9 {N0 i0 : Nat} (h : N0 ≤ 9) : 2 ^ (N0 - 1 - i0) ≤ 256 := Nat.le_trans (Nat.pow_le_pow_right (by (k_extra "MY om")) (by (k_extra "MY om") : N0 - 1 - i0 ≤ 8)) (by decide)
theorem fresh_ne {h : Heap} {x : Addr} (h1 : h.get? x = none) {p : Addr × Obj} (h2 : h.get? p.1 = some p.2) : p.1 ≠ x := by
  intro e; (replace h2 := h2; rw [e, h1] at h2); cases h2
def AllNe (d : Nat) : List (Addr × Obj) → Prop
  | [] => True
  | p :: r => @Ne Nat p.1 d ∧ AllNe d r
theorem allNe_of {d : Addr} : ∀ {l : List (Addr × Obj)}, (∀ p ∈ l, p.1 ≠ d) → AllNe d l
  | [], _ => trivial
  | p :: _, h => ⟨h p (.head _), allNe_of fun q hq => h q (.tail _ hq)⟩
theorem RSpec.use2 {w : World} {f : Addr} {dep : Nat} {vs : List Value} {pre : Heap → Prop} {post : Heap → Value → List (Addr × Obj) → Prop} (S : RSpec w f dep vs pre post)
    {dp un : Nat} {gd : Option (List Code)} {cn : Str} {cs : Scope} {a : Addr} {ccd : Value} {cl : List (Str × Addr)} {outer : List Env} {A₀ : Around} {base h₀ : Heap} {L : Addr} {m : Str → Option Value} {news : List (Addr × Obj)} {s : Shared}
    {p : Program} {loose : List Str} {mean : ExcName → Option Value} {mg mb : Str → Option Value} {Q E : Value → Shared → Prop}
    (B : Below A₀ base outer h₀) (F : Fr h₀ L s.heap m) (X : (hd.heap_39 w.params).In h₀) (N : News h₀ L s.heap news) (T : Top p loose mean mg mb h₀) (hk : cs.kind = .function) (hd : dp + dep < recursionLimit) (hu : un + 8 * dep < cLine) (hp : pre s.heap)
    (ret : ∀ r new h' tk', Fr h₀ L h' m → News h₀ L h' (new ++ news) → Sub s.heap h' → ((∀ q ∈ new, s.heap.get? q.1 = none) ∧ ∀ q ∈ new, ∀ p ∈ news, p.1 ≠ q.1) → post h' r new → Q r { s with heap := h', toks := tk' }) :
    wpAny (model PG w) (ktrTop dp un gd cn cs L a ccd cl outer) (call (.ref f) vs) Q E s := S.use B F X N T hk hd hu hp fun r new h' tk' a1 a2 a3 a4 => ret r new h' tk' a1 a2 a3 ⟨a4, fun q hq p hp => fresh_ne (a4 q hq) (N p hp).1⟩
section
variable {prog : Program} {w : World} {A : Around} {E : Value → Shared → Prop} {s : Shared} {h₀ : Heap} {L a b : Addr} {m : Str → Option Value} {news : List (Addr × Obj)} {ca cb : Nat} {Q : Value → Shared → Prop}
theorem ne_snoc {p : List Value} {y : Value} (N : News h₀ L s.heap news) (ha : (a, listOf (p ++ [y]).toArray ca) ∈ news) (hb : (b, listOf #[] cb) ∈ news) (hu : A.units < cLine) (h : Q (.bool true) s) : wpAny (model prog w) A (compareOp .NotEq (.ref a) (.ref b)) Q E s :=
  PySem.SeqAt.RcNeAt.lists_lengths (News.isList N ha) (News.isList N hb) (by simp) hu prog w E Q h
theorem ne_nil (N : News h₀ L s.heap news) (ha : (a, listOf (([] : List Value)).toArray ca) ∈ news) (hb : (b, listOf #[] cb) ∈ news) (hu : A.units < cLine) (h : Q (.bool false) s) : wpAny (model prog w) A (compareOp .NotEq (.ref a) (.ref b)) Q E s :=
  PySem.SeqAt.RcNeAt.lists (e := fun _ => true) (News.isList N ha) (News.isList N hb) (by simp) hu (fun j h1 _ => by simp at h1) prog w E Q h
theorem kl_last_snoc : ∀ (p : List Value) (y : Value), kl_last (p ++ [y]) = some (p, y)
  | [], y => rfl
  | x :: p, y => by show (match kl_last (p ++ [y]) with | some (p, y) => some (x :: p, y) | none => some ([], x)) = _; rw [kl_last_snoc p y]
theorem pop_snoc {D n : Nat} {p : List Value} {y : Value} {news' : List (Addr × Obj)} (F : Fr h₀ L s.heap m) (N : News h₀ L s.heap news) (U : Upd D (listOf (p ++ [y]).toArray n) (listOf p.toArray (n + 1)) news news')
    (hz : p.length < 1000) (h : ∀ h', Fr h₀ L h' m → News h₀ L h' news' → Q y { s with heap := h' }) : wpAny (model prog w) A (call (.builtin "list.pop") [.ref D]) Q E s :=
  kl_pop F N (kl_last_snoc p y) U (by rw [PySem.sizeLine_eq]; simp; (k_extra "MY om")) h
/-- the turn count of a list that was made longer -/
def extN (n0 : Nat) (ys : List Value) : Nat := match ys with | [] => n0 | _ => n0 + 1
theorem extend_any {D n n2 : Nat} {xs ys : List Value} {news'' : List (Addr × Obj)} (F : Fr h₀ L s.heap m) (N : News h₀ L s.heap news) (hb : (b, listOf ys.toArray n2) ∈ news)
    (U : Upd D (listOf xs.toArray n) (listOf (xs ++ ys).toArray (extN n ys)) news news'') (hx : xs.length ≤ 1000) (hy : ys.length ≤ 1000)
    (h : ∀ h', Fr h₀ L h' m → News h₀ L h' news'' → Q .none { s with heap := h' }) : wpAny (model prog w) A (call (.builtin "list.extend") [.ref D, .ref b]) Q E s := by
  have tl : ¬(!xs.toArray.isEmpty && Builtin.List.listTooLong (xs.toArray.size + ys.toArray.size)) = true := by
    simp only [List.size_toArray]
    have : Builtin.List.listTooLong (xs.length + ys.length) = false := by
      unfold Builtin.List.listTooLong; rw [PySem.sizeLine_eq]; simp; (k_extra "MY om")
    rw [this]; simp
  rcases ys with _ | ⟨y, ys⟩
  · (replace U := U; rw [List.append_nil] at U)
    exact kxn_extend F N hb (by simp) U tl (by rw [PySem.sizeLine_eq]; simp; (k_extra "MY om")) (by rw [PySem.sizeLine_eq]; simp; (k_extra "MY om")) fun h' F' N' => h h' F' N'
  · exact kl_extend F N hb (by simp) (by simp) U tl (by rw [PySem.sizeLine_eq]; simp; (k_extra "MY om")) (by rw [PySem.sizeLine_eq]; simp at hy ⊢; (k_extra "MY om")) fun h' F' N' => h h' F' N'
theorem snoc_cases {α : Type} (l0 : List α) : l0 = [] ∨ ∃ p0 y0, l0 = p0 ++ [y0] := by
  ((rcases List.eq_nil_or_concat l0 with h | hᵤ1) <;> (first | ((fail_if_success (fail_if_success clear h))) | ((fail_if_success (fail_if_success clear hᵤ1)); (injection hᵤ1 with p0 hₜ1; (injection hₜ1 with y0 h)))))
  · exact .inl h
  · exact .inr ⟨p0, y0, by rw [h]; simp⟩
theorem News.drop2 {g h : Heap} {L : Addr} {p q : Addr × Obj} {l : List (Addr × Obj)} (N : News g L h (p :: q :: l)) : News g L h (p :: l) := News.of_sub N fun r hr => by
  cases hr with
  | head => exact .head _
  | tail _ hr => exact .tail _ (.tail _ hr)
theorem rev_any {l : Addr} {its : Array Value} {g : Heap} {vk : Value} {value slice : PySem.Expr} {ops : List Value} {gs : Array GenState} {dr : _} {tk : Nat} {os : _} (F : Fr h₀ L g m) (N : News h₀ L g news) (hl : g.IsList l its) (pk : IsPart vk (some (-1)))
    (h : ∀ D h', Fr h₀ L h' m → News h₀ L h' ((D, listOf its.toList.reverse.toArray 0) :: news) → (∀ p ∈ news, p.1 < D) → Q (.ref D) { heap := h', gens := gs, drawn := dr, toks := tk, os := os })
    (hs : subscripted slice false (.ref l) (.ref g.objs.size) = operate ops (getItem (.ref l) (.ref g.objs.size))) (ht : ∀ r, letTemporaryGo value (.ref l) r = pure ()) (hz : its.size ≤ sizeLine) :
    wpAny (model prog w) A (subscriptTail value slice (.ref l) (.ref g.objs.size)) Q E { heap := g.push { cls := .type "slice", data := .fields #[.none, .none, vk] }, gens := gs, drawn := dr, toks := tk, os := os } :=
  krv_lit (s := { heap := g, gens := gs, drawn := dr, toks := tk, os := os }) F N hl pk rfl h hs ht hz
end
section
theorem words_18 : True := by
  k_with "MY lsize" => ((fail_if_success k_extra "OFF 18"); (first | (simp only [List.size_toArray, List.length_map, List.length_reverse, Array.size_push, List.length_append, List.length_cons, List.length_nil, PySem.sizeLine_eq]; (k_extra "MY om")) | (k_extra "MY om")))
  k_with "subscriptTail Name Slice ref ref" => ((fail_if_success k_extra "OFF 18"); (k_here; k_dflt (refine' rev_any ?wFₘ ?wNₘ ?wlₘ ?wkₘ ?_ ?wsₘ ?wtₘ ?wzₘ; (case wFₘ => k_asm); (case wNₘ => k_asm); (case wlₘ => exact News.isList (by k_asm) (by k_mem)); (case wkₘ => exact IsPart.int _ _); (case wsₘ => with_unfolding_all rfl); (case wtₘ => (intro _; with_unfolding_all rfl)); (case wzₘ => k_extra "MY lsize")); (intros D'ₘ h'ₘ; intro F'ₘ N'ₘ l1ₘ); (try dsimp only at N'ₘ); (try k_lt l1ₘ)))
  k_with "compareOp NotEq ref ref" => ((fail_if_success k_extra "OFF 18"); (k_here; k_dflt (first | (refine' ne_snoc ?wNₘ ?waₘ ?wbₘ ?wuₘ ?_; (case wNₘ => k_asm); (case waₘ => k_mem); (case wbₘ => k_mem); (case wuₘ => ((try dsimp only [ktrTop, Around.deeper]); (k_extra "MY om")))) | (refine' ne_nil ?wNₘ ?waₘ ?wbₘ ?wuₘ ?_; (case wNₘ => k_asm); (case waₘ => k_mem); (case wbₘ => k_mem); (case wuₘ => ((try dsimp only [ktrTop, Around.deeper]); (k_extra "MY om")))))))
  k_with "call builtin:list.pop" => ((fail_if_success k_extra "OFF 18"); (k_here; k_dflt (refine' pop_snoc ?wFₘ ?wNₘ ?wUₘ ?wzₘ ?_; (case wFₘ => k_asm); (case wNₘ => k_asm); (case wUₘ => k_upd); (case wzₘ => k_extra "MY lsize")); intro h'ₘ F'ₘ N'ₘ))
  k_with "call builtin:list.extend" => ((fail_if_success k_extra "OFF 18"); (k_here; k_dflt (refine' extend_any ?wFₘ ?wNₘ ?wbₘ ?wUₘ ?wxₘ ?wyₘ ?_; (case wFₘ => k_asm); (case wNₘ => k_asm); (case wbₘ => k_mem); (case wUₘ => k_upd); (case wxₘ => k_extra "MY lsize"); (case wyₘ => k_extra "MY lsize")); intro h'ₘ F'ₘ N'ₘ))
  k_with "call builtin:list.append" => ((fail_if_success k_extra "OFF 18"); (k_here; (with_reducible show wpAny _ _ (call (Value.builtin _) [Value.ref _, _]) _ _ _); k_dflt (refine' append_K ?k1ₘ ?k2ₘ ?k3ₘ ?_ ?wzₘ; (case k1ₘ => k_asm); (case k2ₘ => k_asm); (case k3ₘ => k_upd); (case wzₘ => k_extra "MY lsize"); k_whole); intro h'ₘ F'ₘ N'ₘ))
  k_with "call ref" => ((fail_if_success k_extra "OFF 18"); ((with_reducible show wpAny _ _ (call (Value.ref 466) _) _ _ _); k_dflt (refine' RSpec.use2 (children_of _ _ _ _ _ ?hkₘ) ?k1ₘ ?k2ₘ ?k3ₘ ?k4ₘ ?k5ₘ ?kKₘ ?kdₘ ?kuₘ ?kpₘ ?_; (case hkₘ => assumption); k_extra "MY rd"; k_extra "MY rp"; k_whole); (intros r9ₘ new9ₘ h9ₘ tk9ₘ; intro F9ₘ N9ₘ S9ₘ O9ₘ p9ₘ); ((injection p9ₘ with x9ₘ hₜ1; (injection hₜ1 with e9ₘ hₜ2; (injection hₜ2 with p9ₘ p9'ₘ))); subst p9ₘ; subst p9'ₘ); simp only [List.cons_append, List.nil_append] at N9ₘ; ((have l9ₘ := allNe_of (O9ₘ.2 _ (.head _))); replace O9ₘ := O9ₘ.1; (try simp only [AllNe, and_true] at l9ₘ)); k_extra "MY use"))
  trivial
/-- the state of the loop of beneath -/
structure BInv (T : PT) (nk : NR) (fs ls : List (Nat × Tok)) : Prop where
  len : fs.length + wts T.ns.length ls ≤ 255
  f : ∀ c ∈ fs, c.1 < T.ns.length
  l : ∀ c ∈ ls, c.1 < T.ns.length
  ch : ∀ c ∈ nk.ch, c.1 ∈ fs.map (·.1) ∨ c.1 ∈ ls.map (·.1)
  cl : ∀ c ∈ fs, ∀ n, T.ns[c.1]? = some n → ∀ d ∈ n.ch, d.1 ∈ fs.map (·.1) ∨ d.1 ∈ ls.map (·.1)
theorem BInv.start {T : PT} {k : Nat} {nk : NR} (hk : T.ns[k]? = some nk) (wf : T.Wf) (inc : T.Inc) (h9 : T.ns.length ≤ 9) : BInv T nk [] nk.ch.reverse := by
  have hw := PT.wt_ch wf inc hk
  have hp9 := pow9 (i0 := k) h9
  exact ⟨by rw [wts_reverse]; simp; (k_extra "MY om"), (fun _ h => nomatch h), (fun c hc => (wf.ch _ _ hk c (List.mem_reverse.mp hc)).2), (fun c hc => .inr (List.mem_map_of_mem (List.mem_reverse.mpr hc))), (fun _ h => nomatch h)⟩
theorem BInv.step {T : PT} {nk nc : NR} {c : Nat} {tc : Tok} {fs p : List (Nat × Tok)} (I : BInv T nk fs (p ++ [(c, tc)])) (hnc : T.ns[c]? = some nc) (wf : T.Wf) (inc : T.Inc) :
    BInv T nk (fs ++ [(c, tc)]) (p ++ nc.ch.reverse) ∧ wts T.ns.length (p ++ nc.ch.reverse) < wts T.ns.length (p ++ [(c, tc)]) := by
  have hwc := PT.wt_ch wf inc hnc
  have e1 := wts_append T.ns.length p [(c, tc)]
  have q3 := wts_append T.ns.length p nc.ch.reverse
  (replace q3 := q3; rw [wts_reverse] at q3)
  have hl := I.len
  have q4 : 0 < 2 ^ (T.ns.length - 1 - c) := Nat.pow_pos (by (k_extra "MY om"))
  simp only [wts, Nat.add_zero] at e1
  have mv : ∀ d : Nat, d ∈ fs.map (·.1) ∨ d ∈ (p ++ [(c, tc)]).map (·.1) → d ∈ (fs ++ [(c, tc)]).map (·.1) ∨ d ∈ (p ++ nc.ch.reverse).map (·.1) := by
    intro d hd
    simp only [List.map_append, List.mem_append, List.map_cons, List.map_nil] at hd ⊢
    rcases hd with h | h | h
    · exact .inl (.inl h)
    · exact .inr (.inl h)
    · exact .inl (.inr h)
  refine ⟨⟨by simp only [List.length_append, List.length_cons, List.length_nil]; (k_extra "MY om"), fun d hd => ?_, fun d hd => ?_, fun d hd => mv _ (I.ch d hd), fun d hd n hn f hf => ?_⟩, by (k_extra "MY om")⟩
  · rcases List.mem_append.mp hd with h | h
    · exact I.f d h
    · exact I.l d (List.mem_append_right _ h)
  · rcases List.mem_append.mp hd with h | h
    · exact I.l d (List.mem_append_left _ h)
    · exact (wf.ch _ _ hnc d (List.mem_reverse.mp h)).2
  · rcases List.mem_append.mp hd with h | h
    · exact mv _ (I.cl d h n hn f hf)
    · have h := List.mem_singleton.mp h
      subst h; dsimp only at hn; (replace hn := hn; rw [hnc] at hn); cases hn
      exact .inr (by rw [List.map_append, List.map_reverse]; exact List.mem_append_right _ (List.mem_reverse.mpr (List.mem_map_of_mem hf)))
theorem News.pick2 {g h : Heap} {L : Addr} {a b c p q : Addr × Obj} (N : News g L h [a, b, c, p, q]) : News g L h [p, q] := News.of_sub N fun r hr => by
  simp only [List.mem_cons, List.not_mem_nil, or_false] at hr ⊢
  rcases hr with h | h <;> simp [h]
set_option maxRecDepth 100000 in
set_option maxHeartbeats 8000000 in
theorem beneath_of : ∀ (w : World) (T : PT) (k : Nat) (nk : NR) (tq : Tok) (hk : T.ns[k]? = some nk) (wf : T.Wf) (inc : T.Inc) (h9 : T.ns.length ≤ 9),
    RSpec w 35 3 [.ref T.b.t, .int (k : Int) tq] (fun h => T.At w.params h) (fun _ r new => ∃ (x e : Nat) (xs : List (Nat × Tok)), r = .ref x ∧ (x, listOf (xs.map nv).toArray e) ∈ new ∧ xs.length ≤ 300 ∧ (∀ c ∈ xs, c.1 < T.ns.length) ∧
      (∀ c ∈ nk.ch, c.1 ∈ xs.map (·.1)) ∧ ∀ c ∈ xs, ∀ n, T.ns[c.1]? = some n → ∀ d ∈ n.ch, d.1 ∈ xs.map (·.1)) := by
  have hEpsₑ : EpsOn 0 := ⟨True.intro⟩
  intros w T k nk tq
  intro hk
  intro wf
  intro inc
  intro h9
  (intros dp un gd cn cs a ccd cl outer A₀ base h₀ L m news s p loose mean mg mb Q E; intro B F X N Tp hk9 hd hu pre ret)
  have hT := pre.2.1
  k_extra "MY reader"
  (intros L' h'; intro F' N' B' X' T' lv)
  try dsimp only
  try k_fold
  have hw := PT.wt_ch wf inc hk
  have hp9 := pow9 (i0 := k) h9
  have hl9 : nk.ch.length ≤ 255 := by have := wts_len T.ns.length nk.ch; (k_extra "MY om")
  k_steps
  unfold Halt
  rename (Fr _ _ _ _) => F1
  rename (News _ _ _ _) => N1
  refine While_puts (fun n l news' => (l = [] ∨ ∃ v, l = [(Str.ofString "here", v)]) ∧ ∃ (fs ls : List (Nat × Tok)) (c1 c2 : Nat), news' = [(_, listOf (ls.map nv).toArray c2), (_, listOf (fs.map nv).toArray c1)] ∧ n = wts T.ns.length ls ∧ BInv T nk fs ls)
    [] F1 (News.drop2 N1) (fun _ h => nomatch h) ⟨.inl rfl, [], nk.ch.reverse, 0, 0, by rw [List.map_reverse]; rfl, rfl, BInv.start hk wf inc h9⟩ ?_
  clear F1 N1
  ((intro n; intro l; intros news₁ h₁ tk₁); (intro hₜ3; (injection hₜ3 with hl hₜ1; (injection hₜ1 with fs hₜ2; (injection hₜ2 with ls hₜ3; (injection hₜ3 with c1 hₜ4; (injection hₜ4 with c2 hₜ5; (refine And.elim ?_ (hₜ5); (try clear hₜ5); intro hₜ6 hₜ7; rcases hₜ6 with rfl; (refine And.elim ?_ (hₜ7); (try clear hₜ7); intro hₜ8 I; rcases hₜ8 with rfl)))))))); intro F1 N1)
  ((rcases snoc_cases ls with hᵤ2 | hᵤ3) <;> (first | ((fail_if_success (fail_if_success clear hᵤ2)); subst hᵤ2) | ((fail_if_success (fail_if_success clear hᵤ3)); (injection hᵤ3 with p hₜ1; (refine Exists.elim (hₜ1) ?_; (try clear hₜ1); refine prodI ?_; intro c; intro tc; intro hₜ3; rcases hₜ3 with rfl)))))
  · ((rcases hl with hᵤ4 | hᵤ5) <;> (first | ((fail_if_success (fail_if_success clear hᵤ4)); subst hᵤ4) | ((fail_if_success (fail_if_success clear hᵤ5)); (injection hᵤ5 with v hₜ1; rcases hₜ1 with rfl))))
    all_goals simp only [putsL] at F1
    all_goals simp only [List.map_nil] at N1
    all_goals k_steps
    all_goals refine ret _ _ _ _ (by assumption) (by assumption) (by assumption) (by assumption) ⟨_, c1, fs, rfl, .tail _ (.tail _ (.head _)), by have := I.len; (k_extra "MY om"), I.f, (fun c hc => (I.ch c hc).elim id fun h => nomatch h), (fun c hc n hn d hd => (I.cl c hc n hn d hd).elim id fun h => nomatch h)⟩
  · simp only [List.map_append, List.map_cons, List.map_nil, nv] at N1
    have hc9 := I.l (c, tc) (List.mem_append_right _ (.head _))
    (injection (lt_get hc9) with nc hnc)
    (injection (I.step hnc wf inc) with I2 lt2)
    have hlen := I.len
    have hwc := PT.wt_ch wf inc hnc
    have e1 := wts_append T.ns.length p [(c, tc)]
    have e2 := wts_len T.ns.length p
    have e3 := wts_len T.ns.length nc.ch
    simp only [wts, Nat.add_zero] at e1
    dsimp only at e1 hwc hlen
    have p256 := pow9 (i0 := c) h9
    have b1 : p.length ≤ 255 := by (k_extra "MY om")
    have b2 : nc.ch.length ≤ 255 := by (k_extra "MY om")
    have b3 : fs.length ≤ 255 := by (k_extra "MY om")
    have q1 : List.map nv p ++ (List.map nv nc.ch).reverse = (p ++ nc.ch.reverse).map nv := by simp
    have q2 : (List.map nv fs).toArray.push (.int (c : Int) tc) = ((fs ++ [(c, tc)]).map nv).toArray := by simp [nv]
    ((rcases hl with hᵤ6 | hᵤ7) <;> (first | ((fail_if_success (fail_if_success clear hᵤ6)); subst hᵤ6) | ((fail_if_success (fail_if_success clear hᵤ7)); (injection hᵤ7 with v hₜ1; rcases hₜ1 with rfl))))
    all_goals simp only [putsL] at F1
    all_goals k_steps
    all_goals (rename (Fr _ _ _ _) => F2)
    all_goals (rename (News _ _ _ _) => N2)
    all_goals (replace N2 := N2; rw [q1, q2] at N2)
    all_goals exact WhileStep.intro F2 (News.pick2 N2) lt2 ⟨[(Str.ofString "here", .int (c : Int) tc)], (by first | rfl | exact putsL_dup (x := Str.ofString "here") (v := .int (c : Int) tc) (v' := v) (l := [])), .inr ⟨_, rfl⟩, _, _, _, _, rfl, rfl, I2⟩
end
set_option linter.unusedVariables false
theorem words_19 : True := by
  k_with "OFF 18" => (skip)
  k_with "MY enter" => ((fail_if_success k_extra "OFF 25"); (refine wpAny_call ?_; with_unfolding_all (refine' code_def ?k1ₘ ?k2ₘ ?k3ₘ ?k4ₘ ?k5ₘ ?kAₘ ?kFₘ ?kKₘ ?k6ₘ ?k7ₘ ?k8ₘ ?k9ₘ ?kBₘ ?_ ?c2ₘ ?c3ₘ ?c4ₘ ?c5ₘ; (case kAₘ => exact rfl); (case kFₘ => exact rfl); (case kKₘ => assumption); (case k1ₘ => k_asm); (case k2ₘ => k_asm); (case k3ₘ => k_asm); (case k4ₘ => k_asm); (case k5ₘ => k_asm); (case k6ₘ => k_is); (case k7ₘ => k_is); (case k8ₘ => ((try dsimp only [ktrTop]); (k_extra "MY om"))); (case k9ₘ => exact BindsTo.of_eq rfl); (case c5ₘ => decide); (case kBₘ => exact locs rfl); (case c2ₘ => exact rfl); (case c3ₘ => exact rfl); (case c4ₘ => exact rfl); k_whole)))
  k_with "MY k_room" => ((fail_if_success k_extra "OFF 25"); ((try dsimp only [ktrTop, Around.deeper]); (try simp only [depth_under_make, depth_under_kw, depth_in1, depth_deeper, depth_caller]); (k_extra "MY om")))
  k_with "MY k_inst" => ((fail_if_success k_extra "OFF 25"); first | (refine' inst_treeN ?Fₘ; (case Fₘ => k_asm)) | (refine' inst_nodeN ?Fₘ ?h2ₘ; (case Fₘ => k_asm); (case h2ₘ => assumption)))
  k_with "call ref" => ((fail_if_success k_extra "OFF 25"); ((with_reducible show wpAny _ _ (call (Value.ref 347) _) _ _ _); k_dflt (refine' RSpec.use (row_of _ _ _ _ _ ?hkₘ) ?k1ₘ ?k2ₘ ?k3ₘ ?k4ₘ ?k5ₘ ?kKₘ ?kdₘ ?kuₘ ?kpₘ ?_; (case hkₘ => assumption); k_extra "MY rd"; (case kpₘ => exact at_news (by k_asm) (by (k_extra "MY om")) (by assumption)); k_whole); (intros r9ₘ new9ₘ h9ₘ tk9ₘ; intro F9ₘ N9ₘ S9ₘ O9ₘ p9ₘ); ((injection p9ₘ with p9ₘ p9'ₘ); subst p9ₘ; subst p9'ₘ); simp only [List.nil_append] at N9ₘ; k_extra "MY use"))
  trivial
section
variable {prog : Program} {w : World} {A : Around} {E : Value → Shared → Prop} {s : Shared} {env : Env} {h₀ : Heap} {x : Str} {body : List Stmt} {Q : Flow → Shared → Prop}
theorem for_empty {l : Addr} {c : Nat} {m₀ : Str → Option Value} {news : List (Addr × Obj)} (hh : A.handled = none) (F : Fr h₀ env.locals s.heap m₀) (N : News h₀ env.locals s.heap news) (hm : (l, listOf #[] c) ∈ news)
    (done : ∀ h tk, Fr h₀ env.locals h m₀ → News h₀ env.locals h news → Q .next { s with heap := h, toks := tk }) :
    wpAny (model prog w) A (pyIter (.ref l)) (fun it s₂ => LoopAtV prog w A h₀ env x body Q E it s₂) E s :=
  for_list (vs := []) (J := fun _ m' news' => m' = m₀ ∧ news' = news) hh F N (fun _ _ _ h => .inl (h.2 ▸ hm)) ⟨rfl, rfl⟩ (fun i v _ _ _ _ _ _ hv => by simp at hv) (fun m₁ news₁ h tk hJ F2 N2 => done h tk (hJ.1 ▸ F2) (hJ.2 ▸ N2))
end
theorem child_get {T : PT} {e : Nat} {n' np nc : NR} {p c : Nat} {t9 : Tok} (hp : T.ns[p]? = some np) (hc : T.ns[c]? = some nc) :
    ∃ n2, (T.child e n' p np t9).ns[c]? = some n2 ∧ n2.a = nc.a ∧ n2.d = nc.d ∧ (∀ P, n2.es P = nc.es P) ∧ n2.ep 0 = nc.ep 0 ∧ n2.ep 2 = nc.ep 2 ∧ n2.ep 3 = nc.ep 3 ∧ n2.al = nc.al ∧ n2.nl = nc.nl ∧ n2.at' = nc.at' ∧ n2.ns = nc.ns := by
  have hlt := get_lt hc
  have h1 := more_get (e := e) (n' := n') hc
  unfold PT.child PT.setN
  by_cases h : p = c
  · subst h
    (replace hc := hc; rw [hp] at hc); cases hc
    refine ⟨np.addCh (T.ns.length, t9), ?_, rfl, rfl, (fun _ => rfl), rfl, rfl, rfl, rfl, rfl, rfl, rfl⟩
    dsimp only
    rw [List.getElem?_set_self (get_lt h1)]
  · refine ⟨nc, ?_, rfl, rfl, (fun _ => rfl), rfl, rfl, rfl, rfl, rfl, rfl, rfl⟩
    dsimp only
    rw [List.getElem?_set_ne h]; exact h1
theorem inst_childN {T : PT} {P : Params} {h₀ h : Heap} {L : Addr} {rest : List (Addr × Obj)} {e : Nat} {n' np nc : NR} {p c : Nat} {t9 : Tok} (N : News h₀ L h ((T.child e n' p np t9).objs P ++ rest)) (hp : T.ns[p]? = some np) (hc : T.ns[c]? = some nc) :
    InstAt h nc.a (instObj 315 nc.d) 315 (some (dictOf (nc.es P) (nc.ep 0))) := by
  (injection (child_get (e := e) (n' := n') (t9 := t9) hp hc) with n2 hₜ1; (injection hₜ1 with h1 hₜ2; (injection hₜ2 with ha hₜ3; (injection hₜ3 with hd hₜ4; (injection hₜ4 with he hₜ5; (injection hₜ5 with h0 hₜ6; rcases hₜ6 with _))))))
  have := inst_nodeN N (List.mem_of_getElem? h1)
  (replace this := this; rw [ha, hd, he, h0] at this)
  exact this
theorem mem_nlN {T : PT} {P : Params} {rest : List (Addr × Obj)} {e : Nat} {n' np nc : NR} {p c : Nat} {t9 : Tok} (hp : T.ns[p]? = some np) (hc : T.ns[c]? = some nc) (h0 : nc.ns = []) : (nc.nl, listOf #[] (nc.ep 3)) ∈ (T.child e n' p np t9).objs P ++ rest := by
  (injection (child_get (e := e) (n' := n') (t9 := t9) hp hc) with n2 hₜ1; (injection hₜ1 with h1 hₜ2; (refine And.elim ?_ (hₜ2); (try clear hₜ2); intro hₜ3 hₜ4; rcases hₜ3 with _; (refine And.elim ?_ (hₜ4); (try clear hₜ4); intro hₜ5 hₜ6; rcases hₜ5 with _; (refine And.elim ?_ (hₜ6); (try clear hₜ6); intro hₜ7 hₜ8; rcases hₜ7 with _; (refine And.elim ?_ (hₜ8); (try clear hₜ8); intro hₜ9 hₜ10; rcases hₜ9 with _; (refine And.elim ?_ (hₜ10); (try clear hₜ10); intro hₜ11 hₜ12; rcases hₜ11 with _; (injection hₜ12 with h3 hₜ13; (refine And.elim ?_ (hₜ13); (try clear hₜ13); intro hₜ14 hₜ15; rcases hₜ14 with _; (injection hₜ15 with hl hₜ16; (refine And.elim ?_ (hₜ16); (try clear hₜ16); intro hₜ17 hn; rcases hₜ17 with _)))))))))))
  have := (T.child e n' p np t9).mem_node (P := P) (List.mem_of_getElem? h1) _ mem5a
  (replace this := this; rw [hl, hn, h0, h3] at this)
  exact List.mem_append_left _ this
theorem mem_alN {T : PT} {P : Params} {rest : List (Addr × Obj)} {e : Nat} {n' np nc : NR} {p c : Nat} {t9 : Tok} (hp : T.ns[p]? = some np) (hc : T.ns[c]? = some nc) (h0 : nc.at' = []) : (nc.al, listOf #[] (nc.ep 2)) ∈ (T.child e n' p np t9).objs P ++ rest := by
  (injection (child_get (e := e) (n' := n') (t9 := t9) hp hc) with n2 hₜ1; (injection hₜ1 with h1 hₜ2; (refine And.elim ?_ (hₜ2); (try clear hₜ2); intro hₜ3 hₜ4; rcases hₜ3 with _; (refine And.elim ?_ (hₜ4); (try clear hₜ4); intro hₜ5 hₜ6; rcases hₜ5 with _; (refine And.elim ?_ (hₜ6); (try clear hₜ6); intro hₜ7 hₜ8; rcases hₜ7 with _; (refine And.elim ?_ (hₜ8); (try clear hₜ8); intro hₜ9 hₜ10; rcases hₜ9 with _; (injection hₜ10 with h2 hₜ11; (refine And.elim ?_ (hₜ11); (try clear hₜ11); intro hₜ12 hₜ13; rcases hₜ12 with _; (injection hₜ13 with hl hₜ14; (refine And.elim ?_ (hₜ14); (try clear hₜ14); intro hₜ15 hₜ16; rcases hₜ15 with _; (injection hₜ16 with hn hₜ17; rcases hₜ17 with _)))))))))))
  have := (T.child e n' p np t9).mem_node (P := P) (List.mem_of_getElem? h1) _ mem5b
  (replace this := this; rw [hl, hn, h0, h2] at this)
  exact List.mem_append_left _ this
section
local macro_rules | `(tactic| walk_at "pyIter ref") => `(tactic| (k_dflt refine for_empty (by exact rfl) (by k_asm) (by k_asm) (by first | exact mem_nlN (by assumption) (by assumption) (by assumption) | exact mem_alN (by assumption) (by assumption) (by assumption)) ?_; intro h8 tk8 F8 N8))
theorem words_20 : True := by
  k_with "MY k_inst" => ((fail_if_success k_extra "OFF 20"); first | (refine' inst_treeN ?Fₘ; (case Fₘ => k_asm)) | (refine' inst_nodeN ?Fₘ ?h2ₘ; (case Fₘ => k_asm); (case h2ₘ => assumption)) | exact inst_childN (by k_asm) (by assumption) (by assumption))
  k_with "call ref" => ((fail_if_success k_extra "OFF 20"); first | ((with_reducible show wpAny _ _ (call (Value.ref 347) _) _ _ _); k_dflt (refine' RSpec.use (row_of _ _ _ _ _ ?hkₘ) ?k1ₘ ?k2ₘ ?k3ₘ ?k4ₘ ?k5ₘ ?kKₘ ?kdₘ ?kuₘ ?kpₘ ?_; (case hkₘ => assumption); k_extra "MY rd"; (case kpₘ => exact at_news (by k_asm) (by (k_extra "MY om")) (by assumption)); k_whole); (intros r9ₘ new9ₘ h9ₘ tk9ₘ; intro F9ₘ N9ₘ S9ₘ O9ₘ p9ₘ); ((injection p9ₘ with p9ₘ p9'ₘ); subst p9ₘ; subst p9'ₘ); simp only [List.nil_append] at N9ₘ; k_extra "MY use") | ((with_reducible show wpAny _ _ (call (Value.ref 361) _) _ _ _); k_dflt (refine' MSpec.use (add_child_of _ _ _ _ _ _ _ _ _ _ _ _ _ _ _ _ ?hkₘ ?hcₘ ?hnₘ ?hlₘ) ?k1ₘ ?k2ₘ ?k3ₘ ?k4ₘ ?k5ₘ ?kKₘ ?kdₘ ?kuₘ ?_; (case hkₘ => assumption); (case hcₘ => assumption); (case hnₘ => assumption); (case hlₘ => assumption); k_extra "MY rd"; k_whole); (intros r9ₘ new9ₘ h9ₘ tk9ₘ; intro F9ₘ N9ₘ p9ₘ); ((injection p9ₘ with n9ₘ hₜ1; (injection hₜ1 with e9ₘ hₜ2; (injection hₜ2 with t9ₘ hₜ3; (injection hₜ3 with q0ₘ hₜ4; (injection hₜ4 with q1ₘ hₜ5; (injection hₜ5 with qaₘ qbₘ))))))); subst q0ₘ; subst qaₘ; k_extra "MY use"))
  trivial
set_option maxRecDepth 100000 in
set_option maxHeartbeats 8000000 in
theorem copy_head_of : ∀ (w : World) (T : PT) (rest : List (Addr × Obj)) (c p : Nat) (nc np : NR) (tc tp : Tok) (hc : T.ns[c]? = some nc) (hp : T.ns[p]? = some np) (hkind : np.kind = "root" ∨ np.kind = "element") (hnd : ND (T.objs w.params ++ rest)) (hs : T.Small) (hb1 : nc.ns = []) (hb2 : nc.at' = []),
    MSpec w 49 7 [.ref T.b.t, .int (c : Int) tc, .int (p : Int) tp] (T.objs w.params ++ rest)
      (fun r news' => ∃ (n' : NR) (e t9 : Nat), r = .int (T.ns.length : Int) t9 ∧ n'.Is nc.kind nc.name nc.uri nc.loc nc.value (some (p, tp)) ∧
        news' = (T.child e n' p np t9).objs w.params ++ rest ∧ ND ((T.child e n' p np t9).objs w.params ++ rest)) := by
  have hEpsₑ : EpsOn 0 := ⟨True.intro⟩
  intros w T rest c p nc np tc
  intro tp
  intro hc
  intro hp
  intro hkind
  intro hnd
  intro hs
  intro hb1
  intro hb2
  (intros dp un gd cn cs a ccd cl outer A₀ base h₀ L m s p9 loose mean mg mb Q E; intro B F X N Tp hk9 hd hu ret)
  have hs' := hs
  (injection hs' with hl hb)
  have hcm := List.mem_of_getElem? hc
  have hclt := get_lt hc
  have hplt := get_lt hp
  have hb' : ∀ n ∈ T.ns, n.ch.length ≤ 1000 ∧ n.at'.length ≤ 1000 ∧ n.ns.length ≤ 1000 := fun n hn => by have := hb n hn; (k_extra "MY om")
  k_extra "MY enter"
  (intros g L' h'; intro FG F' N' B' X' T')
  try dsimp only
  try k_fold
  k_steps
  exact ret _ _ _ _ (by assumption) (by assumption) ⟨_, _, _, rfl, (by assumption), rfl, (by assumption)⟩
end
set_option linter.unusedVariables false
/-- the shape of a place, with what is still to come beneath each place -/
def PT.sh (T : PT) (pd : Nat → List PyData) : Nat → Nat → PyData
  | 0, _ => .none
  | f + 1, j => match T.ns[j]? with
    | none => .none
    | some n => .tuple [.str n.kind, .str n.name, .str n.value, .list (n.ch.map (fun c => PT.sh T pd f c.1) ++ pd j)]
theorem PT.sh_succ {T : PT} {pd : Nat → List PyData} {f j : Nat} {n : NR} (h : T.ns[j]? = some n) :
    T.sh pd (f + 1) j = .tuple [.str n.kind, .str n.name, .str n.value, .list (n.ch.map (fun c => PT.sh T pd f c.1) ++ pd j)] := by rw [PT.sh, h]
/-- children stand above their parents -/
def PT.Up (T : PT) : Prop := ∀ (i : Nat) (n : NR), T.ns[i]? = some n → ∀ c ∈ n.ch, i < c.1 ∧ c.1 < T.ns.length
theorem PT.sh_congr {T : PT} (wf : T.Up) {pd pd' : Nat → List PyData} (h : ∀ j, j < T.ns.length → pd j = pd' j) : ∀ f j, T.sh pd f j = T.sh pd' f j
  | 0, _ => rfl
  | f + 1, j => by
    cases hj : T.ns[j]? with
    | none => rw [PT.sh, PT.sh, hj]
    | some n =>
      rw [PT.sh_succ hj, PT.sh_succ hj, h j (get_lt hj)]
      have : n.ch.map (fun c => PT.sh T pd f c.1) = n.ch.map (fun c => PT.sh T pd' f c.1) := List.map_congr_left fun c _ => PT.sh_congr wf h f c.1
      rw [this]
theorem PT.sh_fuel {T : PT} (wf : T.Up) {pd : Nat → List PyData} : ∀ f f' j, T.ns.length ≤ f + j → T.ns.length ≤ f' + j → j < T.ns.length → T.sh pd f j = T.sh pd f' j
  | 0, _, j, h1, _, hj => by (k_extra "MY om")
  | f + 1, 0, j, _, h2, hj => by (k_extra "MY om")
  | f + 1, f' + 1, j, h1, h2, hj => by
    obtain ⟨n, hn⟩ := lt_get hj
    rw [PT.sh_succ hn, PT.sh_succ hn]
    have : n.ch.map (fun c => PT.sh T pd f c.1) = n.ch.map (fun c => PT.sh T pd f' c.1) := List.map_congr_left fun c hc => by
      have := wf j n hn c hc
      exact PT.sh_fuel wf f f' c.1 (by (k_extra "MY om")) (by (k_extra "MY om")) this.2
    rw [this]
def addP (p : Nat) (s : PyData) (pd : Nat → List PyData) : Nat → List PyData := fun j => if j = p then s :: pd j else pd j
theorem child_at {T : PT} {e : Nat} {n' np : NR} {p : Nat} {t9 : Tok} (hp : T.ns[p]? = some np) (j : Nat) (hj : j < T.ns.length) :
    (T.child e n' p np t9).ns[j]? = if j = p then some (np.addCh (T.ns.length, t9)) else T.ns[j]? := by
  obtain ⟨nj, hnj⟩ := lt_get hj
  have h1 := more_get (e := e) (n' := n') hnj
  unfold PT.child PT.setN
  dsimp only
  by_cases h : j = p
  · subst h; rw [if_pos rfl, List.getElem?_set_self (get_lt h1)]
  · rw [if_neg h, List.getElem?_set_ne (Ne.symm h), h1, hnj]
theorem child_last {T : PT} {e : Nat} {n' np : NR} {p : Nat} {t9 : Tok} (hp : T.ns[p]? = some np) : (T.child e n' p np t9).ns[T.ns.length]? = some n' := by
  have := get_lt hp
  unfold PT.child PT.setN PT.more
  dsimp only
  rw [List.getElem?_set_ne (by (k_extra "MY om"))]; simp
theorem child_len {T : PT} {e : Nat} {n' np : NR} {p : Nat} {t9 : Tok} : (T.child e n' p np t9).ns.length = T.ns.length + 1 := by unfold PT.child PT.setN PT.more; simp
theorem head_step {T : PT} (wf : T.Up) {e p : Nat} {n' np : NR} {t9 : Tok} (hp : T.ns[p]? = some np) {kind name uri loc value : Str} {par : Option (Nat × Tok)} (hn : n'.Is kind name uri loc value par) (pd : Nat → List PyData) :
    ∀ f j, T.ns.length + 1 ≤ f + j → j < T.ns.length → (T.child e n' p np t9).sh pd f j = T.sh (addP p (.tuple [.str kind, .str name, .str value, .list (pd T.ns.length)]) pd) f j
  | 0, j, h, hj => by (k_extra "MY om")
  | f + 1, j, h, hj => by
    obtain ⟨n, hnj⟩ := lt_get hj
    have ih : ∀ c ∈ n.ch, (T.child e n' p np t9).sh pd f c.1 = T.sh (addP p (.tuple [.str kind, .str name, .str value, .list (pd T.ns.length)]) pd) f c.1 := fun c hc => by
      have := wf j n hnj c hc
      exact head_step wf hp hn pd f c.1 (by (k_extra "MY om")) this.2
    have e1 := child_at (e := e) (n' := n') (t9 := t9) hp j hj
    rw [PT.sh_succ hnj]
    by_cases hjp : j = p
    · subst hjp
      rw [hp] at hnj; cases hnj
      rw [if_pos rfl] at e1
      rw [PT.sh_succ e1]
      have e2 : (T.child e n' j np t9).sh pd f T.ns.length = .tuple [.str kind, .str name, .str value, .list (pd T.ns.length)] := by
        obtain ⟨g, rfl⟩ : ∃ g, f = g + 1 := ⟨f - 1, by (k_extra "MY om")⟩
        rw [PT.sh_succ (child_last hp), hn.kind, hn.name, hn.value, hn.ch]; rfl
      have e3 := List.map_congr_left ih
      simp only [NR.addCh, List.map_append, List.map_cons, List.map_nil, e2, e3, addP, if_true, List.append_assoc, List.cons_append, List.nil_append]
    · rw [if_neg hjp] at e1
      rw [PT.sh_succ (e1.trans hnj), List.map_congr_left ih]
      simp only [addP, if_neg hjp]
theorem child_up {T : PT} (wf : T.Up) {e p : Nat} {n' np : NR} {t9 : Tok} (hp : T.ns[p]? = some np) (hn : n'.ch = []) : (T.child e n' p np t9).Up := by
  intro i n hi c hc
  rw [child_len]
  have hi' := get_lt hi
  rw [child_len] at hi'
  have hpl := get_lt hp
  rcases Nat.lt_or_ge i T.ns.length with q | q
  · rw [child_at hp i q] at hi
    by_cases h : i = p
    · rw [if_pos h] at hi; cases hi
      rcases List.mem_append.mp hc with hc | hc
      · have := wf p np hp c hc; (k_extra "MY om")
      · have := List.mem_singleton.mp hc; subst this; dsimp only; (k_extra "MY om")
    · rw [if_neg h] at hi
      have := wf i n hi c hc; (k_extra "MY om")
  · have e1 : i = T.ns.length := by (k_extra "MY om")
    subst e1
    rw [child_last hp] at hi; cases hi
    rw [hn] at hc; cases hc
/-- what is pending, the top at the end -/
def pendL (S : Nat → PyData) (ps : List (Nat × Nat)) (pd : Nat → List PyData) : Nat → List PyData := ps.foldl (fun pd x => addP x.2 (S x.1) pd) pd
theorem pendL_snoc {S : Nat → PyData} {ps : List (Nat × Nat)} {c a : Nat} {pd : Nat → List PyData} : pendL S (ps ++ [(c, a)]) pd = addP a (S c) (pendL S ps pd) := by simp [pendL]
theorem pendL_push {S : Nat → PyData} {ps : List (Nat × Nat)} {k : Nat} {pd : Nat → List PyData} : ∀ (l : List Nat), pendL S (ps ++ l.reverse.map (fun d => (d, k))) pd = fun j => if j = k then l.map S ++ pendL S ps pd j else pendL S ps pd j
  | [] => by simp
  | d :: l => by
    have ih := pendL_push (S := S) (ps := ps) (k := k) (pd := pd) l
    rw [List.reverse_cons, List.map_append, ← List.append_assoc, List.map_cons, List.map_nil, pendL_snoc, ih]
    funext j
    by_cases h : j = k <;> simp [addP, h]
theorem pendL_off {S : Nat → PyData} {k : Nat} {pd : Nat → List PyData} : ∀ (ps : List (Nat × Nat)), (∀ x ∈ ps, x.2 ≠ k) → pendL S ps pd k = pd k := by
  intro ps
  induction ps generalizing pd with
  | nil => intro _; rfl
  | cons x ps ih =>
    intro h
    show pendL S ps (addP x.2 (S x.1) pd) k = pd k
    rw [ih fun y hy => h y (.tail _ hy)]
    simp only [addP, if_neg (Ne.symm (h x (.head _)))]
set_option linter.unusedVariables false
/-- the same place, at a later time -/
structure NR.Same (n n' : NR) : Prop where
  kind : n'.kind = n.kind
  name : n'.name = n.name
  uri : n'.uri = n.uri
  loc : n'.loc = n.loc
  value : n'.value = n.value
theorem NR.Same.rfl' {n : NR} : n.Same n := ⟨rfl, rfl, rfl, rfl, rfl⟩
theorem NR.Same.trans {a b c : NR} (h : a.Same b) (g : b.Same c) : a.Same c := ⟨g.1.trans h.1, g.2.trans h.2, g.3.trans h.3, g.4.trans h.4, g.5.trans h.5⟩
/-- a tree that came of another -/
structure Ext (T T' : PT) : Prop where
  t : T'.b.t = T.b.t
  len : T.ns.length ≤ T'.ns.length
  get : ∀ (i : Nat) (n : NR), T.ns[i]? = some n → ∃ n', T'.ns[i]? = some n' ∧ n.Same n'
theorem Ext.refl (T : PT) : Ext T T := ⟨rfl, Nat.le_refl _, fun i n h => ⟨n, h, .rfl'⟩⟩
theorem Ext.trans {A B C : PT} (h : Ext A B) (g : Ext B C) : Ext A C := ⟨g.t.trans h.t, Nat.le_trans h.len g.len, fun i n hi => by
  obtain ⟨n1, h1, s1⟩ := h.get i n hi
  obtain ⟨n2, h2, s2⟩ := g.get i n1 h1
  exact ⟨n2, h2, s1.trans s2⟩⟩
/-- what every tree here keeps -/
structure PT.Good (T : PT) : Prop where
  wf : T.Wf
  bare : T.Bare
  short : ∀ n ∈ T.ns, n.ch.length ≤ T.ns.length
theorem PT.Good.small {T : PT} (g : T.Good) (h : T.ns.length ≤ 900) : T.Small := ⟨h, fun n hn => by
  have := g.short n hn
  rw [g.bare.ns n hn, g.bare.at' n hn]; simp; (k_extra "MY om")⟩
theorem child_ext {T : PT} {e p : Nat} {n' np : NR} {t9 : Tok} (hp : T.ns[p]? = some np) : Ext T (T.child e n' p np t9) := by
  refine ⟨rfl, by rw [child_len]; (k_extra "MY om"), fun i n hi => ?_⟩
  have e1 := child_at (e := e) (n' := n') (t9 := t9) hp i (get_lt hi)
  by_cases h : i = p
  · subst h
    rw [hp] at hi; cases hi
    rw [if_pos rfl] at e1
    exact ⟨_, e1, ⟨rfl, rfl, rfl, rfl, rfl⟩⟩
  · rw [if_neg h] at e1
    exact ⟨n, e1.trans hi, .rfl'⟩
theorem child_mem {T : PT} {e p : Nat} {n' np : NR} {t9 : Tok} (hp : T.ns[p]? = some np) {n : NR} (hn : n ∈ (T.child e n' p np t9).ns) : n ∈ T.ns ∨ n = np.addCh (T.ns.length, t9) ∨ n = n' := by
  obtain ⟨i, hi, h⟩ := List.mem_iff_getElem.mp hn
  have hi' : (T.child e n' p np t9).ns[i]? = some n := by rw [List.getElem?_eq_getElem hi, h]
  rw [child_len] at hi
  rcases Nat.lt_or_ge i T.ns.length with q | q
  · rw [child_at hp i q] at hi'
    by_cases h : i = p
    · rw [if_pos h] at hi'; exact .inr (.inl (Option.some.inj hi').symm)
    · rw [if_neg h] at hi'; exact .inl (List.mem_of_getElem? hi')
  · have : i = T.ns.length := by (k_extra "MY om")
    subst this
    rw [child_last hp] at hi'
    exact .inr (.inr (Option.some.inj hi').symm)
theorem child_good {T : PT} (g : T.Good) {e p : Nat} {n' np : NR} {t9 : Tok} (hp : T.ns[p]? = some np) {kind name uri loc value : Str} {tp : Tok} (hn : n'.Is kind name uri loc value (some (p, tp))) : (T.child e n' p np t9).Good := by
  have hpm := List.mem_of_getElem? hp
  refine ⟨⟨?_, child_up g.wf.ch hp hn.ch⟩, ⟨fun n h => ?_, fun n h => ?_⟩, fun n h => ?_⟩
  · intro i n hi c hc
    have hi' := get_lt hi
    rw [child_len] at hi'
    rcases Nat.lt_or_ge i T.ns.length with q | q
    · rw [child_at hp i q] at hi
      by_cases h : i = p
      · rw [if_pos h] at hi; cases hi
        exact h ▸ g.wf.par p np hp c hc
      · rw [if_neg h] at hi
        exact g.wf.par i n hi c hc
    · have e1 : i = T.ns.length := by (k_extra "MY om")
      subst e1
      rw [child_last hp] at hi; cases hi
      rw [hn.par] at hc; cases hc
      exact get_lt hp
  · rcases child_mem hp h with h | rfl | rfl
    · exact g.bare.ns n h
    · exact g.bare.ns np hpm
    · exact hn.ns
  · rcases child_mem hp h with h | rfl | rfl
    · exact g.bare.at' n h
    · exact g.bare.at' np hpm
    · exact hn.at'
  · rw [child_len]
    rcases child_mem hp h with h | rfl | rfl
    · have := g.short n h; (k_extra "MY om")
    · have := g.short np hpm; simp only [NR.addCh, List.length_append, List.length_cons, List.length_nil]; (k_extra "MY om")
    · rw [hn.ch]; simp
/-- the places with children are elements or the root -/
def PT.Kin (T : PT) : Prop := ∀ n ∈ T.ns, n.ch ≠ [] → n.kind = "root" ∨ n.kind = "element"
/-- the tree that is copied -/
structure PT.Src (T : PT) : Prop where
  good : T.Good
  inc : T.Inc
  kin : T.Kin
  nine : T.ns.length ≤ 9
/-- the shape of a place of the tree that is copied -/
def PT.S0 (T : PT) (c : Nat) : PyData := T.sh (fun _ => []) 600 c
theorem S0_eq {T : PT} (g : T.Good) (h9 : T.ns.length ≤ 9) {c : Nat} {n : NR} (hc : T.ns[c]? = some n) : T.S0 c = .tuple [.str n.kind, .str n.name, .str n.value, .list ((n.ch.map (·.1)).map T.S0)] := by
  unfold PT.S0
  rw [PT.sh_succ hc, List.append_nil, List.map_map]
  have : n.ch.map (fun d => T.sh (fun _ => []) 599 d.1) = n.ch.map ((fun c => T.sh (fun _ => []) 600 c) ∘ (·.1)) := List.map_congr_left fun d hd => by
    have := g.wf.ch c n hc d hd
    exact PT.sh_fuel g.wf.ch _ _ _ (by (k_extra "MY om")) (by (k_extra "MY om")) this.2
  rw [this]
abbrev PR := (Nat × Tok) × (Nat × Tok)
def pairs (ls : List PR) : List (Nat × Nat) := ls.map fun x => (x.1.1, x.2.1)
/-- places with all that is beneath them -/
def Dom (T0 : PT) (X : List Nat) : Prop := ∀ i ∈ X, ∀ n, T0.ns[i]? = some n → ∀ d ∈ n.ch, d.1 ∈ X
/-- the copy of c0 into p0, under way -/
structure CI (T0 : PT) (X : List Nat) (Ts : PT) (c0 p0 : Nat) (T : PT) (ls : List PR) : Prop where
  ext0 : Ext T0 T
  exts : Ext Ts T
  good : T.Good
  src : ∀ x ∈ ls, x.1.1 < T0.ns.length ∧ x.1.1 ∈ X
  at' : ∀ x ∈ ls, ∃ n, T.ns[x.2.1]? = some n ∧ (n.kind = "root" ∨ n.kind = "element")
  size : T.ns.length + wts T0.ns.length (ls.map (·.1)) ≤ Ts.ns.length + 2 ^ (T0.ns.length - 1 - c0)
  sh : ∀ pd : Nat → List PyData, (∀ j, Ts.ns.length ≤ j → pd j = []) → T.sh (pendL T0.S0 (pairs ls) pd) 600 0 = Ts.sh (addP p0 (T0.S0 c0) pd) 600 0
theorem CI.start {T0 : PT} {X : List Nat} {Ts : PT} {c0 p0 : Nat} {tc tp : Tok} {np : NR} (h0 : Ext T0 Ts) (g : Ts.Good) (hc : c0 < T0.ns.length) (hX : c0 ∈ X) (hp : Ts.ns[p0]? = some np) (hk : np.kind = "root" ∨ np.kind = "element") : CI T0 X Ts c0 p0 Ts [((c0, tc), (p0, tp))] where
  ext0 := h0
  exts := Ext.refl _
  good := g
  src := fun x hx => by obtain rfl := List.mem_singleton.mp hx; exact ⟨hc, hX⟩
  at' := fun x hx => by obtain rfl := List.mem_singleton.mp hx; exact ⟨np, hp, hk⟩
  size := by simp [wts]
  sh := fun pd _ => rfl
theorem CI.step {T0 : PT} {X : List Nat} {Ts : PT} {c0 p0 : Nat} {T : PT} {ls : List PR} {c a : Nat × Tok} (S : T0.Src) (dm : Dom T0 X) (I : CI T0 X Ts c0 p0 T (ls ++ [(c, a)])) {nc na n' : NR} {e : Nat} {t8 t9 ta : Tok} (hc0 : c0 < T0.ns.length) (hN : Ts.ns.length ≤ 300) (hpos : 0 < Ts.ns.length)
    (hc : T0.ns[c.1]? = some nc) (ha : T.ns[a.1]? = some na) {uri loc : Str} (hn : n'.Is nc.kind nc.name uri loc nc.value (some (a.1, ta))) :
    CI T0 X Ts c0 p0 (T.child e n' a.1 na t9) (ls ++ nc.ch.reverse.map fun d => (d, (T.ns.length, t8))) := by
  have hx := child_ext (e := e) (n' := n') (t9 := t9) ha
  have hw := PT.wt_ch S.good.wf S.inc hc
  have hsz := I.size
  rw [List.map_append, wts_append] at hsz
  simp only [List.map_cons, List.map_nil, wts, Nat.add_zero] at hsz
  have p9 := pow9 (N0 := T0.ns.length) (i0 := c0) S.nine
  have hal := get_lt ha
  refine ⟨I.ext0.trans hx, I.exts.trans hx, child_good I.good ha hn, fun x hx => ?_, fun x hx => ?_, ?_, fun pd hpd => ?_⟩
  · rcases List.mem_append.mp hx with hx | hx
    · exact I.src x (List.mem_append_left _ hx)
    · obtain ⟨d, hd, rfl⟩ := List.mem_map.mp hx
      exact ⟨(S.good.wf.ch _ _ hc d (List.mem_reverse.mp hd)).2, dm _ (I.src (c, a) (List.mem_append_right _ (.head _))).2 _ hc d (List.mem_reverse.mp hd)⟩
  · rcases List.mem_append.mp hx with h | h
    · obtain ⟨n, h1, h2⟩ := I.at' x (List.mem_append_left _ h)
      obtain ⟨n2, h3, h4⟩ := (child_ext (e := e) (n' := n') (t9 := t9) ha).get _ _ h1
      exact ⟨n2, h3, by rw [h4.kind]; exact h2⟩
    · obtain ⟨d, hd, rfl⟩ := List.mem_map.mp h
      exact ⟨n', child_last ha, by rw [hn.kind]; exact S.kin nc (List.mem_of_getElem? hc) fun q => by rw [q] at hd; cases hd⟩
  · rw [child_len, List.map_append, wts_append, List.map_map]
    have : nc.ch.reverse.map ((fun x : PR => x.1) ∘ fun d => (d, (T.ns.length, t8))) = nc.ch.reverse := by
      have : ((fun x : PR => x.1) ∘ fun d => (d, (T.ns.length, t8))) = id := rfl
      rw [this, List.map_id]
    rw [this, wts_reverse]
    (k_extra "MY om")
  · rw [← I.sh pd hpd]
    have hps : pairs (ls ++ nc.ch.reverse.map fun d => (d, (T.ns.length, t8))) = pairs ls ++ (nc.ch.map (·.1)).reverse.map fun d => (d, T.ns.length) := by
      simp [pairs, List.map_map, Function.comp_def]
    have hps2 : pairs (ls ++ [(c, a)]) = pairs ls ++ [(c.1, a.1)] := by simp [pairs]
    rw [hps, hps2, pendL_push, pendL_snoc]
    have hlen : T.ns.length ≤ 556 := by (k_extra "MY om")
    rw [head_step I.good.wf.ch ha hn _ 600 0 (by (k_extra "MY om")) (by have := I.exts.len; (k_extra "MY om"))]
    refine PT.sh_congr I.good.wf.ch (fun j hj => ?_) _ _
    have hne : j ≠ T.ns.length := by (k_extra "MY om")
    have hoff : pendL T0.S0 (pairs ls) pd T.ns.length = [] := by
      rw [pendL_off _ fun x hx => ?_]
      · exact hpd _ I.exts.len
      · obtain ⟨y, hy, rfl⟩ := List.mem_map.mp hx
        obtain ⟨n, h1, _⟩ := I.at' y (List.mem_append_left _ hy)
        have := get_lt h1
        dsimp only; (k_extra "MY om")
    have hS := S0_eq S.good S.nine hc
    simp only [addP, if_neg hne, if_true, hoff, List.append_nil, ← hS]
set_option linter.unusedVariables false
theorem perm1 {α : Type} (p : α) (B C : List α) : (p :: (B ++ C)).Perm (B ++ (p :: C)) := List.perm_append_comm_assoc [p] B C
theorem perm2 {α : Type} (p q : α) (B C : List α) : (p :: q :: (B ++ C)).Perm (B ++ (p :: q :: C)) := List.perm_append_comm_assoc [p, q] B C
theorem perm3 {α : Type} (p q r : α) (B C : List α) : (p :: q :: r :: (B ++ C)).Perm (B ++ (p :: q :: r :: C)) := List.perm_append_comm_assoc [p, q, r] B C
theorem News.pm {g h : Heap} {L : Addr} {l l' : List (Addr × Obj)} (N : News g L h l) (p : l.Perm l') : News g L h l' := News.of_sub N fun q hq => p.mem_iff.mpr hq
theorem ND.perm {l l' : List (Addr × Obj)} (n : ND l) (p : l.Perm l') : ND l' := (p.map Prod.fst).nodup_iff.mp n
theorem nd_ne {a : Addr} {o : Obj} {l : List (Addr × Obj)} (h : ∀ p ∈ l, p.1 ≠ a) (n : ND l) : ND ((a, o) :: l) := by
  refine List.nodup_cons.mpr ⟨fun hm => ?_, n⟩
  obtain ⟨p, hp, e⟩ := List.mem_map.mp hm
  exact h p hp e
theorem nd_head {a : Addr} {o : Obj} {l : List (Addr × Obj)} (n : ND ((a, o) :: l)) : ∀ p ∈ l, p.1 ≠ a := fun p hp e => (List.nodup_cons.mp n).1 (List.mem_map.mpr ⟨p, hp, e⟩)
theorem nd_tail {a : Addr × Obj} {l : List (Addr × Obj)} (n : ND (a :: l)) : ND l := (List.nodup_cons.mp n).2
/-- an entry of the list of what is left: where the pair stands, what is copied, beneath what -/
abbrev LE := Addr × PR
abbrev tupObj (vs : List Value) : Obj := { cls := .type "tuple", data := .seq vs.toArray }
def lobjs (ps : List LE) : List (Addr × Obj) := ps.map fun p => (p.1, tupObj [nv p.2.1, nv p.2.2])
def lrefs (ps : List LE) : List Value := ps.map fun p => .ref p.1
theorem lobjs_snoc (ps : List LE) (p : LE) : lobjs (ps ++ [p]) = lobjs ps ++ [(p.1, tupObj [nv p.2.1, nv p.2.2])] := by simp [lobjs]
theorem lrefs_snoc (ps : List LE) (p : LE) : lrefs (ps ++ [p]) = lrefs ps ++ [.ref p.1] := by simp [lrefs]
section
variable {w : World} {A : Around} {h₀ : Heap} {L : Addr} {m : Str → Option Value} {env : Env}
/-- a list of pairs, one for each place of a row -/
theorem comp_pairs {scope : Scope} {cl : List (Str × Addr)} {x : Str} {elt : PySem.Expr} {done : Nat → Addr → List Value → Nat → List (Addr × Obj) → (Nat → List Value → List (Addr × Obj) → Prop) → Shared → Heap → Nat → Prop} {s₁ : Shared} {l c : Addr} {cs : List (Nat × Tok)} {a : Nat × Tok} {news : List (Addr × Obj)}
    (F : Fr h₀ L s₁.heap m) (N : News h₀ L s₁.heap news) (hm : (l, listOf (cs.map nv).toArray c) ∈ news) (hnd : ND news) (hz : cs.length ≤ 1000)
    (turn : ∀ (v : Nat × Tok) C I D oC oI oD m₂ h tk news' E', Fr h₀ L h m → News h₀ L h ((C, oC) :: (I, oI) :: (D, oD) :: (news' ++ news)) → LCg.NsObj oC m₂ → m₂ x = some (nv v) →
      wpAny (model PG w) A (eval elt (compEnvC scope cl C env)) (fun y s₃ => ∃ h' tk' t, y = .ref t ∧ s₃ = { s₁ with heap := h', toks := tk' } ∧ Fr h₀ L h' m ∧ News h₀ L h' ((t, tupObj [nv v, nv a]) :: (C, oC) :: (I, oI) :: (D, oD) :: (news' ++ news)) ∧
        ∀ p ∈ ((C, oC) :: (I, oI) :: (D, oD) :: (news' ++ news) : List (Addr × Obj)), p.1 < t) E' { s₁ with heap := h, toks := tk })
    (fin : ∀ J D ps k h' tk, ps.map (·.2) = cs.map (fun v => (v, a)) → ND ((D, listOf (lrefs ps).toArray k) :: (lobjs ps ++ news)) → News h₀ L h' ((D, listOf (lrefs ps).toArray k) :: (lobjs ps ++ news)) → done cs.length D (lrefs ps) k (lobjs ps ++ news) J s₁ h' tk) :
    CompAtL PG w A h₀ L m env scope cl x elt done (.ref l) s₁ := by
  refine ⟨l, cs.map nv, c, news, fun i ys news' => ∃ ps : List LE, ps.map (·.2) = (cs.take i).map (fun v => (v, a)) ∧ ys = lrefs ps ∧ news' = lobjs ps ++ news ∧ ND news', rfl, ?_, F, N, ?_, ?_, ?_, ?_⟩
  · rw [List.length_map, PySem.sizeLine_eq]; (k_extra "MY om")
  · rintro i ys news' ⟨ps, _, _, rfl, _⟩
    exact .inl (List.mem_append_right _ hm)
  · exact ⟨[], rfl, rfl, rfl, hnd⟩
  · rintro C I D i v ys news₁ h tk oC oI oD m₂ E' blk hv ⟨ps, hps, rfl, rfl, nd⟩ ap F' N' hC hx
    obtain ⟨c', hc', rfl⟩ : ∃ c', cs[i]? = some c' ∧ nv c' = v := by
      rw [List.getElem?_map] at hv
      cases hq : cs[i]? with
      | none => rw [hq] at hv; cases hv
      | some c' => rw [hq] at hv; exact ⟨c', rfl, Option.some.inj hv⟩
    refine wpAny_mono (turn c' C I D oC oI oD m₂ h tk (lobjs ps) E' F' N' hC hx) (fun y s₃ => ?_) fun _ _ e => e
    rintro ⟨h', tk', t, rfl, rfl, F'', N'', hlt⟩
    have hnew : ∀ p ∈ lobjs ps ++ news, p.1 < t := fun p hp => hlt p (.tail _ (.tail _ (.tail _ hp)))
    have pm : ((t, tupObj [nv c', nv a]) :: (lobjs ps ++ news)).Perm (lobjs (ps ++ [(t, (c', a))]) ++ news) := by
      rw [lobjs_snoc, List.append_assoc]; exact perm1 _ _ _
    refine ⟨h', tk', lobjs (ps ++ [(t, (c', a))]) ++ news, rfl, F'', News.of_sub N'' fun q hq => ?_, fun p hp => ?_, ps ++ [(t, (c', a))], ?_, by rw [lrefs_snoc], rfl, ?_⟩
    · simp only [List.mem_cons] at hq ⊢
      rcases hq with h | h | h | h
      · exact .inr (.inl h)
      · exact .inr (.inr (.inl h))
      · exact .inr (.inr (.inr (.inl h)))
      · rcases List.mem_cons.mp (pm.mem_iff.mpr h) with h | h
        · exact .inl h
        · exact .inr (.inr (.inr (.inr h)))
    · rcases List.mem_cons.mp (pm.mem_iff.mpr hp) with h | h
      · subst h
        exact ⟨(Nat.ne_of_lt (hlt (C, oC) (.head _))).symm, (Nat.ne_of_lt (hlt (I, oI) (.tail _ (.head _)))).symm, (Nat.ne_of_lt (hlt (D, oD) (.tail _ (.tail _ (.head _))))).symm⟩
      · exact ap p h
    · rw [List.map_append, hps, List.take_add_one, hc']; simp
    · exact ND.perm (nd_ne (fun p hp => Nat.ne_of_lt (hnew p hp)) nd) pm
  · rintro D ys k news' h' tk hD0 hne ⟨ps, hps, rfl, rfl, nd⟩ hlen N'
    rw [List.length_map, List.take_length] at hps
    have := fin (fun i ys news' => ∃ ps : List LE, ps.map (·.2) = (cs.take i).map (fun v => (v, a)) ∧ ys = lrefs ps ∧ news' = lobjs ps ++ news ∧ ND news') D ps k h' tk hps (nd_ne hne nd) N'
    rw [List.length_map]
    exact this
end
theorem putsL_three {x1 x2 x3 : Str} {a b c a' b' c' : Value} {M : Str → Option Value} : putsL [(x1, a), (x2, b), (x3, c), (x1, a'), (x2, b'), (x3, c')] M = putsL [(x1, a), (x2, b), (x3, c)] M := by
  funext y; simp only [putsL]; by_cases h : y = x1 <;> by_cases h2 : y = x2 <;> by_cases h3 : y = x3 <;> simp [h, h2, h3]
theorem putsL_three' {x1 x2 x3 : Str} {a b c a' : Value} {M : Str → Option Value} : putsL [(x1, a), (x2, b), (x3, c), (x1, a')] M = putsL [(x1, a), (x2, b), (x3, c)] M := by
  funext y; simp only [putsL]; by_cases h : y = x1 <;> by_cases h2 : y = x2 <;> by_cases h3 : y = x3 <;> simp [h, h2, h3]
theorem cut_stmt {M : Model} {A : Around} {E : Value → Shared → Prop} {Q : Flow → Shared → Prop} {t : Sem Flow} {s : Shared} {g h₁ : Heap} {L : Addr} {m : Str → Option Value} {news : List (Addr × Obj)} (F : Fr g L h₁ m) (N : News g L h₁ news)
    (h1 : wpAny M A t (fun f s' => f = .next ∧ ∃ h tk, s' = { s with heap := h, toks := tk } ∧ Fr g L h m ∧ News g L h news) E s) (h2 : ∀ h tk, Fr g L h m → News g L h news → Q .next { s with heap := h, toks := tk }) : wpAny M A t Q E s :=
  wpAny_mono h1 (fun f s' => by rintro ⟨rfl, h, tk, rfl, F', j⟩; exact h2 h tk F' j) fun _ _ e => e
/-- walk on -/
def Go : Prop := True
theorem item_dictI {w : World} {A : Around} {E : Value → Shared → Prop} {s : Shared} {h₀ : Heap} {L d : Addr} {news : List (Addr × Obj)} {o : Obj} {kvs : List (Int × Value)} {value slice : PySem.Expr} {k : Int} {u : Tok} {v : Value} {Q : Value → Shared → Prop}
    (N : News h₀ L s.heap news) (hm : (d, o) ∈ news) (hd : o.IsDictOf (PySem.intKind PG w) kvs) (hv : valueAt kvs k = some v) (h : Q v { s with toks := s.toks + 1 })
    (hs : subscripted slice false (.ref d) (.int k u) = operate [.ref d, .int k u] (getItem (.ref d) (.int k u)) := by with_unfolding_all rfl) :
    wpAny (model PG w) A (subscriptTail value slice (.ref d) (.int k u)) Q E s := by
  have hD : s.heap.DictOf (PySem.intKind PG w) d kvs := Heap.dictOf_iff.mpr ⟨o, (N _ hm).1, hd⟩
  exact tail_any hD.typeIs slot_dict_getitem.lookup (wpAny_getItem_of (intKind_is _ _ _ _) hD.mapOf hv h) hs
/-- the table of the children of the places of X -/
def InnerD (w : World) (T0 : PT) (X : List Nat) (lm : List (Addr × Obj)) (kvs : List (Int × Value)) : Prop :=
  ∀ i ∈ X, ∀ n, T0.ns[i]? = some n → ∃ x e, valueAt kvs (i : Int) = some (.ref x) ∧ (x, listOf (n.ch.map nv).toArray e) ∈ lm
theorem at_mem {T : PT} {P : Params} {h₀ h : Heap} {L : Addr} {news : List (Addr × Obj)} (N : News h₀ L h news) (hs : ∀ q ∈ T.objs P, q ∈ news) (hl : T.ns.length ≤ 1000) (hb : ∀ n ∈ T.ns, n.ch.length ≤ 1000 ∧ n.at'.length ≤ 1000 ∧ n.ns.length ≤ 1000) : T.At P h := ⟨fun q hq => (N q (hs q hq)).1, hl, hb⟩
theorem PT.Good.room {T : PT} (g : T.Good) (h : T.ns.length ≤ 900) : ∀ n ∈ T.ns, n.ch.length ≤ 1000 ∧ n.at'.length ≤ 1000 ∧ n.ns.length ≤ 1000 := fun n hn => by
  have := (g.small h).2 n hn; (k_extra "MY om")
section
variable {prog : Program} {w : World} {A : Around} {E : Value → Shared → Prop} {s : Shared} {h₀ : Heap} {L a b : Addr} {m : Str → Option Value} {news : List (Addr × Obj)} {ca cb : Nat} {xs ys : List Value} {Q : Value → Shared → Prop}
theorem cat_any (F : Fr h₀ L s.heap m) (N : News h₀ L s.heap news) (ha : (a, listOf xs.toArray ca) ∈ news) (hb : (b, listOf ys.toArray cb) ∈ news)
    (h : ∀ D h', Fr h₀ L h' m → News h₀ L h' ((D, listOf (xs ++ ys).toArray 0) :: news) → (∀ p ∈ news, p.1 < D) → Q (.ref D) { s with heap := h' })
    (hx : xs.length ≤ 1000) (hy : ys.length ≤ 1000) : wpAny (model prog w) A (binaryOp .Add (.ref a) (.ref b)) Q E s :=
  add_lists F N (News.isList N ha) (News.isList N hb) (fun h' F' N' => h _ h' F' N' fun p hp => Heap.lt_size (N p hp).1) (by rw [PySem.sizeLine_eq]; (k_extra "MY om"))
end
theorem ldg_snoc {g h : Heap} {L : Addr} {c2 c1 d y : Addr × Obj} {B X : List (Addr × Obj)} (N : News g L h (c2 :: c1 :: d :: ((B ++ [y]) ++ X))) (nd : ND (c2 :: c1 :: d :: ((B ++ [y]) ++ X))) :
    News g L h (c2 :: c1 :: d :: y :: (B ++ X)) ∧ ND (c2 :: c1 :: d :: y :: (B ++ X)) := by
  have pm : (c2 :: c1 :: d :: ((B ++ [y]) ++ X)).Perm (c2 :: c1 :: d :: y :: (B ++ X)) := by
    refine .cons _ (.cons _ (.cons _ ?_))
    rw [List.append_assoc]
    exact (perm1 y B X).symm
  exact ⟨News.pm N pm, ND.perm nd pm⟩
/-- the ledger of the loop of copy_child -/
theorem ldg_start {g h : Heap} {L : Addr} {ds c2 c1 d : Addr × Obj} {B X : List (Addr × Obj)} (N : News g L h (d :: (B ++ ds :: c2 :: c1 :: X))) (nd : ND (d :: (B ++ ds :: c2 :: c1 :: X))) :
    News g L h (c2 :: c1 :: d :: (B ++ X)) ∧ ND (c2 :: c1 :: d :: (B ++ X)) := by
  have pm : (d :: (B ++ ds :: c2 :: c1 :: X)).Perm (ds :: c2 :: c1 :: (d :: (B ++ X))) := (perm3 ds c2 c1 (d :: B) X).symm
  exact ⟨News.of_sub (News.pm N pm) fun q hq => .tail _ hq, nd_tail (ND.perm nd pm)⟩
theorem ldg_call {g h : Heap} {L : Addr} {l c2 c1 d y : Addr × Obj} {o : Obj} {B Tx X : List (Addr × Obj)} (N : News g L h (l :: c2 :: c1 :: (d.1, o) :: y :: (B ++ (Tx ++ X)))) (nd : ND (c2 :: c1 :: d :: y :: (B ++ (Tx ++ X)))) :
    News g L h (Tx ++ (c2 :: c1 :: (d.1, o) :: (B ++ X))) ∧ ND (Tx ++ (c2 :: c1 :: (d.1, o) :: (B ++ X))) := by
  have pm : (c2 :: c1 :: (d.1, o) :: (B ++ (Tx ++ X))).Perm (Tx ++ (c2 :: c1 :: (d.1, o) :: (B ++ X))) := List.perm_append_comm_assoc (c2 :: c1 :: (d.1, o) :: B) Tx X
  refine ⟨News.pm (News.of_sub N fun q hq => ?_) pm, ND.perm ?_ pm⟩
  · simp only [List.mem_cons] at hq ⊢
    rcases hq with h | h | h | h <;> simp [h]
  · have p2 : (c2 :: c1 :: d :: y :: (B ++ (Tx ++ X))).Perm (y :: c2 :: c1 :: d :: (B ++ (Tx ++ X))) := (List.perm_append_comm_assoc [c2, c1, d] [y] (B ++ (Tx ++ X)))
    have q := nd_tail (ND.perm nd p2)
    exact q
theorem ldg_back {g h : Heap} {L : Addr} {c2 c1 d : Addr × Obj} {B Tx X : List (Addr × Obj)} (N : News g L h (Tx ++ (c2 :: c1 :: d :: (B ++ X)))) (nd : ND (Tx ++ (c2 :: c1 :: d :: (B ++ X)))) :
    News g L h (c2 :: c1 :: d :: (B ++ (Tx ++ X))) ∧ ND (c2 :: c1 :: d :: (B ++ (Tx ++ X))) := by
  have pm : (c2 :: c1 :: d :: (B ++ (Tx ++ X))).Perm (Tx ++ (c2 :: c1 :: d :: (B ++ X))) := List.perm_append_comm_assoc (c2 :: c1 :: d :: B) Tx X
  exact ⟨News.pm N pm.symm, ND.perm nd pm.symm⟩
/-- the lists of the loop put together -/
theorem ldg_loop {g h : Heap} {L : Addr} {f e ds c2 c1 d : Addr × Obj} {B B2 X : List (Addr × Obj)} (N : News g L h (f :: e :: (B2 ++ (ds :: c2 :: c1 :: d :: (B ++ X))))) (nf : ∀ p ∈ (e :: (B2 ++ (ds :: c2 :: c1 :: d :: (B ++ X))) : List (Addr × Obj)), p.1 < f.1) (nd : ND (e :: (B2 ++ (ds :: c2 :: c1 :: d :: (B ++ X))))) :
    News g L h (c2 :: c1 :: f :: ((B ++ B2) ++ X)) ∧ ND (c2 :: c1 :: f :: ((B ++ B2) ++ X)) := by
  have pm : (f :: e :: (B2 ++ (ds :: c2 :: c1 :: d :: (B ++ X)))).Perm (e :: ds :: d :: (c2 :: c1 :: f :: ((B ++ B2) ++ X))) := by
    have h1 : (f :: e :: (B2 ++ (ds :: c2 :: c1 :: d :: (B ++ X)))).Perm ([f, e] ++ ([ds, c2, c1, d] ++ (B2 ++ (B ++ X)))) := .cons _ (.cons _ (List.perm_append_comm_assoc B2 [ds, c2, c1, d] (B ++ X)))
    have h2 : (B2 ++ (B ++ X)).Perm ((B ++ B2) ++ X) := by rw [← List.append_assoc]; exact List.perm_append_comm.append_right X
    have h3 : ([f, e] ++ ([ds, c2, c1, d] ++ (B2 ++ (B ++ X)))).Perm ([f, e, ds, c2, c1, d] ++ ((B ++ B2) ++ X)) := List.Perm.append_left [f, e, ds, c2, c1, d] h2
    have h4 : ([f, e, ds, c2, c1, d] ++ ((B ++ B2) ++ X)).Perm ([e, ds, d, c2, c1, f] ++ ((B ++ B2) ++ X)) := by
      refine List.Perm.append_right _ ?_
      exact (List.Perm.swap e f [ds, c2, c1, d]).trans (.cons e ((List.Perm.swap ds f [c2, c1, d]).trans (.cons ds ((List.perm_append_comm (l₁ := [f, c2, c1]) (l₂ := [d])).trans (.cons d ((List.Perm.swap c2 f [c1]).trans (.cons c2 (List.Perm.swap c1 f [])))) ))))
    exact (h1.trans h3).trans h4
  have ndf : ND (f :: e :: (B2 ++ (ds :: c2 :: c1 :: d :: (B ++ X)))) := nd_ne (a := f.1) (o := f.2) (fun p hp => Nat.ne_of_lt (nf p hp)) nd
  exact ⟨News.of_sub (News.pm N pm) fun q hq => .tail _ (.tail _ (.tail _ hq)), nd_tail (nd_tail (nd_tail (ND.perm ndf pm)))⟩
theorem lrefs_app (a b : List LE) : lrefs (a ++ b) = lrefs a ++ lrefs b := by simp [lrefs]
theorem lobjs_app (a b : List LE) : lobjs (a ++ b) = lobjs a ++ lobjs b := by simp [lobjs]
theorem wts_loop {N0 : Nat} {pp ps8 : List LE} {ad : Addr} {c : Nat} {tc : Tok} {a u : Nat × Tok} {l : List (Nat × Tok)} (h : ps8.map (·.2) = l.reverse.map (fun v => (v, u))) (hw : wts N0 l + 1 ≤ 2 ^ (N0 - 1 - c)) :
    wts N0 (((pp ++ ps8).map (·.2)).map (·.1)) < wts N0 (((pp ++ [(ad, ((c, tc), a))]).map (·.2)).map (·.1)) := by
  have e : (l.reverse.map (fun v => (v, u))).map (·.1) = l.reverse := by rw [List.map_map]; exact List.map_id _
  rw [List.map_append, List.map_append, h, e, List.map_append, List.map_append, wts_append, wts_append, wts_reverse]
  simp only [List.map_cons, List.map_nil, wts]
  (k_extra "MY om")
set_option linter.unusedVariables false
theorem words_21 : True := by
  k_with "OFF 20" => (skip)
  k_with "MY enterC" => ((fail_if_success k_extra "OFF 25"); (refine wpAny_call ?_; with_unfolding_all (refine' code_defC ?k1ₘ ?k2ₘ ?k3ₘ ?k4ₘ ?k5ₘ ?kAₘ ?kFₘ ?kKₘ ?k6ₘ ?k7ₘ ?k8ₘ ?k9ₘ ?kBₘ ?kDₘ ?_ ?c2ₘ ?c3ₘ ?c4ₘ; (case kAₘ => exact rfl); (case kFₘ => exact rfl); (case kKₘ => assumption); (case k1ₘ => k_asm); (case k2ₘ => k_asm); (case k3ₘ => k_asm); (case k4ₘ => k_asm); (case k5ₘ => k_asm); (case k6ₘ => k_is); (case k7ₘ => k_is); (case k8ₘ => ((try dsimp only [ktrTop]); (k_extra "MY om"))); (case k9ₘ => exact BindsTo.of_eq rfl); (case kBₘ => exact rfl); (case kDₘ => decide +kernel); (case c2ₘ => exact rfl); (case c3ₘ => exact rfl); (case c4ₘ => exact rfl); k_whole)))
  k_with "MY lsize" => ((fail_if_success k_extra "OFF 29"); (first | (simp only [List.size_toArray, List.length_map, List.length_reverse, Array.size_push, List.length_append, List.length_cons, List.length_nil, PySem.sizeLine_eq]; (k_extra "MY om")) | (k_extra "MY om")))
  k_with "subscriptTail Name Slice ref ref" => ((fail_if_success k_extra "OFF 25"); (k_here; k_dflt (refine' rev_any ?wFₘ ?wNₘ ?wlₘ ?wkₘ ?_ ?wsₘ ?wtₘ ?wzₘ; (case wFₘ => k_asm); (case wNₘ => k_asm); (case wlₘ => exact News.isList (by k_asm) (by k_extra "MY in")); (case wkₘ => exact IsPart.int _ _); (case wsₘ => with_unfolding_all rfl); (case wtₘ => (intro _; with_unfolding_all rfl)); (case wzₘ => k_extra "MY lsize")); (intros D'ₘ h'ₘ; intro F'ₘ N'ₘ l1ₘ); (try dsimp only at N'ₘ); (try k_lt l1ₘ)))
  k_with "compareOp NotEq ref ref" => ((fail_if_success k_extra "OFF 25"); (k_here; k_dflt (first | (refine' ne_snoc ?wNₘ ?waₘ ?wbₘ ?wuₘ ?_; (case wNₘ => k_asm); (case waₘ => k_extra "MY in"); (case wbₘ => k_extra "MY in"); (case wuₘ => ((try dsimp only [ktrTop, Around.deeper]); (k_extra "MY om")))) | (refine' ne_nil ?wNₘ ?waₘ ?wbₘ ?wuₘ ?_; (case wNₘ => k_asm); (case waₘ => k_extra "MY in"); (case wbₘ => k_extra "MY in"); (case wuₘ => ((try dsimp only [ktrTop, Around.deeper]); (k_extra "MY om")))))))
  k_with "call builtin:list.pop" => ((fail_if_success k_extra "OFF 25"); (k_here; k_dflt (refine' pop_snoc ?wFₘ ?wNₘ ?wUₘ ?wzₘ ?_; (case wFₘ => k_asm); (case wNₘ => k_asm); (case wUₘ => k_upd); (case wzₘ => k_extra "MY lsize")); intro h'ₘ F'ₘ N'ₘ))
  k_with "call builtin:list.extend" => ((fail_if_success k_extra "OFF 25"); (k_here; k_dflt (refine' extend_any ?wFₘ ?wNₘ ?wbₘ ?wUₘ ?wxₘ ?wyₘ ?_; (case wFₘ => k_asm); (case wNₘ => k_asm); (case wbₘ => k_extra "MY in"); (case wUₘ => k_upd); (case wxₘ => k_extra "MY lsize"); (case wyₘ => k_extra "MY lsize")); intro h'ₘ F'ₘ N'ₘ))
  k_with "call builtin:list.append" => ((fail_if_success k_extra "OFF 25"); (k_here; (with_reducible show wpAny _ _ (call (Value.builtin _) [Value.ref _, _]) _ _ _); k_dflt (refine' append_K ?k1ₘ ?k2ₘ ?k3ₘ ?_ ?wzₘ; (case k1ₘ => k_asm); (case k2ₘ => k_asm); (case k3ₘ => k_upd); (case wzₘ => k_extra "MY lsize"); k_whole); intro h'ₘ F'ₘ N'ₘ))
  k_with "exec While Compare cons nil" => ((fail_if_success k_extra "OFF 29"); refine halt_of ?_)
  trivial
section
theorem words_22 : True := by
  k_with "OFF 21" => (skip)
  k_with "exec If Compare cons nil" => ((fail_if_success k_extra "OFF 22"); ((fail_if_success (have _gₘ : Go := by assumption)); refine halt_of ?_))
  k_with "MY k_all" => ((fail_if_success k_extra "OFF 22"); assumption)
  k_with "MY in" => ((fail_if_success k_extra "OFF 22"); (repeat (first | assumption | with_reducible exact List.mem_cons_self | with_reducible refine List.mem_cons_of_mem _ ?_ | with_reducible refine List.mem_append_right _ ?_)))
  k_with "eval Name" => ((fail_if_success k_extra "OFF 22"); ((with_reducible show wpAny _ _ (eval (Expr.Name _ _) (compEnvC _ _ _ _)) _ _ _); k_dflt (first | (refine' LCgL.ld_own ?Nₘ ?mₘ ?Cₘ ?xₘ ?_; (case Nₘ => k_asm); (case mₘ => k_extra "MY in"); (case Cₘ => assumption); (case xₘ => assumption)) | (refine' lcf_cell ?Nₘ ?cₘ ?mₘ ?dₘ ?_ ?aₘ ?bₘ; (case aₘ => rfl); (case bₘ => rfl); (case Nₘ => k_asm); (case cₘ => rfl); (case mₘ => k_extra "MY in"); (case dₘ => assumption); k_whole) | (refine' lcf_free ?Nₘ ?cₘ ?mₘ ?dₘ ?_ ?aₘ ?bₘ; (case aₘ => rfl); (case bₘ => rfl); (case Nₘ => k_asm); (case cₘ => rfl); (case mₘ => k_extra "MY in"); (case dₘ => assumption); k_whole))))
  k_with "MY rp" => ((fail_if_success k_extra "OFF 22"); (case kpₘ => exact at_mem (by k_asm) (by intro qₘ hqₘ; simp only [List.mem_append, List.mem_cons, hqₘ, true_or, or_true]) (by (k_extra "MY om")) (by assumption)))
  k_with "subscriptTail Name Name ref int" => ((fail_if_success k_extra "OFF 22"); (k_dflt (refine' item_dictI ?Nₘ ?mₘ ?dₘ ?vₘ ?_ ?sₘ; (case Nₘ => k_asm); (case mₘ => k_extra "MY in"); (case dₘ => assumption); (case vₘ => assumption); (case sₘ => with_unfolding_all rfl))))
  k_with "binaryOp Add ref ref" => ((fail_if_success k_extra "OFF 22"); (k_here; k_dflt (refine' cat_any ?wFₘ ?wNₘ ?waₘ ?wbₘ ?_ ?wxₘ ?wyₘ; (case wFₘ => k_asm); (case wNₘ => k_asm); (case waₘ => k_extra "MY in"); (case wbₘ => k_extra "MY in"); (case wxₘ => k_extra "MY lsize"); (case wyₘ => k_extra "MY lsize")); (intros D'ₘ h'ₘ; intro F'ₘ N'ₘ l1ₘ); (try k_lt l1ₘ)))
  k_with "exec Assign cons ListComp" => ((fail_if_success k_extra "OFF 22"); refine halt_of ?_)
  k_with "eval ListComp" => ((fail_if_success k_extra "OFF 22"); refine halt_of ?_)
  k_with "call ref" => ((fail_if_success k_extra "OFF 22"); first | ((with_reducible show wpAny _ _ (call (Value.ref 424) _) _ _ _); k_dflt (refine' RSpec.use2 (kind_of _ _ _ _ _ ?hkₘ) ?k1ₘ ?k2ₘ ?k3ₘ ?k4ₘ ?k5ₘ ?kKₘ ?kdₘ ?kuₘ ?kpₘ ?_; (case hkₘ => assumption); k_extra "MY rd"; k_extra "MY rp"; k_whole); (intros r9ₘ new9ₘ h9ₘ tk9ₘ; intro F9ₘ N9ₘ S9ₘ O9ₘ p9ₘ); ((injection p9ₘ with p9ₘ p9'ₘ); subst p9ₘ; subst p9'ₘ); simp only [List.nil_append] at N9ₘ; k_extra "MY use") | ((with_reducible show wpAny _ _ (call (Value.ref 42) _) _ _ _); k_dflt (refine' RSpec.use2 (scope_of_of _ _ _ _ ?hkₘ ?hwₘ ?hbₘ) ?k1ₘ ?k2ₘ ?k3ₘ ?k4ₘ ?k5ₘ ?kKₘ ?kdₘ ?kuₘ ?kpₘ ?_; (case hkₘ => assumption); (case hwₘ => assumption); (case hbₘ => assumption); k_extra "MY rd"; k_extra "MY rp"; k_whole); (intros r9ₘ new9ₘ h9ₘ tk9ₘ; intro F9ₘ N9ₘ S9ₘ O9ₘ p9ₘ); ((injection p9ₘ with x9ₘ hₜ1; (injection hₜ1 with o9ₘ hₜ2; (injection hₜ2 with p9ₘ hₜ3; (injection hₜ3 with pm9ₘ hₜ4; (injection hₜ4 with pl9ₘ pX9ₘ))))); subst p9ₘ); replace N9ₘ := News.pick N9ₘ pm9ₘ; (have l9ₘ := O9ₘ.2 _ pm9ₘ); replace O9ₘ := O9ₘ.1 _ pm9ₘ; clear pm9ₘ; k_extra "MY use") | ((with_reducible show wpAny _ _ (call (Value.ref 66) _) _ _ _); k_dflt (refine' RSpec.use2 (bring_names_of _ _ _ _ ?hkₘ ?hwₘ ?hbₘ _ _ ?hlₘ ?hXₘ) ?k1ₘ ?k2ₘ ?k3ₘ ?k4ₘ ?k5ₘ ?kKₘ ?kdₘ ?kuₘ ?kpₘ ?_; (case hkₘ => assumption); (case hwₘ => assumption); (case hbₘ => assumption); (case hlₘ => assumption); (case hXₘ => assumption); k_extra "MY rd"; (case kpₘ => exact ⟨at_mem (by k_asm) (by intro qₘ hqₘ; simp only [List.mem_append, List.mem_cons, hqₘ, true_or, or_true]) (by (k_extra "MY om")) (by assumption), News.get (by k_asm) (.head _)⟩); k_whole); (intros r9ₘ new9ₘ h9ₘ tk9ₘ; intro F9ₘ N9ₘ S9ₘ O9ₘ p9ₘ); subst p9ₘ; replace N9ₘ := News.of_sub N9ₘ (fun qₘ hqₘ => List.mem_append_right _ hqₘ); k_extra "MY use") | refine halt_of ?_)
  k_with "eval Name" => ((fail_if_success k_extra "OFF 23"); k_here; name_kind "local"; k_dflt (refine' nameX_L ?k1ₘ ?k2ₘ ?_ ?k3ₘ ?k4ₘ; (case k1ₘ => k_asm); (case k3ₘ => rfl); (case k4ₘ => rfl); (case k2ₘ => rfl); k_whole))
  trivial
set_option maxRecDepth 100000 in
set_option maxHeartbeats 8000000 in
theorem copy_child_of : ∀ (w : World) (T0 Ts : PT) (X : List Nat) (rest : List (Addr × Obj)) (c0 p0 : Nat) (n0 np : NR) (tc tp : Tok) (xi : Addr) (oi : Obj) (kvs : List (Int × Value)) (S : T0.Src) (dm : Dom T0 X) (hc : T0.ns[c0]? = some n0) (hX : c0 ∈ X) (hp : Ts.ns[p0]? = some np) (hkind : np.kind = "root" ∨ np.kind = "element") (ex : Ext T0 Ts) (g : Ts.Good) (hN : Ts.ns.length ≤ 300) (hnd : ND (Ts.objs w.params ++ rest)) (hxi : (xi, oi) ∈ rest) (hdi : oi.IsDictOf (PySem.intKind PG w) kvs) (hin : InnerD w T0 X rest kvs),
    MSpec w 59 8 [.ref Ts.b.t, .int (c0 : Int) tc, .int (p0 : Int) tp, .ref xi] (Ts.objs w.params ++ rest)
      (fun r news' => ∃ (T : PT) (t9 : Nat), r = .int (Ts.ns.length : Int) t9 ∧ CI T0 X Ts c0 p0 T [] ∧ news' = T.objs w.params ++ rest ∧ ND (T.objs w.params ++ rest)) := by
  have hEpsₑ : EpsOn 0 := ⟨True.intro⟩
  intros w T0 Ts X rest c0 p0 n0 np tc tp xi
  intros oi kvs
  intro S
  intro dm
  intro hc
  intro hX
  intro hp
  intro hkind
  intro ex
  intro g
  intro hN
  intro hnd
  intro hxi
  intro hdi
  intro hin
  (intros dp un gd cn cs a ccd cl outer A₀ base h₀ L m s p9 loose mean mg mb Q E; intro B F X0 N Tp hk9 hd hu ret)
  (injection (ex.get _ _ hc) with nc hₜ1; (injection hₜ1 with hcs hsame))
  have hsm := g.small (by (k_extra "MY om"))
  have hcm := List.mem_of_getElem? hcs
  have hb1 := g.bare.ns _ hcm
  have hb2 := g.bare.at' _ hcm
  have hclt := get_lt hcs
  have hplt := get_lt hp
  have hroom := g.room (by (k_extra "MY om"))
  k_extra "MY enterC"
  (intros g1 L' h' tk cells; intro FG F' N' Y B' X' T' l1)
  refine cells2 Y ?_; clear Y; intro o1; intro o2; refine fun hEₖ _ _ => ?_; subst hEₖ; simp only [List.cons_append, List.nil_append] at N'
  try dsimp only
  try k_fold
  k_steps
  unfold Halt
  have hr : ND (_ :: _ :: (Ts.objs w.params ++ rest)) := nd_new (a := L' + 1 + 1) (o := o1) (l := (L' + 1, o2) :: (Ts.objs w.params ++ rest)) ⟨Nat.lt_succ_self _, allLt_of fun p hp => Nat.lt_succ_of_lt (Nat.lt_succ_of_lt (l1 p hp))⟩ (nd_new (allLt_of fun p hp => Nat.lt_succ_of_lt (l1 p hp)) hnd)
  refine MSpec.use (copy_head_of w Ts (_ :: _ :: rest) c0 p0 nc np tc tp hcs hp hkind (hr.perm (perm2 _ _ _ _)) hsm hb1 hb2) B' F' X' (News.pm N' (perm2 _ _ _ _)) T' rfl (by (try dsimp only [ktrTop, Around.deeper]); (k_extra "MY om")) (by (try dsimp only [ktrTop, Around.deeper]); (k_extra "MY om")) ?_
  ((intros r news' h1 tk1; intro F1 N1); (intro hₜ2; (injection hₜ2 with n' hₜ1; (injection hₜ1 with e hₜ2; (injection hₜ2 with t9 hₜ3; (refine And.elim ?_ (hₜ3); (try clear hₜ3); intro hₜ4 hₜ5; rcases hₜ4 with rfl; (injection hₜ5 with hn' hₜ6; (refine And.elim ?_ (hₜ6); (try clear hₜ6); intro hₜ7 nd1; rcases hₜ7 with rfl))))))))
  have N2 := News.pm N1 (perm2 _ _ _ _).symm
  have nd2 := nd1.perm (perm2 _ _ _ _).symm
  clear N1 N' F' nd1 hr
  (replace hn' := hn'; rw [hsame.kind, hsame.name, hsame.value] at hn')
  have I1 := CI.step (ls := []) (T0 := T0) (X := X) (t9 := t9) (t8 := t9) (e := e) S dm (CI.start (tc := tc) (tp := tp) ex g (get_lt hc) hX hp hkind) (get_lt hc) hN (by (k_extra "MY om")) hc hp hn'
  (have hₜ9 : ∃ T1, T1 = Ts.child e n' p0 np t9 := (⟨_, rfl⟩); (injection hₜ9 with T1 hT1))
  have ht1 : Ts.b.t = T1.b.t := by rw [hT1]; rfl
  have hl1 : T1.ns.length = Ts.ns.length + 1 := by rw [hT1, child_len]
  (replace I1 := I1; replace N2 := N2; replace nd2 := nd2; rw [← hT1] at I1 N2 nd2)
  clear hT1
  (replace I1 := I1; rw [List.nil_append] at I1)
  (injection (I1.ext0.get _ _ hc) with m1 hₜ1; (injection hₜ1 with hm1 hs1))
  have wf1 := I1.good.wf
  have ba1 := I1.good.bare
  have ro1 := I1.good.room (by (k_extra "MY om"))
  have hk1 : Ts.ns.length < T1.ns.length := by (k_extra "MY om")
  have hc1 := get_lt hm1
  (injection (hin _ hX _ hc) with xc hₜ1; (injection hₜ1 with ec hₜ2; (injection hₜ2 with hval hmem)))
  have hch9 : n0.ch.length ≤ 9 := Nat.le_trans (S.good.short _ (List.mem_of_getElem? hc)) S.nine
  (replace F1 := F1; rw [ht1] at F1)
  have hu1 := nd_head (nd_tail nd2)
  have hu2 := fun p hp => nd_head nd2 p (.tail _ hp)
  k_steps
  unfold Halt
  rename (Fr _ _ _ _) => F3
  rename (News _ _ _ _) => N3
  refine cut_stmt F3 N3 ?_ ?_
  · have hgo : Go := True.intro
    k_steps
    all_goals (first | assumption | exact News.of_sub (by assumption) fun q hq => .tail _ hq)
  · clear F3 N3
    (intros h2 tk2; intro F3 N3)
    k_steps
    unfold Halt
    refine Assign_ListComp_J F3 (by with_unfolding_all rfl) rfl rfl rfl (by decide) rfl (by decide) rfl rfl rfl ?_
    k_steps
    rename (Fr _ _ _ _) => F4
    rename (News _ _ _ _) => N4
    (replace N4 := N4; rw [← List.map_reverse] at N4)
    refine comp_pairs (a := (Ts.ns.length, t9)) F4 N4 (.head _) (by exact nd_new (by assumption) nd2) (by simp; (k_extra "MY om")) ?_ ?_
    · clear F3 N3 F4 N4
      (intros v C I D oC oI oD m2 h4 tk4 newsx E'; intro F5 N5 hC hx)
      k_steps
      all_goals (first | assumption | exact fun p hp => tb_ltOf (by assumption) p hp | ((rename _ ∈ (_ :: _) => hp9); exact tb_ltOf (by assumption) _ hp9))
    · clear F3 N3 F4 N4
      (intros J D ps k h4 tk4; intro hps nd5 N5 F5)
      (injection (ldg_start N5 nd5) with N6 nd6)
      clear N5 nd5
      k_steps
      unfold Halt
      refine While_puts (fun n l news' => ∃ (D : Addr) (k : Nat) (T : PT) (ps : List LE) (o2 : Obj) (v0 : Option Value), (l = [(Str.ofString "left", .ref D)] ∨ ∃ a b, l = [(Str.ofString "left", .ref D), (Str.ofString "above", a), (Str.ofString "here", b)]) ∧
        CI T0 X Ts c0 p0 T (ps.map (·.2)) ∧ n = wts T0.ns.length ((ps.map (·.2)).map (·.1)) ∧ o2.data = .cell v0 ∧ news' = (L' + 1 + 1, o2) :: (L' + 1, _) :: (D, listOf (lrefs ps).toArray k) :: (lobjs ps ++ (T.objs w.params ++ rest)) ∧ ND news')
        [(Str.ofString "left", .ref D)] F5 N6 (by intro q hq; cases hq with | head => with_unfolding_all exact rfl | tail _ h => nomatch h) ⟨D, k, T1, ps, o1, _, .inl rfl, hps ▸ I1, rfl, (by assumption), rfl, nd6⟩ ?_
      clear F5 N6 nd6 I1
      ((intro n; intro l; intros news₁ h₁ tk₁); (intro hₜ1; (injection hₜ1 with D hₜ1; (injection hₜ1 with k hₜ2; (injection hₜ2 with T hₜ3; (injection hₜ3 with ps hₜ4; (injection hₜ4 with o2 hₜ5; (injection hₜ5 with v0 hₜ6; (injection hₜ6 with hl hₜ7; (injection hₜ7 with I hₜ8; (refine And.elim ?_ (hₜ8); (try clear hₜ8); intro hₜ9 hₜ10; rcases hₜ9 with rfl; (injection hₜ10 with hd2 hₜ11; (refine And.elim ?_ (hₜ11); (try clear hₜ11); intro hₜ12 nd6; rcases hₜ12 with rfl)))))))))))); intro F7 N7)
      ((rcases snoc_cases ps with hᵤ1 | hᵤ2) <;> (first | ((fail_if_success (fail_if_success clear hᵤ1)); subst hᵤ1) | ((fail_if_success (fail_if_success clear hᵤ2)); (injection hᵤ2 with pp hₜ1; (refine Exists.elim (hₜ1) ?_; (try clear hₜ1); refine prodI ?_; intro ad; refine prodI ?_; refine prodI ?_; intro c; intro tc'; refine prodI ?_; intro a; intro ta; intro hₜ3; rcases hₜ3 with rfl)))))
      · simp only [lrefs, lobjs, List.map_nil, List.nil_append] at N7 nd6
        ((rcases hl with hᵤ3 | hᵤ4) <;> (first | ((fail_if_success (fail_if_success clear hᵤ3)); subst hᵤ3) | ((fail_if_success (fail_if_success clear hᵤ4)); (injection hᵤ4 with va hₜ1; (injection hₜ1 with vb hₜ2; rcases hₜ2 with rfl)))))
        all_goals simp only [putsL] at F7
        all_goals k_steps
        all_goals exact ret _ _ _ _ (by assumption) (News.of_sub (by assumption) fun q hq => .tail _ (.tail _ (.tail _ (.tail _ hq)))) ⟨T, t9, rfl, I, rfl, nd_tail (nd_tail (nd_tail nd6))⟩
      · (replace N7 := N7; replace nd6 := nd6; rw [lrefs_snoc, lobjs_snoc] at N7 nd6)
        (injection (ldg_snoc N7 nd6) with N8 nd8)
        clear N7 nd6
        simp only [nv] at N8 nd8
        (replace I := I; rw [List.map_append] at I)
        (injection (I.src ((c, tc'), (a, ta)) (List.mem_append_right _ (.head _))) with hcl hcX)
        dsimp only at hcl hcX
        (injection (lt_get hcl) with nc0 hcs0)
        (injection (I.ext0.get _ _ hcs0) with nc2 hₜ1; (injection hₜ1 with hcs2 hsame2))
        (injection (I.at' ((c, tc'), (a, ta)) (List.mem_append_right _ (.head _))) with na hₜ1; (injection hₜ1 with hna hka))
        dsimp only at hna
        (injection (hin _ hcX _ hcs0) with xc2 hₜ1; (injection hₜ1 with ec2 hₜ2; (injection hₜ2 with hval2 hmem2)))
        have hch92 : nc0.ch.length ≤ 9 := Nat.le_trans (S.good.short _ (List.mem_of_getElem? hcs0)) S.nine
        have hcm2 := List.mem_of_getElem? hcs2
        have hT : T.b.t = T1.b.t := I.exts.t.trans ht1
        have hD1 := nd_head (nd_tail (nd_tail nd8))
        have hD2 : @Ne Nat D (L' + 1 + 1) := nd_head nd8 _ (.tail _ (.head _))
        have hD3 : @Ne Nat D (L' + 1) := nd_head (nd_tail nd8) _ (.head _)
        have hN8 := I.size
        have hN9 := I.exts.len
        have hN7 := Nat.le_trans (Nat.add_le_add_left (wts_len _ _) _) hN8
        have hpw := pow9 (i0 := c0) S.nine
        simp only [List.length_map, List.length_append, List.length_cons, List.length_nil] at hN7
        have hpp : (lrefs pp).length ≤ 300 := by simp only [lrefs, List.length_map]; (k_extra "MY om")
        ((rcases hl with hᵤ5 | hᵤ6) <;> (first | ((fail_if_success (fail_if_success clear hᵤ5)); subst hᵤ5) | ((fail_if_success (fail_if_success clear hᵤ6)); (injection hᵤ6 with va hₜ1; (injection hₜ1 with vb hₜ2; rcases hₜ2 with rfl)))))
        all_goals simp only [putsL] at F7
        all_goals k_steps
        all_goals unfold Halt
        all_goals (rename (Fr _ _ _ _) => F9; rename (News _ _ _ _) => N9)
        all_goals ((injection (ldg_call N9 nd8) with N10 nd10))
        all_goals (have SP := copy_head_of w T _ c a nc2 na tc' ta hcs2 hna hka nd10 (I.good.small (by (k_extra "MY om"))) (I.good.bare.ns _ hcm2) (I.good.bare.at' _ hcm2))
        all_goals (replace SP := SP; rw [hT] at SP)
        all_goals (refine MSpec.use SP B' F9 X' N10 T' rfl (by (try dsimp only [ktrTop, Around.deeper]); (k_extra "MY om")) (by (try dsimp only [ktrTop, Around.deeper]); (k_extra "MY om")) ?_)
        all_goals ((intros r news' h7 tk7; intro F10 N11); (intro hₜ1; (injection hₜ1 with n2 hₜ1; (injection hₜ1 with e2 hₜ2; (injection hₜ2 with t2 hₜ3; (refine And.elim ?_ (hₜ3); (try clear hₜ3); intro hₜ4 hₜ5; rcases hₜ4 with rfl; (injection hₜ5 with hn2 hₜ6; (refine And.elim ?_ (hₜ6); (try clear hₜ6); intro hₜ7 nd11; rcases hₜ7 with rfl))))))))
        all_goals ((injection (ldg_back N11 nd11) with N12 nd12))
        all_goals (clear F9 N9 N10 nd10 N11 nd11 SP)
        all_goals (replace hn2 := hn2; rw [hsame2.kind, hsame2.name, hsame2.value] at hn2)
        all_goals (have I2 := CI.step (t9 := t2) (t8 := t2) (e := e2) S dm I (get_lt hc) hN (by (k_extra "MY om")) hcs0 hna hn2)
        all_goals (have hu3 := nd_head (nd_tail (nd_tail nd12)))
        all_goals (have hu4 := fun p hp => nd_head nd12 p (.tail _ (.tail _ hp)))
        all_goals (have hx1 : (T.child e2 n2 a na t2).ns.length = T.ns.length + 1 := child_len)
        all_goals k_steps
        all_goals unfold Halt
        all_goals (rename (Fr _ _ _ _) => F11; rename (News _ _ _ _) => N13)
        all_goals refine ListComp_J F11 rfl rfl (by decide) rfl (by decide) rfl ?_
        all_goals k_steps
        all_goals (rename (Fr _ _ _ _) => F12; rename (News _ _ _ _) => N14)
        all_goals (replace N14 := N14; rw [← List.map_reverse] at N14)
        all_goals
          refine comp_pairs (a := (T.ns.length, t2)) F12 N14 (.head _) (by exact nd_new (by assumption) nd12) (by simp; (k_extra "MY om")) ?_ ?_
          · clear F11 N13 F12 N14
            (intros v C I0 D0 oC oI oD m2 h4 tk4 newsx E'; intro F5 N5 hC hx)
            k_steps
            all_goals (first | assumption | exact fun p hp => tb_ltOf (by assumption) p hp | ((rename _ ∈ (_ :: _) => hp9); exact tb_ltOf (by assumption) _ hp9))
          · clear F11 N13 F12 N14
            (intros J D8 ps8 k8 h4 tk4; intro hps8 nd5 N5 F5)
            have hz8 : (lrefs ps8).length ≤ 9 := by have := congrArg List.length hps8; simp only [List.length_map, List.length_reverse] at this; simp only [lrefs, List.length_map]; (k_extra "MY om")
            k_steps
            rename (Fr _ _ _ _) => F13
            rename (News _ _ _ _) => N15
            (injection (ldg_loop N15 (fun p hp => tb_ltOf (by assumption) p hp) nd5) with N16 nd16)
            (replace N16 := N16; replace nd16 := nd16; rw [← lrefs_app, ← lobjs_app] at N16 nd16)
            have I3 : CI T0 X Ts c0 p0 (T.child e2 n2 a na t2) ((pp ++ ps8).map (·.2)) := by rw [List.map_append, hps8]; exact I2
            refine WhileStep.intro F13 N16 (wts_loop hps8 (PT.wt_ch S.good.wf S.inc hcs0)) ⟨[(Str.ofString "left", .ref _), (Str.ofString "above", .int (a : Int) ta), (Str.ofString "here", .int (c : Int) tc')], ?_, _, _, _, _, _, _, .inr ⟨_, _, rfl⟩, I3, rfl, (by assumption), rfl, nd16⟩
            first | exact putsL_three' | exact putsL_three
end
set_option linter.unusedVariables false
theorem valueAt_put {K : Type} [DecidableEq K] {kvs : List (K × Value)} {k k' : K} {v : Value} : valueAt (stored kvs k v) k' = if k' = k then some v else valueAt kvs k' := by
  unfold stored
  by_cases h : kvs.any (fun kv => kv.1 = k) = true
  · rw [if_pos h]
    induction kvs with
    | nil => simp at h
    | cons p r ih =>
      by_cases hp : p.1 = k
      · by_cases hk : k' = k
        · subst hk; simp [valueAt, hp]
        · rw [if_neg hk]
          simp only [List.map_cons, hp, if_true]
          have h1 : valueAt ((k, v) :: r.map fun kv => if kv.1 = k then (kv.1, v) else kv) k' = valueAt (r.map fun kv => if kv.1 = k then (kv.1, v) else kv) k' := by simp [valueAt, Ne.symm hk]
          have h2 : valueAt (p :: r) k' = valueAt r k' := by simp [valueAt, hp, Ne.symm hk]
          rw [h1, h2]
          by_cases hr : r.any (fun kv => kv.1 = k) = true
          · have := ih hr; (replace this := this; rw [if_neg hk] at this); exact this
          · have : (r.map fun kv => if kv.1 = k then (kv.1, v) else kv) = r := by
              rw [List.map_congr_left (g := id)]; · simp
              intro a ha
              have : ¬ a.1 = k := fun e => hr (List.any_eq_true.mpr ⟨a, ha, by simp [e]⟩)
              simp [this]
            rw [this]
      · have hr : r.any (fun kv => kv.1 = k) = true := by simpa [hp] using h
        have := ih hr
        by_cases hk' : p.1 = k'
        · have hkk : k' ≠ k := fun e => hp (hk'.trans e)
          simp [valueAt, hp, hk', hkk]
        · simp only [List.map_cons, hp, if_false]
          have h1 : valueAt (p :: r.map fun kv => if kv.1 = k then (kv.1, v) else kv) k' = valueAt (r.map fun kv => if kv.1 = k then (kv.1, v) else kv) k' := by simp [valueAt, hk']
          have h2 : valueAt (p :: r) k' = valueAt r k' := by simp [valueAt, hk']
          rw [h1, h2]; exact this
  · rw [if_neg h]
    by_cases hk : k' = k
    · subst hk
      have : valueAt kvs k' = none := by
        simp only [valueAt, Option.map_eq_none_iff, List.find?_eq_none]
        intro a ha e
        exact h (List.any_eq_true.mpr ⟨a, ha, by simpa using e⟩)
      simp only [valueAt, Option.map_eq_none_iff] at this
      simp [valueAt, List.find?_append, this]
    · rw [if_neg hk]; simp [valueAt, List.find?_append, Ne.symm hk]
section
variable {w : World} {A : Around} {h₀ : Heap} {L : Addr} {m : Str → Option Value} {env : Env}
/-- a table of the children of each place of a row -/
theorem comp_table : ∀ {w : World} {A : Around} {h₀ : Heap} {L : Addr} {m : Str → Option Value} {env : Env} {T0 : PT} {scope : Scope} {cl : List (Str × Addr)} {x : Str} {kx vx : PySem.Expr} {done : Nat → Addr → List (Int × Value) → Obj → List (Addr × Obj) → (Nat → List (Int × Value) → List (Addr × Obj) → Prop) → Shared → Heap → Nat → Prop} {s₁ : Shared} {l c : Addr} {cs : List (Nat × Tok)} {news : List (Addr × Obj)} (F : Fr h₀ L s₁.heap m) (N : News h₀ L s₁.heap news) (hm : (l, listOf (cs.map nv).toArray c) ∈ news) (hnd : ND news) (hz : cs.length ≤ 1000) (hT : ∀ c ∈ cs, ∃ n, T0.ns[c.1]? = some n) (turn : ∀ (v : Nat × Tok) C I D oC oI oD m₂ h tk news' E' n, T0.ns[v.1]? = some n → Fr h₀ L h m → News h₀ L h ((C, oC) :: (I, oI) :: (D, oD) :: (news' ++ news)) → LCg.NsObj oC m₂ → m₂ x = some (nv v) →
      wpAny (model PG w) A (eval kx (compEnvC scope cl C env)) (fun kv s₂ => wpAny (model PG w) A (eval vx (compEnvC scope cl C env)) (fun y s₃ => ∃ h' tk' t e, kv = nv v ∧ y = .ref t ∧ s₃ = { s₁ with heap := h', toks := tk' } ∧ Fr h₀ L h' m ∧ News h₀ L h' ((t, listOf (n.ch.map nv).toArray e) :: (C, oC) :: (I, oI) :: (D, oD) :: (news' ++ news)) ∧
        ∀ p ∈ ((C, oC) :: (I, oI) :: (D, oD) :: (news' ++ news) : List (Addr × Obj)), p.1 ≠ t) E' s₂) E' { s₁ with heap := h, toks := tk }) (fin : ∀ J D oD kvs lm h' tk, oD.IsDictOf (PySem.intKind PG w) kvs → (∀ c ∈ cs, ∀ n, T0.ns[c.1]? = some n → ∃ x e, valueAt kvs (c.1 : Int) = some (.ref x) ∧ (x, listOf (n.ch.map nv).toArray e) ∈ lm) → ND ((D, oD) :: (lm ++ news)) → News h₀ L h' ((D, oD) :: (lm ++ news)) → done cs.length D kvs oD (lm ++ news) J s₁ h' tk),
    CompAtD (PySem.intKind PG w) A h₀ L m env scope cl x kx vx done (.ref l) s₁ := by
  have hEpsₑ : EpsOn 0 := ⟨True.intro⟩
  intros w A h₀ L m env T0 scope cl x kx vx
  intros done s₁ l c cs news
  intro F
  intro N
  intro hm
  intro hnd
  intro hz
  intro hT
  intro turn
  intro fin
  refine ⟨l, cs.map nv, c, news, fun i kvs news' => ∃ lm, i ≤ cs.length ∧ kvs.length ≤ i ∧ news' = lm ++ news ∧ ND news' ∧ ∀ c ∈ cs.take i, ∀ n, T0.ns[c.1]? = some n → ∃ x e, valueAt kvs (c.1 : Int) = some (.ref x) ∧ (x, listOf (n.ch.map nv).toArray e) ∈ lm, rfl, ?_, F, N, ?_, ?_, ?_, ?_⟩
  · ((intros i kvs news'); (intro hₜ3; (injection hₜ3 with lm hₜ1; (injection hₜ1 with h1 hₜ2; (injection hₜ2 with h2 hₜ3; rcases hₜ3 with _)))))
    rw [PySem.sizeLine_eq]; (k_extra "MY om")
  · ((intros i ys news'); (intro hₜ4; (injection hₜ4 with lm hₜ1; (refine And.elim ?_ (hₜ1); (try clear hₜ1); intro hₜ2 hₜ3; rcases hₜ2 with _; (refine And.elim ?_ (hₜ3); (try clear hₜ3); intro hₜ4 hₜ5; rcases hₜ4 with _; (refine And.elim ?_ (hₜ5); (try clear hₜ5); intro hₜ6 hₜ7; rcases hₜ6 with rfl; rcases hₜ7 with _))))))
    exact .inl (List.mem_append_right _ hm)
  · exact ⟨[], Nat.zero_le _, Nat.le_refl _, rfl, hnd, fun c hc => by simp at hc⟩
  · ((intros C I D i v ys news₁ h tk oC oI oD; intros m₂ E' blk; intro hv); (intro hₜ8; (injection hₜ8 with lm hₜ1; (injection hₜ1 with hi hₜ2; (injection hₜ2 with hk hₜ3; (refine And.elim ?_ (hₜ3); (try clear hₜ3); intro hₜ4 hₜ5; rcases hₜ4 with rfl; (injection hₜ5 with nd hl)))))); intro ap F' N' hC hx)
    have hₜ1 : ∃ c', cs[i]? = some c' ∧ nv c' = v := by
      (replace hv := hv; rw [List.getElem?_map] at hv)
      cases hq : cs[i]? with
      | none => (replace hv := hv; rw [hq] at hv); cases hv
      | some c' => (replace hv := hv; rw [hq] at hv); exact ⟨c', rfl, Option.some.inj hv⟩
    (injection hₜ1 with c' hₜ1; (injection hₜ1 with hc' hₜ2; rcases hₜ2 with rfl))
    (injection (hT c' (List.mem_of_getElem? hc')) with n hn)
    have hil : i < cs.length := by
      rcases Nat.lt_or_ge i cs.length with q | q
      · exact q
      · (replace hc' := hc'; rw [List.getElem?_eq_none q] at hc'); cases hc'
    refine wpAny_mono (turn c' C I D oC oI oD m₂ h tk lm E' n hn F' N' hC hx) ?_ fun _ _ e => e
    (intros kv s₂ h₂)
    refine wpAny_mono h₂ ?_ fun _ _ e => e
    (intros y s₃)
    ((intro hₜ1; (injection hₜ1 with h' hₜ1; (injection hₜ1 with tk' hₜ2; (injection hₜ2 with t hₜ3; (injection hₜ3 with e hₜ4; (refine And.elim ?_ (hₜ4); (try clear hₜ4); intro hₜ5 hₜ6; rcases hₜ5 with rfl; (refine And.elim ?_ (hₜ6); (try clear hₜ6); intro hₜ7 hₜ8; rcases hₜ7 with rfl; (refine And.elim ?_ (hₜ8); (try clear hₜ8); intro hₜ9 hₜ10; rcases hₜ9 with rfl; (injection hₜ10 with F'' hₜ11; (injection hₜ11 with N'' hne)))))))))))
    refine ⟨h', tk', ((t, listOf (n.ch.map nv).toArray e) :: lm) ++ news, (c'.1 : Int), intKind_is _ _ _ _, rfl, F'', News.of_sub N'' fun q hq => ?_, fun p hp => ?_, (t, listOf (n.ch.map nv).toArray e) :: lm, hil, Nat.le_trans (stored_length_le _ _ _) (Nat.succ_le_succ hk), rfl, nd_ne (fun p hp => hne p (.tail _ (.tail _ (.tail _ hp)))) nd, fun d hd nd' hnd' => ?_⟩
    · simp only [List.mem_cons, List.cons_append] at hq ⊢
      rcases hq with h | h | h | h | h <;> simp [h]
    · rcases List.mem_cons.mp hp with h | h
      · subst h
        exact ⟨(hne (C, oC) (.head _)).symm, (hne (I, oI) (.tail _ (.head _))).symm, (hne (D, oD) (.tail _ (.tail _ (.head _)))).symm⟩
      · exact ap p h
    · rw [valueAt_put]
      (replace hd := hd; rw [List.take_add_one, hc'] at hd)
      by_cases hdc : (d.1 : Int) = (c'.1 : Int)
      · have e1 : d.1 = c'.1 := by (k_extra "MY om")
        (replace hnd' := hnd'; rw [e1, hn] at hnd'); cases hnd'
        exact ⟨t, e, by rw [if_pos hdc], .head _⟩
      · rcases List.mem_append.mp hd with hd | hd
        · (injection (hl d hd nd' hnd') with x1 hₜ1; (injection hₜ1 with e1 hₜ2; (injection hₜ2 with h1 h2)))
          exact ⟨x1, e1, by rw [if_neg hdc]; exact h1, .tail _ h2⟩
        · simp at hd; subst hd; exact absurd rfl hdc
  · ((intros D ys oD news' h' tk; intro hD0 hd hne); (intro hₜ3; (injection hₜ3 with lm hₜ1; (injection hₜ1 with h1 hₜ2; (injection hₜ2 with h2 hₜ3; (refine And.elim ?_ (hₜ3); (try clear hₜ3); intro hₜ4 hₜ5; rcases hₜ4 with rfl; (injection hₜ5 with nd hl)))))); intro N')
    (replace hl := hl; rw [List.length_map, List.take_length] at hl)
    have := fin (fun i kvs news' => ∃ lm, i ≤ cs.length ∧ kvs.length ≤ i ∧ news' = lm ++ news ∧ ND news' ∧ ∀ c ∈ cs.take i, ∀ n, T0.ns[c.1]? = some n → ∃ x e, valueAt kvs (c.1 : Int) = some (.ref x) ∧ (x, listOf (n.ch.map nv).toArray e) ∈ lm) D oD ys lm h' tk hd hl (nd_ne hne nd) N'
    rw [List.length_map]
    exact this
end
theorem ldg_tab {g h : Heap} {L : Addr} {d a1 a2 a3 c1 : Addr × Obj} {M Tx X : List (Addr × Obj)} (N : News g L h (d :: (M ++ (a1 :: a2 :: a3 :: c1 :: (Tx ++ X))))) (nd : ND (d :: (M ++ (a1 :: a2 :: a3 :: c1 :: (Tx ++ X))))) :
    News g L h (Tx ++ (d :: (M ++ (c1 :: X)))) ∧ ND (Tx ++ (d :: (M ++ (c1 :: X)))) := by
  have p1 : (d :: (M ++ (a1 :: a2 :: a3 :: c1 :: (Tx ++ X)))).Perm (a1 :: a2 :: a3 :: (d :: (M ++ (c1 :: (Tx ++ X))))) := (perm3 a1 a2 a3 (d :: M) (c1 :: (Tx ++ X))).symm
  have p2 : (d :: (M ++ (c1 :: (Tx ++ X)))).Perm (Tx ++ (d :: (M ++ (c1 :: X)))) := by
    have := List.perm_append_comm_assoc (d :: (M ++ [c1])) Tx X
    simpa using this
  exact ⟨News.pm (News.of_sub (News.pm N p1) fun q hq => .tail _ (.tail _ (.tail _ hq))) p2, ND.perm (nd_tail (nd_tail (nd_tail (ND.perm nd p1)))) p2⟩
def addAll (p : Nat) (l : List PyData) : Nat → List PyData := fun j => if j = p then l else []
theorem addAll_cons {p : Nat} {s : PyData} {l : List PyData} : addP p s (addAll p l) = addAll p (s :: l) := by
  funext j; by_cases h : j = p <;> simp [addP, addAll, h]
theorem addAll_nil {p : Nat} : addAll p [] = fun _ => [] := by funext j; simp [addAll]
/-- the copies of the children of the root, one by one -/
structure CO (T0 : PT) (p0 : Nat) (all cs : List (Nat × Tok)) (T : PT) : Prop where
  ext : Ext T0 T
  good : T.Good
  size : T.ns.length + wts T0.ns.length cs ≤ T0.ns.length + 255
  sh : T.sh (addAll p0 (cs.map fun c => T0.S0 c.1)) 600 0 = T0.sh (addAll p0 (all.map fun c => T0.S0 c.1)) 600 0
theorem CO.start {T0 : PT} {p0 : Nat} {n0 : NR} (S : T0.Src) (hc : T0.ns[0]? = some n0) : CO T0 p0 n0.ch n0.ch T0 := by
  have h1 := PT.wt_ch S.good.wf S.inc hc
  have h2 := pow9 (N0 := T0.ns.length) (i0 := 0) S.nine
  exact ⟨Ext.refl _, S.good, by (k_extra "MY om"), rfl⟩
theorem CO.step {T0 : PT} {X : List Nat} {p0 : Nat} {all cs : List (Nat × Tok)} {c : Nat × Tok} {T T' : PT} (h9 : T0.ns.length ≤ 9) (hp : p0 < T0.ns.length) (O : CO T0 p0 all (c :: cs) T) (I : CI T0 X T c.1 p0 T' []) : CO T0 p0 all cs T' := by
  have h1 := O.size
  have h2 := I.size
  simp only [wts, List.map_nil] at h1 h2
  refine ⟨I.ext0, I.good, by (k_extra "MY om"), ?_⟩
  rw [← O.sh, List.map_cons, ← addAll_cons]
  refine I.sh _ ?_
  intro j hj
  have := O.ext.len
  exact if_neg (by (k_extra "MY om"))
theorem inst_treeM {T : PT} {P : Params} {h₀ h : Heap} {L : Addr} {news : List (Addr × Obj)} (N : News h₀ L h news) (hs : ∀ q ∈ T.objs P, q ∈ news) :
    InstAt h T.b.t (instObj 504 T.b.td) 504 (some (dictOf [⟨PyData.keyHash P "rows", .str "rows" T.b.kt, .ref T.b.rl⟩] T.b.ep)) := ⟨(N _ (hs _ (.head _))).1, rfl, rfl, (N _ (hs _ (.tail _ (.head _)))).1⟩
theorem allNe_ne {d : Addr} : ∀ {l : List (Addr × Obj)}, AllNe d l → ∀ p ∈ l, p.1 ≠ d
  | [], _, _, h => nomatch h
  | q :: r, h, p, hp => by
    rcases List.mem_cons.mp hp with rfl | hp
    · exact h.1
    · exact allNe_ne h.2 p hp
set_option linter.unusedVariables false
theorem words_23 : True := by
  k_with "OFF 22" => (skip)
  trivial
section
theorem words_24 : True := by
  k_with "OFF 23" => (skip)
  k_with "exec If Compare cons nil" => ((fail_if_success k_extra "OFF 25"); ((fail_if_success (have _gₘ : Go := by assumption)); refine halt_of ?_))
  k_with "MY k_all" => ((fail_if_success k_extra "OFF 25"); assumption)
  k_with "MY in" => ((fail_if_success k_extra "OFF 25"); (repeat (first | assumption | with_reducible exact List.mem_cons_self | with_reducible refine List.mem_cons_of_mem _ ?_ | with_reducible refine List.mem_append_right _ ?_)))
  k_with "eval Name" => ((fail_if_success k_extra "OFF 25"); ((with_reducible show wpAny _ _ (eval (Expr.Name _ _) (compEnvC _ _ _ _)) _ _ _); k_dflt (first | (refine' LCgL.ld_own ?Nₘ ?mₘ ?Cₘ ?xₘ ?_; (case Nₘ => k_asm); (case mₘ => k_extra "MY in"); (case Cₘ => assumption); (case xₘ => assumption)) | (refine' lcf_cell ?Nₘ ?cₘ ?mₘ ?dₘ ?_ ?aₘ ?bₘ; (case aₘ => rfl); (case bₘ => rfl); (case Nₘ => k_asm); (case cₘ => rfl); (case mₘ => k_extra "MY in"); (case dₘ => assumption); k_whole) | (refine' lcf_free ?Nₘ ?cₘ ?mₘ ?dₘ ?_ ?aₘ ?bₘ; (case aₘ => rfl); (case bₘ => rfl); (case Nₘ => k_asm); (case cₘ => rfl); (case mₘ => k_extra "MY in"); (case dₘ => assumption); k_whole))))
  k_with "MY rp" => ((fail_if_success k_extra "OFF 25"); (case kpₘ => exact at_mem (by k_asm) (by intro qₘ hqₘ; simp only [List.mem_append, List.mem_cons, hqₘ, true_or, or_true]) (by (k_extra "MY om")) (by assumption)))
  k_with "subscriptTail Name Name ref int" => ((fail_if_success k_extra "OFF 25"); (k_dflt (refine' item_dictI ?Nₘ ?mₘ ?dₘ ?vₘ ?_ ?sₘ; (case Nₘ => k_asm); (case mₘ => k_extra "MY in"); (case dₘ => assumption); (case vₘ => assumption); (case sₘ => with_unfolding_all rfl))))
  k_with "binaryOp Add ref ref" => ((fail_if_success k_extra "OFF 25"); (k_here; k_dflt (refine' cat_any ?wFₘ ?wNₘ ?waₘ ?wbₘ ?_ ?wxₘ ?wyₘ; (case wFₘ => k_asm); (case wNₘ => k_asm); (case waₘ => k_extra "MY in"); (case wbₘ => k_extra "MY in"); (case wxₘ => k_extra "MY lsize"); (case wyₘ => k_extra "MY lsize")); (intros D'ₘ h'ₘ; intro F'ₘ N'ₘ l1ₘ); (try k_lt l1ₘ)))
  k_with "exec Assign cons ListComp" => ((fail_if_success k_extra "OFF 25"); refine halt_of ?_)
  k_with "eval ListComp" => ((fail_if_success k_extra "OFF 25"); refine halt_of ?_)
  k_with "eval Name" => ((fail_if_success k_extra "OFF 25"); (k_dflt (refine' nameX_C ?Nₘ ?cₘ ?mₘ ?dₘ ?_ ?aₘ ?bₘ; (case aₘ => rfl); (case bₘ => rfl); (case Nₘ => k_asm); (case cₘ => rfl); (case mₘ => k_extra "MY in"); (case dₘ => assumption); k_whole)))
  k_with "MY k_inst" => ((fail_if_success k_extra "OFF 25"); (refine' inst_treeM ?Fₘ ?hsₘ; (case Fₘ => k_asm); (case hsₘ => (intro qₘ hqₘ; (repeat (first | with_reducible exact List.mem_append_left _ hqₘ | with_reducible refine List.mem_cons_of_mem _ ?_ | with_reducible refine List.mem_append_right _ ?_))))))
  k_with "exec Assign cons DictComp" => ((fail_if_success k_extra "OFF 25"); refine halt_of ?_)
  k_with "eval Name" => ((fail_if_success k_extra "OFF 26"); k_here; name_kind "local"; k_dflt (refine' nameX_L ?k1ₘ ?k2ₘ ?_ ?k3ₘ ?k4ₘ; (case k1ₘ => k_asm); (case k3ₘ => rfl); (case k4ₘ => rfl); (case k2ₘ => rfl); k_whole))
  trivial
theorem kind_root (w : World) (T : PT) (k : Nat) (tk : Tok) (n : NR) (hk : T.ns[k]? = some n) (hr : n.kind = "root") :
    RSpec w 424 2 [.ref T.b.t, .int (k : Int) tk] (fun h => T.At w.params h) (fun _ r new => ∃ t, r = .str "root" t ∧ new = []) := by
  have h := kind_of w T k tk n hk
  (replace h := h; rw [hr] at h)
  (intros dp un gd cn cs a ccd cl outer A₀ base h₀ L m news s p loose mean mg mb Q E; intro B F X N Tp hk9 hd hu pre ret)
  exact h.use B F X N Tp hk9 hd hu pre fun r new h' tk' a1 a2 a3 a4 a5 => ret r new h' tk' a1 a2 a3 a4 ⟨_, a5.1, a5.2⟩
theorem words_25 : True := by
  k_with "call ref" => ((fail_if_success k_extra "OFF 25"); first | ((with_reducible show wpAny _ _ (call (Value.ref 424) _) _ _ _); k_dflt (refine' RSpec.use2 (kind_root _ _ _ _ _ ?hkₘ ?hyₘ) ?k1ₘ ?k2ₘ ?k3ₘ ?k4ₘ ?k5ₘ ?kKₘ ?kdₘ ?kuₘ ?kpₘ ?_; (case hkₘ => assumption); (case hyₘ => assumption); k_extra "MY rd"; k_extra "MY rp"; k_whole); (intros r9ₘ new9ₘ h9ₘ tk9ₘ; intro F9ₘ N9ₘ S9ₘ O9ₘ p9ₘ); ((injection p9ₘ with t9ₘ hₜ1; (injection hₜ1 with p9ₘ p9'ₘ)); subst p9ₘ; subst p9'ₘ); simp only [List.nil_append] at N9ₘ; k_extra "MY use") | ((with_reducible show wpAny _ _ (call (Value.ref 35) _) _ _ _); k_dflt (refine' RSpec.use2 (beneath_of _ _ _ _ _ ?hkₘ ?hwₘ ?hbₘ ?hyₘ) ?k1ₘ ?k2ₘ ?k3ₘ ?k4ₘ ?k5ₘ ?kKₘ ?kdₘ ?kuₘ ?kpₘ ?_; (case hkₘ => assumption); (case hwₘ => assumption); (case hbₘ => assumption); (case hyₘ => assumption); k_extra "MY rd"; k_extra "MY rp"; k_whole); (intros r9ₘ new9ₘ h9ₘ tk9ₘ; intro F9ₘ N9ₘ S9ₘ O9ₘ p9ₘ); ((injection p9ₘ with x9ₘ hₜ1; (injection hₜ1 with e9ₘ hₜ2; (injection hₜ2 with xs9ₘ hₜ3; (injection hₜ3 with p9ₘ hₜ4; (injection hₜ4 with pm9ₘ hₜ5; (injection hₜ5 with px1ₘ hₜ6; (injection hₜ6 with px2ₘ hₜ7; (injection hₜ7 with px3ₘ px4ₘ)))))))); subst p9ₘ); replace N9ₘ := News.pick N9ₘ pm9ₘ; (have l9ₘ := O9ₘ.2 _ pm9ₘ); replace O9ₘ := O9ₘ.1 _ pm9ₘ; clear pm9ₘ; k_extra "MY use") | refine halt_of ?_)
  k_with "MYT" => ((fail_if_success k_extra "OFF 25"); ((with_reducible show wpAny _ _ (call (Value.ref 466) _) _ _ _); k_dflt (refine' RSpec.use2 (children_of _ _ _ _ _ ?hkₘ) ?k1ₘ ?k2ₘ ?k3ₘ ?k4ₘ ?k5ₘ ?kKₘ ?kdₘ ?kuₘ ?kpₘ ?_; (case hkₘ => assumption); k_extra "MY rd"; k_extra "MY rp"; k_whole); (intros r9ₘ new9ₘ h9ₘ tk9ₘ; intro F9ₘ N9ₘ S9ₘ O9ₘ p9ₘ); ((injection p9ₘ with x9ₘ hₜ1; (injection hₜ1 with e9ₘ hₜ2; (injection hₜ2 with p9ₘ p9'ₘ))); subst p9ₘ; subst p9'ₘ); simp only [List.cons_append, List.nil_append] at N9ₘ; ((have l9ₘ := allNe_of (O9ₘ.2 _ (.head _))); replace O9ₘ := O9ₘ.1; (try simp only [AllNe, and_true] at l9ₘ)); k_extra "MY use"))
  trivial
set_option maxRecDepth 100000 in
set_option maxHeartbeats 8000000 in
theorem copy_into_of : ∀ (w : World) (T0 : PT) (rest : List (Addr × Obj)) (p0 : Nat) (n0 np : NR) (tc tp : Tok) (S : T0.Src) (hc : T0.ns[0]? = some n0) (hroot : n0.kind = "root") (hp : T0.ns[p0]? = some np) (hkind : np.kind = "element") (hnd : ND (T0.objs w.params ++ rest)),
    MSpec w 54 9 [.ref T0.b.t, .int ((0 : Nat) : Int) tc, .int (p0 : Int) tp] (T0.objs w.params ++ rest)
      (fun r news' => ∃ (T : PT), r = .none ∧ Ext T0 T ∧ T.Good ∧ T.ns.length ≤ 300 ∧ T.sh (fun _ => []) 600 0 = T0.sh (fun j => if j = p0 then (n0.ch.map (·.1)).map T0.S0 else []) 600 0 ∧ news' = T.objs w.params ++ rest ∧ ND (T.objs w.params ++ rest)) := by
  have hEpsₑ : EpsOn 0 := ⟨True.intro⟩
  intros w T0 rest p0 n0 np tc tp
  intro S
  intro hc
  intro hroot
  intro hp
  intro hkind
  intro hnd
  (intros dp un gd cn cs a ccd cl outer A₀ base h₀ L m s p9 loose mean mg mb Q E; intro B F X0 N Tp hk9 hd hu ret)
  have g := S.good
  have h9 := S.nine
  have wf := g.wf
  have inc := S.inc
  have hclt := get_lt hc
  have hplt := get_lt hp
  have hroom := g.room (by (k_extra "MY om"))
  have hgo : Go := True.intro
  k_extra "MY enterC"
  (intros g1 L' h' tk cells; intro FG F' N' Y B' X' T' l1)
  refine cells1 Y ?_; clear Y; intro o1; refine fun hEₖ dT => ?_; subst hEₖ; simp only [List.cons_append, List.nil_append] at N'
  replace dT : Obj.data o1 = Data.cell (some (Value.ref T0.b.t)) := dT
  try dsimp only
  try k_fold
  k_steps
  unfold Halt
  rename (Fr _ _ _ _) => F3
  refine Assign_DictComp_J F3 (by with_unfolding_all rfl) rfl rfl rfl (by decide) rfl (by decide) rfl rfl rfl ?_
  k_steps
  rename (Fr _ _ _ _) => F4
  rename (News _ _ _ _) => N4
  rename (∀ c ∈ n0.ch, _) => px3
  rename (∀ c : Nat × Tok, c ∈ _ → ∀ n, _ → ∀ d ∈ NR.ch n, _) => px4
  rename (∀ c : Nat × Tok, c ∈ _ → _ < _) => px2
  rename (List (Nat × Tok)) => xs
  (replace N4 := N4; rw [show [Value.int ((0 : Nat) : Int) tc] ++ xs.map nv = ((0, tc) :: xs).map nv from rfl] at N4)
  have dm : Dom T0 (0 :: xs.map (·.1)) := by
    intro i hi n hn d hd
    rcases List.mem_cons.mp hi with rfl | hi
    · (replace hn := hn; rw [hc] at hn); cases hn
      exact .tail _ (px3 d hd)
    · (injection (List.mem_map.mp hi) with c hₜ1; (injection hₜ1 with hc' hₜ2; rcases hₜ2 with rfl))
      exact .tail _ (px4 c hc' n hn d hd)
  refine comp_table (T0 := T0) F4 N4 (.head _) (by exact nd_new (by assumption) (nd_ne (by assumption) (nd_new (by assumption) (nd_new (allLt_of fun p hp => Nat.lt_succ_of_lt (l1 p hp)) hnd)))) (by simp; (k_extra "MY om")) ?_ ?_ ?_
  · (intros c hc')
    rcases List.mem_cons.mp hc' with rfl | hc'
    · exact ⟨n0, hc⟩
    · exact lt_get (px2 c hc')
  · clear F4 N4
    ((first | (refine prodI ?_; intro v; intro tv) | (intro hₜ3; (injection hₜ3 with v tv))); (intros C I D oC oI oD m2 h4 tk4 newsx E' n; intro hn F5 N5 hC hx))
    simp only [nv] at hx
    dsimp only at hn
    k_steps
    unfold Halt
    walk_at "MYT"
    k_steps
    all_goals (first | assumption | ((rename _ ∈ (_ :: _) => hp9); exact allNe_ne (by assumption) _ hp9))
  · clear F4 N4
    (intros J D oD kvs lm h4; intro tk4; intro hdi hlm nd5 N5 F5)
    (injection (ldg_tab N5 nd5) with N6 nd6)
    clear N5 nd5
    (have hₜ1 : ∃ R, R = (D, oD) :: (lm ++ ((L' + 1, o1) :: rest)) := (⟨_, rfl⟩); (injection hₜ1 with R hR))
    (replace N6 := N6; replace nd6 := nd6; rw [← hR] at N6 nd6)
    have hRD : (D, oD) ∈ R := hR ▸ .head _
    have hRC : (L' + 1, o1) ∈ R := hR ▸ .tail _ (List.mem_append_right _ (.head _))
    have hin : InnerD w T0 (0 :: xs.map (·.1)) R kvs := by
      intro i hi n hn
      have : ∃ c ∈ ((0, tc) :: xs : List (Nat × Tok)), c.1 = i := by
        rcases List.mem_cons.mp hi with rfl | hi
        · exact ⟨_, .head _, rfl⟩
        · (injection (List.mem_map.mp hi) with c hₜ1; (injection hₜ1 with hc' hₜ2; rcases hₜ2 with rfl))
          exact ⟨c, .tail _ hc', rfl⟩
      (injection this with c hₜ1; (injection hₜ1 with hc' hₜ2; rcases hₜ2 with rfl))
      (injection (hlm c hc' n hn) with x hₜ1; (injection hₜ1 with e hₜ2; (injection hₜ2 with h1 h2)))
      exact ⟨x, e, h1, hR ▸ .tail _ (List.mem_append_left _ h2)⟩
    have hRr : ∀ q ∈ rest, q ∈ R := fun q hq => hR ▸ .tail _ (List.mem_append_right _ (.tail _ hq))
    have hback : ∀ T : PT, ND (T.objs w.params ++ R) → ND (T.objs w.params ++ rest) := by
      intro T hn
      (replace hn := hn; rw [hR] at hn)
      refine (List.Sublist.map _ ?_).nodup hn
      exact List.Sublist.append_left (.cons _ ((List.Sublist.cons _ (List.Sublist.refl rest)).trans (List.sublist_append_right lm _))) _
    clear hR hlm
    (injection (hin 0 (.head _) n0 hc) with x0 hₜ1; (injection hₜ1 with e0 hₜ2; (injection hₜ2 with hv0 hm0)))
    k_steps
    unfold Halt
    rename (Fr _ _ _ _) => F7
    rename (News _ _ _ _) => N7
    refine for_puts (vs := n0.ch.map nv) (fun i l news' => (l = [] ∨ ∃ v, l = [(Str.ofString "child", v)]) ∧ ∃ T : PT, CO T0 p0 n0.ch (n0.ch.drop i) T ∧ news' = T.objs w.params ++ R ∧ ND news') [] (by exact rfl) F7 N7 (fun _ h => nomatch h) (fun i l news' h => .inl (by obtain ⟨_, T, _, rfl, _⟩ := h; exact List.mem_append_right _ hm0)) ⟨.inl rfl, T0, CO.start S hc, rfl, nd6⟩ ?_ ?_
    · clear F7 N7 nd6
      ((intros i v l₁ news₁ h tk I oI; intro hv); (intro hₜ3; (injection hₜ3 with hl hₜ1; (injection hₜ1 with T hₜ2; (injection hₜ2 with O hₜ3; (refine And.elim ?_ (hₜ3); (try clear hₜ3); intro hₜ4 nd7; rcases hₜ4 with rfl))))); intro ap F1 N1 hI0)
      have hₜ6 : ∃ c, n0.ch[i]? = some c ∧ nv c = v := by
        (replace hv := hv; rw [List.getElem?_map] at hv)
        cases hq : n0.ch[i]? with
        | none => (replace hv := hv; rw [hq] at hv); cases hv
        | some c => (replace hv := hv; rw [hq] at hv); exact ⟨c, rfl, Option.some.inj hv⟩
      (refine Exists.elim (hₜ6) ?_; (try clear hₜ6); refine prodI ?_; intro c; intro tc'; intro hₜ2; (injection hₜ2 with hcq hₜ4; rcases hₜ4 with rfl))
      have F2 := puts1 (P := Fr _ _ _) hl F1
      clear F1
      simp only [putsL, nv] at F2
      have hdrop : n0.ch.drop i = (c, tc') :: n0.ch.drop (i + 1) := by
        have hlt : i < n0.ch.length := by
          rcases Nat.lt_or_ge i n0.ch.length with q | q
          · exact q
          · (replace hcq := hcq; rw [List.getElem?_eq_none q] at hcq); cases hcq
        rw [List.drop_eq_getElem_cons hlt]
        (replace hcq := hcq; rw [List.getElem?_eq_getElem hlt] at hcq)
        rw [Option.some.inj hcq]
      (replace O := O; rw [hdrop] at O)
      have hcc := List.mem_of_getElem? hcq
      (injection (lt_get (wf.ch _ _ hc _ hcc).2) with nc hnc)
      (injection (O.ext.get _ _ hp) with np' hₜ1; (injection hₜ1 with hnp hsame))
      have hsz := O.size
      k_steps
      unfold Halt
      rename (Fr _ _ _ _) => F8
      rename (News _ _ _ _) => N8
      have ndI := (nd_ne (o := oI) ap nd7).perm (perm1 _ _ _)
      have SP := copy_child_of w T0 T (0 :: xs.map (·.1)) ((I, oI) :: R) c p0 nc np' tc' tp D oD kvs S dm hnc (dm 0 (.head _) n0 hc _ hcc) hnp (.inr (hsame.kind.trans hkind)) O.ext O.good (by (k_extra "MY om")) ndI (.tail _ hRD) hdi (fun i hi n hn => by obtain ⟨x, e, a1, a2⟩ := hin i hi n hn; exact ⟨x, e, a1, .tail _ a2⟩)
      (replace SP := SP; rw [O.ext.t] at SP)
      refine MSpec.use SP B' F8 X' (News.pm N8 (perm1 _ _ _)) T' rfl (by (try dsimp only [ktrTop, Around.deeper]); (k_extra "MY om")) (by (try dsimp only [ktrTop, Around.deeper]); (k_extra "MY om")) ?_
      ((intros r news' h7 tk7; intro F10 N11); (intro hₜ2; (injection hₜ2 with T2 hₜ1; (injection hₜ1 with t2 hₜ2; (refine And.elim ?_ (hₜ2); (try clear hₜ2); intro hₜ3 hₜ4; rcases hₜ3 with rfl; (injection hₜ4 with I2 hₜ5; (refine And.elim ?_ (hₜ5); (try clear hₜ5); intro hₜ6 nd11; rcases hₜ6 with rfl)))))))
      k_steps
      have N12 := News.pm N11 (perm1 _ _ _).symm
      have nd12 := nd11.perm (perm1 _ _ _).symm
      refine TurnQ.intro F10 N12 (nd_head nd12) ⟨[(Str.ofString "child", .int (c : Int) tc')], rfl, .inr ⟨_, rfl⟩, T2, O.step h9 hplt I2, rfl, nd_tail nd12⟩
    · ((intros l₁ news₁ h tk); (intro hₜ8; (injection hₜ8 with hl hₜ1; (injection hₜ1 with T hₜ2; (injection hₜ2 with O hₜ3; (refine And.elim ?_ (hₜ3); (try clear hₜ3); intro hₜ4 nd7; rcases hₜ4 with rfl))))); intro F4 N4)
      (replace O := O; rw [List.length_map, List.drop_length] at O)
      have hsz := O.size
      have hsh := O.sh
      (replace hsh := hsh; rw [List.map_nil, addAll_nil] at hsh)
      ((rcases hl with hᵤ1 | hᵤ2) <;> (first | ((fail_if_success (fail_if_success clear hᵤ1)); subst hᵤ1) | ((fail_if_success (fail_if_success clear hᵤ2)); (injection hᵤ2 with v hₜ1; rcases hₜ1 with rfl))))
      all_goals simp only [putsL] at F4
      all_goals k_steps
      all_goals exact ret _ _ _ _ (by assumption) (News.of_sub (by assumption) fun q hq => (List.mem_append.mp hq).elim (List.mem_append_left _) fun h => List.mem_append_right _ (hRr q h)) ⟨T, rfl, O.ext, O.good, by simp only [wts] at hsz; (k_extra "MY om"), hsh.trans (by rw [List.map_map]; rfl), rfl, hback T nd7⟩
end
set_option linter.unusedVariables false
/-- entering a def with cells that only reads: the whole heap stands as its base -/
theorem code_readerC {w : World} {A₀ A : Around} {s : Shared} {base h₀ : Heap} {outer : List Env} {L : Addr} {m mg mb : Str → Option Value} {news : List (Addr × Obj)} {p : Program} {loose : List Str} {mean : ExcName → Option Value} {K : Frag}
    {env : Env} {R : Result → Shared → Prop} {name qual : Str} {params : Arguments} {body : List Stmt} {scope : Scope} {dV kV doc pm cdv ct oc : Value} {an od : Option Addr} {osl : Array (Option Value)} {f : Addr} {args : Args} {binds : List (Str × Value)}
    (B : Below A₀ base outer h₀) (F : Fr h₀ L s.heap m) (X₀ : K.In h₀) (N : News h₀ L s.heap news) (T : Top p loose mean mg mb h₀) (hA : A.frames = some (env :: outer)) (hf : env.frame = some L) (hke : env.scope.kind = .function)
    (ho : K.lookup f = some ⟨oc, od, .func (fnOf name qual params body scope dV kV doc pm an cdv ct), osl⟩) (hcd : codeIn K cdv qual = true) (hroom : A.depth < recursionLimit)
    (hbind : BindsTo s (fnOf name qual params body scope dV kV doc pm an cdv ct) args binds) (hkind : (binds.all fun y => scope.names.lookup y.1 == some .local || scope.names.lookup y.1 == some .cell) = true)
    (hnd : ((cellsFrom 0 scope.names []).map (·.1)).Nodup)
    (h : ∀ L' h₁ tk cells, Fr s.heap L' h₁ (bindL (envOfC qual scope L' f cdv).kindOf binds fun _ => none) → News s.heap L' h₁ cells → CellsAre (bindC (envOfC qual scope L' f cdv).kindOf binds fun _ => none) (cellsFrom (L' + 1) scope.names []) cells →
      Below A base (env :: outer) s.heap → K.In s.heap → Top p loose mean mg mb s.heap →
      (∀ v s' L'' m' new, Fr s.heap L'' s'.heap m' → News s.heap L'' s'.heap new → (Fr h₀ L s'.heap m → News h₀ L s'.heap (new ++ news) → Sub s.heap s'.heap → (∀ q ∈ new, s.heap.get? q.1 = none) → R (.ok (.ret v)) s') → LeaveK h₀ L m s.heap R v s') →
      wpAny (model PG w) (A.deeper (envOfC qual scope L' f cdv)) (execs body (envOfC qual scope L' f cdv))
        (fun fl s' => LeaveK h₀ L m s.heap R (match fl with | .ret v => v | _ => .none) s')
        (fun e s' => wpAny (model PG w) (A.deeper (envOfC qual scope L' f cdv)) (leaving (envOfC qual scope L' f cdv) e) (fun _ s'' => R (.error e) s'') (fun e' s'' => R (.error e') s'') s')
        { s with heap := h₁, toks := tk })
    (hco : scope.isCoroutine = false) (hgen : scope.isGenerator = false) (hk : scope.kind = .function) : codeAny (model PG w) A (.call (.ref f) args) R s := by
  (injection (groundX (R := R) B F (News.nil (h₀ := h₀) (h := s.heap) (L := L)) hA hf hke) with FG hₜ1; (injection hₜ1 with BG hₜ2; (injection hₜ2 with st lv)))
  refine codeAny_call_function hroom ((X₀.keeps F.keep) _ _ ho) rfl hco hgen rfl (codeRec_of (X₀.keeps F.keep) hcd) (hbind _ _ _ _ ?_)
  refine wpAny_newFunctionEnv_cells hk (kindsX hkind _) ?_
  (intro env'; intro he; intros s' x)
  subst he
  refine ⟨(T.nolimit.keeps F.keep).keeps x.toInCall.keep, codeAny_func ?_⟩
  (injection (x.done) with h₁ hₜ1; (injection hₜ1 with tk hₜ2; (refine And.elim ?_ (hₜ2); (try clear hₜ2); intro hₜ3 hₜ4; rcases hₜ3 with rfl; rcases hₜ4 with _)))
  have hk₁ := x.toInCall.keep
  (injection (Cl.news (h₀ := s.heap) (Nat.le_refl _) fun n c hm => ⟨x.cell n c (lookup_of_mem_nodup (cellsFrom_names scope.names 0 (s.heap.objs.size + 1) [] [] rfl ▸ hnd) hm), x.above n c hm⟩) with cells hₜ1; (injection hₜ1 with NC Y))
  refine wpAny_mono (h s.heap.objs.size h₁ tk cells ⟨x.toInCall.ns, fun b o e => hk₁ b o e, Nat.le_refl _⟩ NC Y BG (X₀.keeps st) (T.keeps st) ?_) (fun fl s' hl => lv _ _ hl) fun _ _ y => y
  (intros v s' L'' m' new; intro F' N'; intro k)
  refine ⟨L'', m', new, F', N', fun F₂ N₂ => k F₂ ?_ F'.keep fun q hq => (N' q hq).2.2⟩
  intro q hq
  rcases List.mem_append.mp hq with hq | hq
  · exact N₂ q hq
  · exact ⟨F'.keep _ _ (N q hq).1, (N q hq).2⟩
/-- read from a ledger alone -/
def RdV (l : List (Addr × Obj)) (v : Value) (d : PyData) : Prop := ∀ h : Heap, (∀ p ∈ l, h.get? p.1 = some p.2) → ∃ as, Reads h v d as
def RdA (l : List (Addr × Obj)) (vs : List Value) (ds : List PyData) : Prop := ∀ h : Heap, (∀ p ∈ l, h.get? p.1 = some p.2) → ∃ as, ReadsAll h vs ds as
theorem RdV.sub {l l' : List (Addr × Obj)} {v : Value} {d : PyData} (r : RdV l v d) (hs : ∀ p ∈ l, p ∈ l') : RdV l' v d := fun h hh => r h fun p hp => hh p (hs p hp)
theorem RdA.sub {l l' : List (Addr × Obj)} {vs : List Value} {ds : List PyData} (r : RdA l vs ds) (hs : ∀ p ∈ l, p ∈ l') : RdA l' vs ds := fun h hh => r h fun p hp => hh p (hs p hp)
theorem readsAll_app {h : Heap} {vs vs' : List Value} {ds ds' : List PyData} {as as' : List Addr} (r : ReadsAll h vs ds as) (r' : ReadsAll h vs' ds' as') : ∃ bs, ReadsAll h (vs ++ vs') (ds ++ ds') bs := by
  induction vs generalizing ds as with
  | nil => cases r; exact ⟨_, r'⟩
  | cons v vs ih => cases r with | cons r rs => exact (ih rs).elim fun bs q => ⟨_, .cons r q⟩
theorem RdA.app {l : List (Addr × Obj)} {vs vs' : List Value} {ds ds' : List PyData} (r : RdA l vs ds) (r' : RdA l vs' ds') : RdA l (vs ++ vs') (ds ++ ds') := fun h hh => by
  (injection (r h hh) with as q)
  (injection (r' h hh) with as' q')
  exact readsAll_app q q'
theorem RdA.nil {l : List (Addr × Obj)} : RdA l [] [] := fun h hh => ⟨_, .nil⟩
theorem RdA.one {l : List (Addr × Obj)} {v : Value} {d : PyData} (r : RdV l v d) : RdA l [v] [d] := fun h hh => by
  (injection (r h hh) with as q)
  exact ⟨_, .cons q .nil⟩
/-- one shape as it is laid -/
theorem RdV.shape {l : List (Addr × Obj)} {t x : Addr} {a b c : Str} {ta tb tc : Tok} {vs : List Value} {ds : List PyData} {k : Nat} (ht : (t, tupObj [.str a ta, .str b tb, .str c tc, .ref x]) ∈ l) (hx : (x, listOf vs.toArray k) ∈ l) (r : RdA l vs ds) :
    RdV l (.ref t) (.tuple [.str a, .str b, .str c, .list ds]) := fun h hh => by
  (injection (r h hh) with as q)
  exact ⟨_, .tuple (hh _ ht) rfl rfl (.cons (.str _ _) (.cons (.str _ _) (.cons (.str _ _) (.cons (.list (hh _ hx) rfl rfl (by simpa using q)) .nil))))⟩
section
variable {w : World} {A : Around} {h₀ : Heap} {L : Addr} {m : Str → Option Value} {env : Env}
/-- a list of what is read, one for each place of a row -/
theorem comp_shapes : ∀ {w : World} {A : Around} {h₀ : Heap} {L : Addr} {m : Str → Option Value} {env : Env} {lm : List (Addr × Obj)} {S : Nat → PyData} {scope : Scope} {cl : List (Str × Addr)} {x : Str} {elt : PySem.Expr} {done : Nat → Addr → List Value → Nat → List (Addr × Obj) → (Nat → List Value → List (Addr × Obj) → Prop) → Shared → Heap → Nat → Prop} {s₁ : Shared} {l c : Addr} {cs : List (Nat × Tok)} {news : List (Addr × Obj)} (F : Fr h₀ L s₁.heap m) (N : News h₀ L s₁.heap news) (hm : (l, listOf (cs.map nv).toArray c) ∈ news) (hz : cs.length ≤ 1000) (turn : ∀ (v : Nat × Tok) C I D oC oI oD m₂ h tk news' E', v ∈ cs → Fr h₀ L h m → News h₀ L h ((C, oC) :: (I, oI) :: (D, oD) :: (news' ++ news)) → LCg.NsObj oC m₂ → m₂ x = some (nv v) →
      wpAny (model PG w) A (eval elt (compEnvC scope cl C env)) (fun y s₃ => ∃ h' tk' new, s₃ = { s₁ with heap := h', toks := tk' } ∧ Fr h₀ L h' m ∧ News h₀ L h' (new ++ ((C, oC) :: (I, oI) :: (D, oD) :: (news' ++ news))) ∧
        (∀ q ∈ new, ∀ p ∈ ((C, oC) :: (I, oI) :: (D, oD) :: (news' ++ news) : List (Addr × Obj)), p.1 ≠ q.1) ∧ RdV (new ++ lm) y (S v.1)) E' { s₁ with heap := h, toks := tk }) (fin : ∀ J D ys own k h' tk, RdA (own ++ lm) ys (cs.map fun c => S c.1) → ys.length = cs.length → (∀ q ∈ own, ∀ p ∈ news, p.1 ≠ q.1) → (∀ p ∈ own ++ news, p.1 ≠ D) → News h₀ L h' ((D, listOf ys.toArray k) :: (own ++ news)) → done cs.length D ys k (own ++ news) J s₁ h' tk),
    CompAtL PG w A h₀ L m env scope cl x elt done (.ref l) s₁ := by
  have hEpsₑ : EpsOn 0 := ⟨True.intro⟩
  intros w A h₀ L m env lm S scope cl x elt
  intros done s₁ l c cs news
  intro F
  intro N
  intro hm
  intro hz
  intro turn
  intro fin
  refine ⟨l, cs.map nv, c, news, fun i ys news' => ∃ own, news' = own ++ news ∧ (∀ q ∈ own, ∀ p ∈ news, p.1 ≠ q.1) ∧ RdA (own ++ lm) ys ((cs.take i).map fun c => S c.1), rfl, ?_, F, N, ?_, ?_, ?_, ?_⟩
  · rw [List.length_map, PySem.sizeLine_eq]; (k_extra "MY om")
  · ((intros i ys news'); (intro hₜ1; (injection hₜ1 with own hₜ1; (refine And.elim ?_ (hₜ1); (try clear hₜ1); intro hₜ2 hₜ3; rcases hₜ2 with rfl; rcases hₜ3 with _))))
    exact .inl (List.mem_append_right _ hm)
  · exact ⟨[], rfl, (fun _ h => nomatch h), .nil⟩
  · ((intros C I D i v ys news₁ h tk oC oI oD; intros m₂ E' blk; intro hv); (intro hₜ4; (injection hₜ4 with own hₜ1; (refine And.elim ?_ (hₜ1); (try clear hₜ1); intro hₜ2 hₜ3; rcases hₜ2 with rfl; (injection hₜ3 with apo r)))); intro ap F' N' hC hx)
    have hₜ2 : ∃ c', cs[i]? = some c' ∧ nv c' = v := by
      (replace hv := hv; rw [List.getElem?_map] at hv)
      cases hq : cs[i]? with
      | none => (replace hv := hv; rw [hq] at hv); cases hv
      | some c' => (replace hv := hv; rw [hq] at hv); exact ⟨c', rfl, Option.some.inj hv⟩
    (injection hₜ2 with c' hₜ1; (injection hₜ1 with hc' hₜ2; rcases hₜ2 with rfl))
    refine wpAny_mono (turn c' C I D oC oI oD m₂ h tk own E' (List.mem_of_getElem? hc') F' N' hC hx) ?_ fun _ _ e => e
    (intros y s₃)
    ((intro hₜ4; (injection hₜ4 with h' hₜ1; (injection hₜ1 with tk' hₜ2; (injection hₜ2 with new hₜ3; (refine And.elim ?_ (hₜ3); (try clear hₜ3); intro hₜ4 hₜ5; rcases hₜ4 with rfl; (injection hₜ5 with F'' hₜ6; (injection hₜ6 with N'' hₜ7; (injection hₜ7 with hne ry)))))))))
    refine ⟨h', tk', (new ++ own) ++ news, rfl, F'', News.of_sub N'' fun q hq => ?_, fun p hp => ?_, new ++ own, rfl, fun q hq p hp => ?_, ?_⟩
    · simp only [List.mem_cons, List.mem_append] at hq ⊢
      rcases hq with h | h | h | (h | h) | h <;> simp [h]
    · (replace hp := hp; rw [List.append_assoc] at hp)
      rcases List.mem_append.mp hp with h | h
      · exact ⟨(hne p h (C, oC) (.head _)).symm, (hne p h (I, oI) (.tail _ (.head _))).symm, (hne p h (D, oD) (.tail _ (.tail _ (.head _)))).symm⟩
      · exact ap p h
    · rcases List.mem_append.mp hq with h | h
      · exact hne q h p (.tail _ (.tail _ (.tail _ (List.mem_append_right _ hp))))
      · exact apo q h p hp
    · rw [List.take_add_one, hc', List.map_append]
      refine RdA.app (r.sub fun p hp => ?_) (RdA.one (ry.sub fun p hp => ?_))
      · simp only [List.mem_append] at hp ⊢; rcases hp with h | h <;> simp [h]
      · simp only [List.mem_append] at hp ⊢; rcases hp with h | h <;> simp [h]
  · ((intros D ys k news' h' tk; intro hD0 hne); (intro hₜ8; (injection hₜ8 with own hₜ1; (refine And.elim ?_ (hₜ1); (try clear hₜ1); intro hₜ2 hₜ3; rcases hₜ2 with rfl; (injection hₜ3 with apo r)))); intro hlen N')
    (replace r := r; rw [List.length_map, List.take_length] at r)
    (replace hlen := hlen; rw [List.length_map] at hlen ⊢)
    exact fin _ D ys own k h' tk r hlen apo hne N'
end
/-- a list plus a list of the base -/
theorem cat_two {prog : Program} {w : World} {A : Around} {E : Value → Shared → Prop} {s : Shared} {h₀ : Heap} {L a b : Addr} {m : Str → Option Value} {news : List (Addr × Obj)} {ca cb : Nat} {xs ys : List Value} {Q : Value → Shared → Prop} (F : Fr h₀ L s.heap m) (N : News h₀ L s.heap news) (ha : (a, listOf xs.toArray ca) ∈ news) (hb : h₀.get? b = some (listOf ys.toArray cb))
    (h : ∀ D h', Fr h₀ L h' m → News h₀ L h' ((D, listOf (xs ++ ys).toArray 0) :: news) → (∀ p ∈ news, p.1 < D) → Q (.ref D) { s with heap := h' })
    (hx : xs.length ≤ 1000) (hy : ys.length ≤ 1000) : wpAny (model prog w) A (binaryOp .Add (.ref a) (.ref b)) Q E s :=
  add_lists F N (News.isList N ha) ⟨_, F.keep _ _ hb, rfl, _, rfl⟩ (fun h' F' N' => h _ h' F' N' fun p hp => Heap.lt_size (N p hp).1) (by rw [PySem.sizeLine_eq]; (k_extra "MY om"))
set_option linter.unusedVariables false
theorem words_26 : True := by
  k_with "OFF 25" => (skip)
  k_with "MY reader" => ((fail_if_success k_extra "OFF 27"); (refine wpAny_call ?_; with_unfolding_all (refine' code_reader ?k1ₘ ?k2ₘ ?k3ₘ ?k4ₘ ?k5ₘ ?kAₘ ?kFₘ ?kKₘ ?k6ₘ ?k7ₘ ?k8ₘ ?k9ₘ ?kBₘ ?_ ?c2ₘ ?c3ₘ ?c4ₘ ?c5ₘ; (case kAₘ => exact rfl); (case kFₘ => exact rfl); (case kKₘ => assumption); (case k1ₘ => k_asm); (case k2ₘ => k_asm); (case k3ₘ => k_asm); (case k4ₘ => k_asm); (case k5ₘ => k_asm); (case k6ₘ => k_is); (case k7ₘ => k_is); (case k8ₘ => ((try dsimp only [ktrTop]); (k_extra "MY om"))); (case k9ₘ => exact BindsTo.of_eq rfl); (case c5ₘ => decide); (case kBₘ => exact locs rfl); (case c2ₘ => exact rfl); (case c3ₘ => exact rfl); (case c4ₘ => exact rfl); k_whole)))
  k_with "LeaveK" => ((fail_if_success k_extra "OFF 27"); ((rename (∀ _ _ _ _ _, Fr _ _ _ _ → News _ _ _ _ → _ → LeaveK _ _ _ _ _ _ _) => lv9ₘ); k_dflt (refine' lv9ₘ _ _ _ _ _ ?k1ₘ ?k2ₘ ?_; (case k1ₘ => k_asm); (case k2ₘ => k_asm); k_whole); (intros kFₘ kNₘ kSₘ kOₘ); (try dsimp only)))
  k_with "exec For Name Name cons nil" => ((fail_if_success k_extra "OFF 27"); refine halt_of ?_)
  k_with "MY k_inst" => ((fail_if_success k_extra "OFF 27"); first | (refine' inst_tree ?Fₘ ?h1ₘ; (case Fₘ => k_asm); (case h1ₘ => assumption)) | (refine' inst_node ?Fₘ ?h1ₘ ?h2ₘ; (case Fₘ => k_asm); (case h1ₘ => assumption); (case h2ₘ => assumption)))
  k_with "MY rp" => ((fail_if_success k_extra "OFF 27"); (case kpₘ => exact PT.At.sub (by assumption) (Fr.keep (by k_asm))))
  k_with "MY size" => ((fail_if_success k_extra "OFF 27"); (simp only [List.size_toArray, List.length_map, Array.size_push, PySem.sizeLine_eq]; (k_extra "MY om")))
  k_with "call builtin:list.append" => ((fail_if_success k_extra "OFF 27"); (k_here; (with_reducible show wpAny _ _ (call (Value.builtin _) [Value.ref _, _]) _ _ _); k_dflt (refine' append_K ?k1ₘ ?k2ₘ ?k3ₘ ?_ ?zₘ; (case k1ₘ => k_asm); (case k2ₘ => k_asm); (case k3ₘ => k_upd); (case zₘ => k_extra "MY size"); k_whole); intro h'ₘ F'ₘ N'ₘ))
  k_with "subscriptTail Name Slice ref ref" => ((fail_if_success k_extra "OFF 27"); (k_here; k_dflt (refine' krv_lit ?Fₘ ?Nₘ ?lₘ ?kₘ ?eₘ ?_ ?sₘ ?tₘ ?zₘ; (case Fₘ => k_asm); (case Nₘ => k_asm); (case lₘ => exact News.isList (by k_asm) (by k_mem)); (case kₘ => exact IsPart.int _ _); (case eₘ => exact rfl); (case sₘ => with_unfolding_all rfl); (case tₘ => (intro _; with_unfolding_all rfl)); (case zₘ => k_extra "MY size")); (intros D'ₘ h'ₘ; intro F'ₘ N'ₘ l1ₘ); (try k_lt l1ₘ)))
  k_with "MY readerC" => ((fail_if_success k_extra "OFF 27"); (refine wpAny_call ?_; with_unfolding_all (refine' code_readerC ?k1ₘ ?k2ₘ ?k3ₘ ?k4ₘ ?k5ₘ ?kAₘ ?kFₘ ?kKₘ ?k6ₘ ?k7ₘ ?k8ₘ ?k9ₘ ?kBₘ ?kDₘ ?_ ?c2ₘ ?c3ₘ ?c4ₘ; (case kAₘ => exact rfl); (case kFₘ => exact rfl); (case kKₘ => assumption); (case k1ₘ => k_asm); (case k2ₘ => k_asm); (case k3ₘ => k_asm); (case k4ₘ => k_asm); (case k5ₘ => k_asm); (case k6ₘ => k_is); (case k7ₘ => k_is); (case k8ₘ => ((try dsimp only [ktrTop]); (k_extra "MY om"))); (case k9ₘ => exact BindsTo.of_eq rfl); (case kBₘ => exact rfl); (case kDₘ => decide +kernel); (case c2ₘ => exact rfl); (case c3ₘ => exact rfl); (case c4ₘ => exact rfl); k_whole)))
  k_with "subscriptTail Name Slice ref ref" => ((fail_if_success k_extra "OFF 29"); (k_here; k_dflt (refine' rev_any ?wFₘ ?wNₘ ?wlₘ ?wkₘ ?_ ?wsₘ ?wtₘ ?wzₘ; (case wFₘ => k_asm); (case wNₘ => k_asm); (case wlₘ => exact News.isList (by k_asm) (by k_extra "MY in")); (case wkₘ => exact IsPart.int _ _); (case wsₘ => with_unfolding_all rfl); (case wtₘ => (intro _; with_unfolding_all rfl)); (case wzₘ => k_extra "MY lsize")); (intros D'ₘ h'ₘ; intro F'ₘ N'ₘ l1ₘ); (try dsimp only at N'ₘ); (try k_lt l1ₘ)))
  trivial
def EqG (w : World) (gv : Value) (isG : Nat → Bool) : Prop := ∀ (A : Around) (E : Value → Shared → Prop) (s : Shared) (Q : Value → Shared → Prop) (j : Nat) (tj : Tok), Q (.bool (isG j)) s → wpAny (model PG w) A (compareOp .Eq (.int (j : Int) tj) gv) Q E s
theorem words_27 : True := by
  k_with "OFF 26" => (skip)
  k_with "MY in" => ((fail_if_success k_extra "OFF 27"); (repeat (first | assumption | with_reducible exact List.mem_cons_self | with_reducible refine List.mem_cons_of_mem _ ?_ | with_reducible refine List.mem_append_right _ ?_)))
  k_with "eval Name" => ((fail_if_success k_extra "OFF 27"); (k_dflt (first | (refine' LCgL.ld_own ?Nₘ ?mₘ ?Cₘ ?xₘ ?_; (case Nₘ => k_asm); (case mₘ => k_extra "MY in"); (case Cₘ => assumption); (case xₘ => assumption)) | (refine' lcf_cell ?Nₘ ?cₘ ?mₘ ?dₘ ?_ ?aₘ ?bₘ; (case aₘ => rfl); (case bₘ => rfl); (case Nₘ => k_asm); (case cₘ => rfl); (case mₘ => k_extra "MY in"); (case dₘ => assumption); k_whole) | (refine' lcf_free ?Nₘ ?cₘ ?mₘ ?dₘ ?_ ?aₘ ?bₘ; (case aₘ => rfl); (case bₘ => rfl); (case Nₘ => k_asm); (case cₘ => rfl); (case mₘ => k_extra "MY in"); (case dₘ => assumption); k_whole) | (refine' nameX_C ?Nₘ ?cₘ ?mₘ ?dₘ ?_ ?aₘ ?bₘ; (case aₘ => rfl); (case bₘ => rfl); (case Nₘ => k_asm); (case cₘ => rfl); (case mₘ => k_extra "MY in"); (case dₘ => assumption); k_whole))))
  k_with "binaryOp Add ref ref" => ((fail_if_success k_extra "OFF 27"); (k_here; k_dflt (first | (refine' cat_two ?wFₘ ?wNₘ ?waₘ ?wbₘ ?_ ?wxₘ ?wyₘ; (case wFₘ => k_asm); (case wNₘ => k_asm); (case waₘ => k_extra "MY in"); (case wbₘ => assumption); (case wxₘ => (k_extra "MY om")); (case wyₘ => (k_extra "MY om"))) | (refine' cat_any ?wFₘ ?wNₘ ?waₘ ?wbₘ ?_ ?wxₘ ?wyₘ; (case wFₘ => k_asm); (case wNₘ => k_asm); (case waₘ => k_extra "MY in"); (case wbₘ => exact .head _); (case wxₘ => (k_extra "MY om")); (case wyₘ => exact Nat.zero_le _))); (intros D'ₘ h'ₘ; intro F'ₘ N'ₘ l1ₘ); (try k_lt l1ₘ)))
  k_with "exec Assign cons ListComp" => ((fail_if_success k_extra "OFF 27"); refine halt_of ?_)
  k_with "compareOp Eq int" => ((fail_if_success k_extra "OFF 27"); ((rename EqG _ _ _ => hc9ₘ); k_dflt refine hc9ₘ _ _ _ _ _ _ ?_))
  k_with "call ref" => ((fail_if_success k_extra "OFF 27"); first | ((with_reducible show wpAny _ _ (call (Value.ref 424) _) _ _ _); k_dflt (refine' RSpec.use2 (kind_of _ _ _ _ _ ?hkₘ) ?k1ₘ ?k2ₘ ?k3ₘ ?k4ₘ ?k5ₘ ?kKₘ ?kdₘ ?kuₘ ?kpₘ ?_; (case hkₘ => assumption); k_extra "MY rd"; k_extra "MY rp"; k_whole); (intros r9ₘ new9ₘ h9ₘ tk9ₘ; intro F9ₘ N9ₘ S9ₘ O9ₘ p9ₘ); ((injection p9ₘ with p9ₘ p9'ₘ); subst p9ₘ; subst p9'ₘ); simp only [List.nil_append] at N9ₘ; k_extra "MY use") | ((with_reducible show wpAny _ _ (call (Value.ref 431) _) _ _ _); k_dflt (refine' RSpec.use2 (name_of _ _ _ _ _ ?hkₘ) ?k1ₘ ?k2ₘ ?k3ₘ ?k4ₘ ?k5ₘ ?kKₘ ?kdₘ ?kuₘ ?kpₘ ?_; (case hkₘ => assumption); k_extra "MY rd"; k_extra "MY rp"; k_whole); (intros r9ₘ new9ₘ h9ₘ tk9ₘ; intro F9ₘ N9ₘ S9ₘ O9ₘ p9ₘ); ((injection p9ₘ with p9ₘ p9'ₘ); subst p9ₘ; subst p9'ₘ); simp only [List.nil_append] at N9ₘ; k_extra "MY use") | ((with_reducible show wpAny _ _ (call (Value.ref 452) _) _ _ _); k_dflt (refine' RSpec.use2 (value_of _ _ _ _ _ ?hkₘ) ?k1ₘ ?k2ₘ ?k3ₘ ?k4ₘ ?k5ₘ ?kKₘ ?kdₘ ?kuₘ ?kpₘ ?_; (case hkₘ => assumption); k_extra "MY rd"; k_extra "MY rp"; k_whole); (intros r9ₘ new9ₘ h9ₘ tk9ₘ; intro F9ₘ N9ₘ S9ₘ O9ₘ p9ₘ); ((injection p9ₘ with p9ₘ p9'ₘ); subst p9ₘ; subst p9'ₘ); simp only [List.nil_append] at N9ₘ; k_extra "MY use") | (k_dflt ((with_reducible show wpAny _ _ (call (Value.ref 466) _) _ _ _); k_dflt (refine' RSpec.use2 (children_of _ _ _ _ _ ?hkₘ) ?k1ₘ ?k2ₘ ?k3ₘ ?k4ₘ ?k5ₘ ?kKₘ ?kdₘ ?kuₘ ?kpₘ ?_; (case hkₘ => assumption); k_extra "MY rd"; k_extra "MY rp"; k_whole); (intros r9ₘ new9ₘ h9ₘ tk9ₘ; intro F9ₘ N9ₘ S9ₘ O9ₘ p9ₘ); ((injection p9ₘ with x9ₘ hₜ1; (injection hₜ1 with e9ₘ hₜ2; (injection hₜ2 with p9ₘ p9'ₘ))); subst p9ₘ; subst p9'ₘ); simp only [List.cons_append, List.nil_append] at N9ₘ; ((have l9ₘ := allNe_of (O9ₘ.2 _ (.head _))); replace O9ₘ := O9ₘ.1; (try simp only [AllNe, and_true] at l9ₘ)); k_extra "MY use")) | refine halt_of ?_)
  k_with "eval Name" => ((fail_if_success k_extra "OFF 28"); k_here; name_kind "local"; k_dflt (refine' nameX_L ?k1ₘ ?k2ₘ ?_ ?k3ₘ ?k4ₘ; (case k1ₘ => k_asm); (case k3ₘ => rfl); (case k4ₘ => rfl); (case k2ₘ => rfl); k_whole))
  trivial
set_option maxRecDepth 100000 in
set_option maxHeartbeats 8000000 in
theorem law_shape_of : ∀ (w : World) (T : PT) (g : T.Good) (hl : T.ns.length ≤ 300) (gv : Value) (isG : Nat → Bool) (hcmp : EqG w gv isG) (xm : Addr) (ms : List Value) (ds : List PyData) (em : Nat) (lm : List (Addr × Obj)) (hms : ms.length ≤ 300) (hr : RdA lm ms ds),
    ∀ f j tj, T.ns.length ≤ f + j → j < T.ns.length → RSpec w 611 (f + 3) [.ref T.b.t, .int (j : Int) tj, gv, .ref xm] (fun h => T.At w.params h ∧ h.get? xm = some (listOf ms.toArray em))
      (fun _ r new => ∃ x, r = .ref x ∧ RdV (new ++ lm) (.ref x) (T.sh (fun i => if isG i = true then ds else []) f j)) := by
  have hEpsₑ : EpsOn 0 := ⟨True.intro⟩
  intros w T
  intro g
  intro hl
  intros gv isG
  intro hcmp
  intros xm ms ds em lm
  intro hms
  intro hr
  refine natI ?_ ?_
  · (intros j tj h1 h2); (k_extra "MY om")
  (intros f ih)
  (intros j tj h1 h2 dp un gd cn cs a ccd cl outer A₀ base h₀ L m news s p loose mean; intros mg mb Q E; intro B F X N; intro Tp; intro hk9 hd hu pre ret)
  (injection pre with hAt hxm)
  have hT := hAt.2.1
  (injection (lt_get h2) with n hn)
  have hch : n.ch.length ≤ 300 := Nat.le_trans (g.short n (List.mem_of_getElem? hn)) hl
  k_extra "MY readerC"
  (intros L' h' tk cells; intro F' N' Y B' X' T' lv)
  refine cells3 Y ?_; clear Y; intro o1; intro o2; intro o3; refine fun hEₖ d1 d2 d3 => ?_; subst hEₖ
  replace d1 : Obj.data o1 = Data.cell (some (.ref xm)) := d1
  replace d2 : Obj.data o2 = Data.cell (some gv) := d2
  replace d3 : Obj.data o3 = Data.cell (some (.ref T.b.t)) := d3
  try dsimp only
  try k_fold
  k_steps
  unfold Halt
  refine Assign_ListComp_J F' (by with_unfolding_all rfl) rfl rfl rfl (by decide) rfl (by decide) rfl rfl rfl ?_
  k_steps
  rename (Fr _ _ _ _) => F4
  rename (News _ _ _ _) => N4
  refine comp_shapes (cs := n.ch) (lm := lm) (S := fun c => T.sh (fun i => if isG i = true then ds else []) f c) F4 N4 (.head _) (by (k_extra "MY om")) ?_ ?_
  · clear F4 N4
    ((first | (refine prodI ?_; intro v; intro tv) | (intro hₜ1; (injection hₜ1 with v tv))); (intros C I D oC oI oD m2 h4; intros tk4 newsx E'; intro hv F5 N5 hC hx))
    simp only [nv] at hx
    have hup := g.wf.ch j n hn _ hv
    dsimp only at hup
    k_steps
    unfold Halt
    rename (Fr _ _ _ _) => F8
    rename (News _ _ _ _) => N8
    refine RSpec.use2 (ih v tv (by (k_extra "MY om")) hup.2) B' F8 X' N8 T' rfl (by (try dsimp only [ktrTop, Around.deeper]); (k_extra "MY om")) (by (try dsimp only [ktrTop, Around.deeper]); (k_extra "MY om")) ⟨hAt.sub F8.keep, F8.keep _ _ hxm⟩ ?_
    ((intros r9 new9 h9 tk9; intro F9 N9 S9 O9); (intro hₜ1; (injection hₜ1 with x9 hₜ1; (refine And.elim ?_ (hₜ1); (try clear hₜ1); intro hₜ2 r9'; rcases hₜ2 with rfl))))
    k_steps
    all_goals (first | assumption | exact O9.2 _ (by assumption) _ (by assumption))
  · clear F4 N4
    (intros J D ys own k h4; intro tk4; intro hra hlen hne N5 F5)
    have hyl : ys.length ≤ 300 := by (k_extra "MY om")
    k_steps
    · have hG : isG j = true := by assumption
      rename (Fr _ _ _ _) => F6
      rename (News _ _ _ _) => N6
      refine ret _ _ _ _ (by assumption) (by assumption) (by assumption) (by assumption) ⟨_, rfl, ?_⟩
      rw [PT.sh_succ hn, if_pos hG]
      refine RdV.shape (vs := ys ++ ms) (.head _) (.tail _ (.head _)) (RdA.app (hra.sub ?_) (hr.sub ?_))
      · intro p hp
        rcases List.mem_append.mp hp with h | h
        · exact List.mem_append_left _ (.tail _ (.tail _ (.tail _ (List.mem_append_left _ h))))
        · exact List.mem_append_right _ h
      · intro p hp
        exact List.mem_append_right _ hp
    · have hG : ¬ isG j = true := Bool.not_eq_true _ ▸ (show isG j = false by assumption)
      refine ret _ _ _ _ (by assumption) (by assumption) (by assumption) (by assumption) ⟨_, rfl, ?_⟩
      rw [PT.sh_succ hn, if_neg hG]
      refine RdV.shape (vs := ys ++ []) (.head _) (.tail _ (.head _)) (RdA.app (hra.sub ?_) .nil)
      · intro p hp
        rcases List.mem_append.mp hp with h | h
        · exact List.mem_append_left _ (.tail _ (.tail _ (.tail _ (.tail _ (List.mem_append_left _ h)))))
        · exact List.mem_append_right _ h
set_option linter.unusedVariables false
theorem eqG_none {w : World} : EqG w .none (fun _ => false) := fun A E s Q j tj h => PySem.EqNone.eq_int_none h
theorem eqG_int {w : World} {p : Nat} {tp : Tok} : EqG w (.int (p : Int) tp) (fun j => j == p) := fun A E s Q j tj h => PyProof.Rows.eq_int (by
  have : ((j : Int) == (p : Int)) = (j == p) := by
    rw [Bool.eq_iff_iff]; simp; (k_extra "MY om")
  rw [this]; exact h)
/-- each address but once -/
def dd : List (Addr × Obj) → List (Addr × Obj)
  | [] => []
  | p :: l => if p.1 ∈ (dd l).map Prod.fst then dd l else p :: dd l
theorem dd_nd : ∀ l, ND (dd l)
  | [] => List.nodup_nil
  | p :: l => by
    unfold dd
    by_cases h : p.1 ∈ (dd l).map Prod.fst
    · rw [if_pos h]; exact dd_nd l
    · rw [if_neg h]; exact List.nodup_cons.mpr ⟨h, dd_nd l⟩
theorem dd_sub : ∀ l, ∀ p ∈ dd l, p ∈ l
  | [], p, h => h
  | q :: l, p, h => by
    unfold dd at h
    by_cases hq : q.1 ∈ (dd l).map Prod.fst
    · rw [if_pos hq] at h; exact .tail _ (dd_sub l p h)
    · rw [if_neg hq] at h
      rcases List.mem_cons.mp h with rfl | h
      · exact .head _
      · exact .tail _ (dd_sub l p h)
theorem dd_all {h : Heap} : ∀ l : List (Addr × Obj), (∀ p ∈ l, h.get? p.1 = some p.2) → ∀ p ∈ l, p ∈ dd l
  | [], _, p, hp => hp
  | q :: l, hh, p, hp => by
    have ih := dd_all l fun r hr => hh r (.tail _ hr)
    unfold dd
    by_cases hq : q.1 ∈ (dd l).map Prod.fst
    · rw [if_pos hq]
      rcases List.mem_cons.mp hp with rfl | hp
      · obtain ⟨r, hr, e⟩ := List.mem_map.mp hq
        have h1 := hh r (.tail _ (dd_sub l r hr))
        have h2 := hh p (.head _)
        rw [e, h2] at h1
        have : r = p := Prod.ext e (Option.some.inj h1).symm
        exact this ▸ hr
      · exact ih p hp
    · rw [if_neg hq]
      rcases List.mem_cons.mp hp with rfl | hp
      · exact .head _
      · exact .tail _ (ih p hp)
/-- a ledger brought to one whose addresses are apart -/
theorem ldg_dd {g h : Heap} {L : Addr} {A B X : List (Addr × Obj)} (N : News g L h (A ++ (B ++ X))) (nd : ND (A ++ X)) (ap : ∀ q ∈ B, ∀ p ∈ A ++ X, p.1 ≠ q.1) :
    News g L h (A ++ (dd B ++ X)) ∧ ND (A ++ (dd B ++ X)) ∧ (∀ p ∈ B, p ∈ dd B) := by
  have hB := dd_all (h := h) B fun p hp => (N p (List.mem_append_right _ (List.mem_append_left _ hp))).1
  refine ⟨News.of_sub N fun p hp => ?_, ?_, hB⟩
  · rcases List.mem_append.mp hp with h | h
    · exact List.mem_append_left _ h
    · rcases List.mem_append.mp h with h | h
      · exact List.mem_append_right _ (List.mem_append_left _ (dd_sub B p h))
      · exact List.mem_append_right _ (List.mem_append_right _ h)
  · refine ND.perm ?_ (List.perm_append_comm_assoc (dd B) A X)
    unfold ND
    rw [List.map_append]
    refine List.nodup_append.mpr ⟨dd_nd B, nd, fun a ha b hb e => ?_⟩
    obtain ⟨p, hp, rfl⟩ := List.mem_map.mp ha
    obtain ⟨q, hq, rfl⟩ := List.mem_map.mp hb
    exact ap p (dd_sub B p hp) q hq e.symm
/-- the texts of a tree are texts -/
def PT.Txt (T : PT) : Prop := ∀ n ∈ T.ns, PyData.strOk n.kind = true ∧ PyData.strOk n.name = true ∧ PyData.strOk n.value = true
theorem canLay_all {l : List PyData} (h : ∀ s ∈ l, PyData.canLay0 s = true) : PyData.canLayAll0 l = true := by
  induction l with
  | nil => rfl
  | cons s l ih => simp only [PyData.canLayAll0, h s (.head _), ih fun t ht => h t (.tail _ ht), Bool.and_self]
theorem depth_all {l : List PyData} {d : Nat} (h : ∀ s ∈ l, PyData.depth s ≤ d) : PyData.depthAll l ≤ d := by
  induction l with
  | nil => exact Nat.zero_le _
  | cons s l ih =>
    have h1 := h s (.head _)
    have h2 := ih fun t ht => h t (.tail _ ht)
    simp only [PyData.depthAll]; (k_extra "MY om")
theorem sh_shaped {T : PT} (tx : T.Txt) (up : T.Up) {pd : Nat → List PyData} {d0 : Nat} (hpd : ∀ j, ∀ s ∈ pd j, PyData.canLay0 s = true ∧ PyData.depth s ≤ d0) :
    ∀ f j, PyData.canLay0 (T.sh pd f j) = true ∧ PyData.depth (T.sh pd f j) ≤ 2 * (T.ns.length - j) + d0
  | 0, j => ⟨rfl, by show PyData.depth .none ≤ _; simp [PyData.depth]⟩
  | f + 1, j => by
    cases hj : T.ns[j]? with
    | none => rw [PT.sh, hj]; exact ⟨rfl, by simp [PyData.depth]⟩
    | some n =>
      rw [PT.sh_succ hj]
      have hjl := get_lt hj
      obtain ⟨t1, t2, t3⟩ := tx n (List.mem_of_getElem? hj)
      have hk : ∀ s ∈ n.ch.map (fun c => T.sh pd f c.1) ++ pd j, PyData.canLay0 s = true ∧ PyData.depth s ≤ 2 * (T.ns.length - j) - 2 + d0 := by
        intro s hs
        rcases List.mem_append.mp hs with h | h
        · obtain ⟨c, hc, rfl⟩ := List.mem_map.mp h
          have h1 := sh_shaped tx up hpd f c.1
          have h2 := up j n hj c hc
          exact ⟨h1.1, Nat.le_trans h1.2 (Nat.add_le_add_right (Nat.le_sub_of_add_le (Nat.mul_le_mul_left 2 (Nat.sub_lt_sub_left hjl h2.1))) d0)⟩
        · have := hpd j s h
          exact ⟨this.1, Nat.le_trans this.2 (Nat.le_add_left _ _)⟩
      have hd := depth_all fun s hs => (hk s hs).2
      refine ⟨?_, ?_⟩
      · simp only [PyData.canLay0, PyData.canLayAll0, t1, t2, t3, canLay_all fun s hs => (hk s hs).1, Bool.and_self]
      · simp only [PyData.depth, PyData.depthAll]; (k_extra "MY om")
theorem due_shaped {T0 : PT} (S : T0.Src) (tx : T0.Txt) (p : Nat) (cs : List Nat) : PySem.SeqAt.shaped (T0.sh (fun j => if j = p then cs.map T0.S0 else []) 600 0) = true := by
  have h9 := S.nine
  have h1 : ∀ c, PyData.canLay0 (T0.S0 c) = true ∧ PyData.depth (T0.S0 c) ≤ 18 := fun c => by
    have := sh_shaped (pd := fun _ => []) (d0 := 0) tx S.good.wf.ch (fun j s hs => by cases hs) 600 c
    exact ⟨this.1, by unfold PT.S0; (k_extra "MY om")⟩
  have h2 := sh_shaped (pd := fun j => if j = p then cs.map T0.S0 else []) (d0 := 18) tx S.good.wf.ch (fun j s hs => by
    by_cases h : j = p
    · rw [if_pos h] at hs
      obtain ⟨c, _, rfl⟩ := List.mem_map.mp hs
      exact h1 c
    · rw [if_neg h] at hs; cases hs) 600 0
  unfold PySem.SeqAt.shaped
  rw [h2.1, Bool.true_and]
  exact decide_eq_true (by (k_extra "MY om"))
set_option linter.unusedVariables false
theorem words_28 : True := by
  k_with "OFF 27" => (skip)
  k_with "MY enter" => ((fail_if_success k_extra "OFF 42"); (refine wpAny_call ?_; with_unfolding_all (refine' code_def ?k1ₘ ?k2ₘ ?k3ₘ ?k4ₘ ?k5ₘ ?kAₘ ?kFₘ ?kKₘ ?k6ₘ ?k7ₘ ?k8ₘ ?k9ₘ ?kBₘ ?_ ?c2ₘ ?c3ₘ ?c4ₘ ?c5ₘ; (case kAₘ => exact rfl); (case kFₘ => exact rfl); (case kKₘ => assumption); (case k1ₘ => k_asm); (case k2ₘ => k_asm); (case k3ₘ => k_asm); (case k4ₘ => k_asm); (case k5ₘ => k_asm); (case k6ₘ => k_is); (case k7ₘ => k_is); (case k8ₘ => ((try dsimp only [ktrTop]); (k_extra "MY om"))); (case k9ₘ => exact BindsTo.of_eq rfl); (case c5ₘ => decide); (case kBₘ => exact locs rfl); (case c2ₘ => exact rfl); (case c3ₘ => exact rfl); (case c4ₘ => exact rfl); k_whole)))
  k_with "MY k_room" => ((fail_if_success k_extra "OFF 42"); ((try dsimp only [ktrTop, Around.deeper]); (try simp only [depth_under_make, depth_under_kw, depth_in1, depth_deeper, depth_caller]); (k_extra "MY om")))
  k_with "MY k_inst" => ((fail_if_success k_extra "OFF 34"); first | (refine' inst_treeN ?Fₘ; (case Fₘ => k_asm)) | (refine' inst_nodeN ?Fₘ ?h2ₘ; (case Fₘ => k_asm); (case h2ₘ => assumption)))
  k_with "call ref" => ((fail_if_success k_extra "OFF 29"); ((with_reducible show wpAny _ _ (call (Value.ref 347) _) _ _ _); k_dflt (refine' RSpec.use (row_of _ _ _ _ _ ?hkₘ) ?k1ₘ ?k2ₘ ?k3ₘ ?k4ₘ ?k5ₘ ?kKₘ ?kdₘ ?kuₘ ?kpₘ ?_; (case hkₘ => assumption); k_extra "MY rd"; (case kpₘ => exact at_news (by k_asm) (by (k_extra "MY om")) (by assumption)); k_whole); (intros r9ₘ new9ₘ h9ₘ tk9ₘ; intro F9ₘ N9ₘ S9ₘ O9ₘ p9ₘ); ((injection p9ₘ with p9ₘ p9'ₘ); subst p9ₘ; subst p9'ₘ); simp only [List.nil_append] at N9ₘ; k_extra "MY use"))
  k_with "MY enterC" => ((fail_if_success k_extra "OFF 29"); (refine wpAny_call ?_; with_unfolding_all (refine' code_defC ?k1ₘ ?k2ₘ ?k3ₘ ?k4ₘ ?k5ₘ ?kAₘ ?kFₘ ?kKₘ ?k6ₘ ?k7ₘ ?k8ₘ ?k9ₘ ?kBₘ ?kDₘ ?_ ?c2ₘ ?c3ₘ ?c4ₘ; (case kAₘ => exact rfl); (case kFₘ => exact rfl); (case kKₘ => assumption); (case k1ₘ => k_asm); (case k2ₘ => k_asm); (case k3ₘ => k_asm); (case k4ₘ => k_asm); (case k5ₘ => k_asm); (case k6ₘ => k_is); (case k7ₘ => k_is); (case k8ₘ => ((try dsimp only [ktrTop]); (k_extra "MY om"))); (case k9ₘ => exact BindsTo.of_eq rfl); (case kBₘ => exact rfl); (case kDₘ => decide +kernel); (case c2ₘ => exact rfl); (case c3ₘ => exact rfl); (case c4ₘ => exact rfl); k_whole)))
  k_with "compareOp NotEq ref ref" => ((fail_if_success k_extra "OFF 29"); (k_here; k_dflt (first | (refine' ne_snoc ?wNₘ ?waₘ ?wbₘ ?wuₘ ?_; (case wNₘ => k_asm); (case waₘ => k_extra "MY in"); (case wbₘ => k_extra "MY in"); (case wuₘ => ((try dsimp only [ktrTop, Around.deeper]); (k_extra "MY om")))) | (refine' ne_nil ?wNₘ ?waₘ ?wbₘ ?wuₘ ?_; (case wNₘ => k_asm); (case waₘ => k_extra "MY in"); (case wbₘ => k_extra "MY in"); (case wuₘ => ((try dsimp only [ktrTop, Around.deeper]); (k_extra "MY om")))))))
  k_with "call builtin:list.pop" => ((fail_if_success k_extra "OFF 29"); (k_here; k_dflt (refine' pop_snoc ?wFₘ ?wNₘ ?wUₘ ?wzₘ ?_; (case wFₘ => k_asm); (case wNₘ => k_asm); (case wUₘ => k_upd); (case wzₘ => k_extra "MY lsize")); intro h'ₘ F'ₘ N'ₘ))
  k_with "call builtin:list.extend" => ((fail_if_success k_extra "OFF 29"); (k_here; k_dflt (refine' extend_any ?wFₘ ?wNₘ ?wbₘ ?wUₘ ?wxₘ ?wyₘ ?_; (case wFₘ => k_asm); (case wNₘ => k_asm); (case wbₘ => k_extra "MY in"); (case wUₘ => k_upd); (case wxₘ => k_extra "MY lsize"); (case wyₘ => k_extra "MY lsize")); intro h'ₘ F'ₘ N'ₘ))
  k_with "call builtin:list.append" => ((fail_if_success k_extra "OFF 29"); (k_here; (with_reducible show wpAny _ _ (call (Value.builtin _) [Value.ref _, _]) _ _ _); k_dflt (refine' append_K ?k1ₘ ?k2ₘ ?k3ₘ ?_ ?wzₘ; (case k1ₘ => k_asm); (case k2ₘ => k_asm); (case k3ₘ => k_upd); (case wzₘ => k_extra "MY lsize"); k_whole); intro h'ₘ F'ₘ N'ₘ))
  trivial
section
theorem words_29 : True := by
  k_with "OFF 28" => (skip)
  k_with "exec If Compare cons nil" => ((fail_if_success k_extra "OFF 29"); ((fail_if_success (have _gₘ : Go := by assumption)); refine halt_of ?_))
  k_with "MY k_all" => ((fail_if_success k_extra "OFF 34"); assumption)
  k_with "MY in" => ((fail_if_success k_extra "OFF 29"); (repeat (first | assumption | with_reducible exact List.mem_cons_self | with_reducible refine List.mem_cons_of_mem _ ?_ | with_reducible refine List.mem_append_right _ ?_)))
  k_with "eval Name" => ((fail_if_success k_extra "OFF 29"); ((with_reducible show wpAny _ _ (eval (Expr.Name _ _) (compEnvC _ _ _ _)) _ _ _); k_dflt (first | (refine' LCgL.ld_own ?Nₘ ?mₘ ?Cₘ ?xₘ ?_; (case Nₘ => k_asm); (case mₘ => k_extra "MY in"); (case Cₘ => assumption); (case xₘ => assumption)) | (refine' lcf_cell ?Nₘ ?cₘ ?mₘ ?dₘ ?_ ?aₘ ?bₘ; (case aₘ => rfl); (case bₘ => rfl); (case Nₘ => k_asm); (case cₘ => rfl); (case mₘ => k_extra "MY in"); (case dₘ => assumption); k_whole) | (refine' lcf_free ?Nₘ ?cₘ ?mₘ ?dₘ ?_ ?aₘ ?bₘ; (case aₘ => rfl); (case bₘ => rfl); (case Nₘ => k_asm); (case cₘ => rfl); (case mₘ => k_extra "MY in"); (case dₘ => assumption); k_whole))))
  k_with "MY rp" => ((fail_if_success k_extra "OFF 29"); (case kpₘ => exact at_mem (by k_asm) (by intro qₘ hqₘ; simp only [List.mem_append, List.mem_cons, hqₘ, true_or, or_true]) (by (k_extra "MY om")) (by assumption)))
  k_with "subscriptTail Name Name ref int" => ((fail_if_success k_extra "OFF 29"); (k_dflt (refine' item_dictI ?Nₘ ?mₘ ?dₘ ?vₘ ?_ ?sₘ; (case Nₘ => k_asm); (case mₘ => k_extra "MY in"); (case dₘ => assumption); (case vₘ => assumption); (case sₘ => with_unfolding_all rfl))))
  k_with "binaryOp Add ref ref" => ((fail_if_success k_extra "OFF 29"); (k_here; k_dflt (refine' cat_any ?wFₘ ?wNₘ ?waₘ ?wbₘ ?_ ?wxₘ ?wyₘ; (case wFₘ => k_asm); (case wNₘ => k_asm); (case waₘ => k_extra "MY in"); (case wbₘ => k_extra "MY in"); (case wxₘ => k_extra "MY lsize"); (case wyₘ => k_extra "MY lsize")); (intros D'ₘ h'ₘ; intro F'ₘ N'ₘ l1ₘ); (try k_lt l1ₘ)))
  k_with "exec Assign cons ListComp" => ((fail_if_success k_extra "OFF 29"); refine halt_of ?_)
  k_with "eval ListComp" => ((fail_if_success k_extra "OFF 29"); refine halt_of ?_)
  k_with "eval Name" => ((fail_if_success k_extra "OFF 29"); (k_dflt (first | (refine' LCgL.ld_own ?Nₘ ?mₘ ?Cₘ ?xₘ ?_; (case Nₘ => k_asm); (case mₘ => k_extra "MY in"); (case Cₘ => assumption); (case xₘ => assumption)) | (refine' lcf_cell ?Nₘ ?cₘ ?mₘ ?dₘ ?_ ?aₘ ?bₘ; (case aₘ => rfl); (case bₘ => rfl); (case Nₘ => k_asm); (case cₘ => rfl); (case mₘ => k_extra "MY in"); (case dₘ => assumption); k_whole) | (refine' lcf_free ?Nₘ ?cₘ ?mₘ ?dₘ ?_ ?aₘ ?bₘ; (case aₘ => rfl); (case bₘ => rfl); (case Nₘ => k_asm); (case cₘ => rfl); (case mₘ => k_extra "MY in"); (case dₘ => assumption); k_whole) | (refine' nameX_C ?Nₘ ?cₘ ?mₘ ?dₘ ?_ ?aₘ ?bₘ; (case aₘ => rfl); (case bₘ => rfl); (case Nₘ => k_asm); (case cₘ => rfl); (case mₘ => k_extra "MY in"); (case dₘ => assumption); k_whole))))
  k_with "MY k_inst" => ((fail_if_success k_extra "OFF 29"); (refine' inst_treeM ?Fₘ ?hsₘ; (case Fₘ => k_asm); (case hsₘ => (intro qₘ hqₘ; (repeat (first | with_reducible exact List.mem_append_left _ hqₘ | with_reducible refine List.mem_cons_of_mem _ ?_ | with_reducible refine List.mem_append_right _ ?_))))))
  k_with "compareOp Eq ref ref" => ((fail_if_success k_extra "OFF 29"); refine halt_of ?_)
  k_with "call ref" => ((fail_if_success k_extra "OFF 29"); first | (k_dflt ((with_reducible show wpAny _ _ (call (Value.ref 466) _) _ _ _); k_dflt (refine' RSpec.use2 (children_of _ _ _ _ _ ?hkₘ) ?k1ₘ ?k2ₘ ?k3ₘ ?k4ₘ ?k5ₘ ?kKₘ ?kdₘ ?kuₘ ?kpₘ ?_; (case hkₘ => assumption); k_extra "MY rd"; k_extra "MY rp"; k_whole); (intros r9ₘ new9ₘ h9ₘ tk9ₘ; intro F9ₘ N9ₘ S9ₘ O9ₘ p9ₘ); ((injection p9ₘ with x9ₘ hₜ1; (injection hₜ1 with e9ₘ hₜ2; (injection hₜ2 with p9ₘ p9'ₘ))); subst p9ₘ; subst p9'ₘ); simp only [List.cons_append, List.nil_append] at N9ₘ; ((have l9ₘ := allNe_of (O9ₘ.2 _ (.head _))); replace O9ₘ := O9ₘ.1; (try simp only [AllNe, and_true] at l9ₘ)); k_extra "MY use")) | refine halt_of ?_)
  k_with "eval Name" => ((fail_if_success k_extra "OFF 56"); k_here; name_kind "local"; k_dflt (refine' nameX_L ?k1ₘ ?k2ₘ ?_ ?k3ₘ ?k4ₘ; (case k1ₘ => k_asm); (case k3ₘ => rfl); (case k4ₘ => rfl); (case k2ₘ => rfl); k_whole))
  trivial
set_option maxRecDepth 100000 in
set_option maxHeartbeats 8000000 in
theorem law_copied_right_of : ∀ (w : World) (T0 : PT) (rest : List (Addr × Obj)) (p0 : Nat) (n0 np : NR) (tc tp : Tok) (S : T0.Src) (tx : T0.Txt) (hc : T0.ns[0]? = some n0) (hroot : n0.kind = "root") (hp : T0.ns[p0]? = some np) (hkind : np.kind = "element") (hnd : ND (T0.objs w.params ++ rest)),
    MSpec w 616 610 [.ref T0.b.t, .int ((0 : Nat) : Int) tc, .int (p0 : Int) tp] (T0.objs w.params ++ rest) (fun r news' => r = .bool true ∧ news' = rest) := by
  have hEpsₑ : EpsOn 0 := ⟨True.intro⟩
  intros w T0 rest p0 n0 np tc tp
  intro S
  intro tx
  intro hc
  intro hroot
  intro hp
  intro hkind
  intro hnd
  (intros dp un gd cn cs a ccd cl outer A₀ base h₀ L m s p9 loose mean mg mb Q E; intro B F X0 N Tp hk9 hd hu ret)
  have g := S.good
  have h9 := S.nine
  have wf := g.wf
  have hclt := get_lt hc
  have hplt := get_lt hp
  have hroom := g.room (by (k_extra "MY om"))
  have hgo : Go := True.intro
  have hch : n0.ch.length ≤ 9 := Nat.le_trans (g.short n0 (List.mem_of_getElem? hc)) h9
  k_extra "MY enterC"
  (intros g1 L' h' tk cells; intro FG F' N' Y B' X' T' l1)
  refine cells1 Y ?_; clear Y; intro o1; refine fun hEₖ dT => ?_; subst hEₖ; simp only [List.cons_append, List.nil_append] at N'
  replace dT : Obj.data o1 = Data.cell (some (Value.ref T0.b.t)) := dT
  try dsimp only
  try k_fold
  k_steps
  unfold Halt
  refine Assign_ListComp_J F' (by with_unfolding_all rfl) rfl rfl rfl (by decide) rfl (by decide) rfl rfl rfl ?_
  k_steps
  rename (Fr _ _ _ _) => F4
  rename (News _ _ _ _) => N4
  refine comp_shapes (cs := n0.ch) (lm := []) (S := T0.S0) F4 N4 (.head _) (by (k_extra "MY om")) ?_ ?_
  · clear F4 N4
    ((first | (refine prodI ?_; intro v; intro tv) | (intro hₜ3; (injection hₜ3 with v tv))); (intros C I D oC oI oD m2 h4; intros tk4 newsx E'; intro hv F5 N5 hC hx))
    simp only [nv] at hx
    have hup := wf.ch 0 n0 hc _ hv
    dsimp only at hup
    k_steps
    unfold Halt
    rename (Fr _ _ _ _) => F8
    rename (News _ _ _ _) => N8
    refine RSpec.use2 (law_shape_of w T0 g (by (k_extra "MY om")) .none (fun _ => false) eqG_none _ [] [] 0 [] (by simp) .nil 600 v tv (by (k_extra "MY om")) hup.2) B' F8 X' N8 T' rfl (by (try dsimp only [ktrTop, Around.deeper]); (k_extra "MY om")) (by (try dsimp only [ktrTop, Around.deeper]); (k_extra "MY om")) ⟨at_mem N8 (by intro q hq; simp only [List.mem_append, List.mem_cons, hq, true_or, or_true]) (by (k_extra "MY om")) hroom, N8.get (.head _)⟩ ?_
    ((intros r9 new9 h9 tk9; intro F9 N9 S9 O9); (intro hₜ1; (injection hₜ1 with x9 hₜ1; (refine And.elim ?_ (hₜ1); (try clear hₜ1); intro hₜ2 r9'; rcases hₜ2 with rfl))))
    refine ⟨_, _, new9 ++ [(_, _)], rfl, F9, by rw [List.append_assoc]; exact N9, fun q hq p hp => ?_, (show RdV (new9 ++ []) (.ref x9) (T0.S0 v) from r9').sub fun p hp => ?_⟩
    · rcases List.mem_append.mp hq with h | h
      · exact O9.2 q h p (.tail _ hp)
      · have h := List.mem_singleton.mp h
        subst h
        exact Nat.ne_of_lt (tb_ltOf (by assumption) p hp)
    · (replace hp := hp; rw [List.append_nil] at hp)
      exact List.mem_append_left _ (List.mem_append_left _ hp)
  · clear F4 N4
    (intros J D ys own k h4; intro tk4; intro hra hlen hap hne N5 F5)
    k_steps
    unfold Halt
    rename (Fr _ _ _ _) => F6
    rename (News _ _ _ _) => N6
    have hu' : un + 8 * 610 < cLine := hu
    refine RSpec.use2 (law_shape_of w T0 g (by (k_extra "MY om")) (.int (p0 : Int) tp) (fun j => j == p0) eqG_int D ys (n0.ch.map fun c => T0.S0 c.1) k (own ++ []) (by (k_extra "MY om")) hra 600 0 tc (by (k_extra "MY om")) hclt) B' F6 X' N6 T' rfl (by (try dsimp only [ktrTop, Around.deeper]); (k_extra "MY om")) (by (try dsimp only [ktrTop, Around.deeper]); (k_extra "MY om")) ⟨at_mem N6 (by intro q hq; simp only [List.mem_append, List.mem_cons, hq, true_or, or_true]) (by (k_extra "MY om")) hroom, N6.get (.head _)⟩ ?_
    ((intros r9 new9 h9' tk9; intro F9 N9 S9 O9); (intro hₜ4; (injection hₜ4 with xd hₜ1; (refine And.elim ?_ (hₜ1); (try clear hₜ1); intro hₜ2 rd; rcases hₜ2 with rfl))))
    clear F6 N6
    k_steps
    unfold Halt
    rename (Fr _ _ _ _) => F7
    rename (News _ _ _ _) => N7
    have hmv : ∀ p ∈ T0.objs w.params ++ ((L' + 1, o1) :: rest), p ∈ T0.objs w.params ++ rest ∨ p = (L' + 1, o1) := by
      intro p hp
      simp only [List.mem_append, List.mem_cons] at hp ⊢
      rcases hp with h | h | h <;> simp [h]
    obtain ⟨N11, nd11, hBB⟩ := ldg_dd (A := T0.objs w.params) (B := new9 ++ ((D, listOf ys.toArray k) :: own)) (X := (L' + 1, o1) :: rest) (News.of_sub N7 (by
      intro q hq
      simp only [List.mem_append, List.mem_cons] at hq ⊢
      rcases hq with h | (h | h | h) | h | h <;> simp [h])) (ND.perm (nd_new (allLt_of fun p hp => Nat.lt_succ_of_lt (l1 p hp)) hnd) (perm1 _ _ _)) (by
      intro q hq p hp
      rcases List.mem_append.mp hq with h | h
      · refine O9.2 q h p (.tail _ (List.mem_append_right _ (.tail _ ?_)))
        rcases hmv p hp with h | rfl
        · exact .tail _ h
        · exact .head _
      · rcases List.mem_cons.mp h with rfl | h
        · refine hne p (List.mem_append_right _ (.tail _ ?_))
          rcases hmv p hp with h | rfl
          · exact .tail _ h
          · exact .head _
        · refine hap q h p (.tail _ ?_)
          rcases hmv p hp with h | rfl
          · exact .tail _ h
          · exact .head _)
    (have hₜ4 : ∃ BB, BB = dd (new9 ++ ((D, listOf ys.toArray k) :: own)) := (⟨_, rfl⟩); (injection hₜ4 with BB hBe))
    (replace N11 := N11; replace nd11 := nd11; replace hBB := hBB; rw [← hBe] at N11 nd11 hBB)
    clear hBe
    refine MSpec.use (copy_into_of w T0 (BB ++ ((L' + 1, o1) :: rest)) p0 n0 np tc tp S hc hroot hp hkind nd11) B' F7 X' N11 T' rfl (by (try dsimp only [ktrTop, Around.deeper]); (k_extra "MY om")) (by (try dsimp only [ktrTop, Around.deeper]); (k_extra "MY om")) ?_
    ((intros r news' h12 tk12; intro F12 N12); (intro hₜ1; (injection hₜ1 with T1 hₜ1; (refine And.elim ?_ (hₜ1); (try clear hₜ1); intro hₜ2 hₜ3; rcases hₜ2 with rfl; (injection hₜ3 with ex hₜ4; (injection hₜ4 with gg hₜ5; (injection hₜ5 with hl1 hₜ6; (injection hₜ6 with hsh hₜ7; (refine And.elim ?_ (hₜ7); (try clear hₜ7); intro hₜ8 nd12; rcases hₜ8 with rfl)))))))))
    clear N11 nd11 F7 N7
    k_steps
    unfold Halt
    rename (Fr _ _ _ _) => F13
    rename (News _ _ _ _) => N13
    have SP := fun xm => law_shape_of w T1 gg hl1 .none (fun _ => false) eqG_none xm [] [] 0 [] (by simp) .nil 600 0 tc (by (k_extra "MY om")) (by have := ex.len; (k_extra "MY om"))
    simp only [ex.t] at SP
    refine RSpec.use2 (SP _) B' F13 X' N13 T' rfl (by (try dsimp only [ktrTop, Around.deeper]); (k_extra "MY om")) (by (try dsimp only [ktrTop, Around.deeper]); (k_extra "MY om")) ⟨at_mem N13 (by intro q hq; simp only [List.mem_append, List.mem_cons, hq, true_or, or_true]) (by (k_extra "MY om")) (gg.room (by (k_extra "MY om"))), N13.get (.head _)⟩ ?_
    ((intros r14 new14 h14 tk14; intro F14 N14 S14 O14); (intro hₜ10; (injection hₜ10 with x14 hₜ1; (refine And.elim ?_ (hₜ1); (try clear hₜ1); intro hₜ2 r14'; rcases hₜ2 with rfl))))
    k_steps
    unfold Halt
    rename (Fr _ _ _ _) => F15
    rename (News _ _ _ _) => N15
    have e2 : T0.sh (fun i => if (fun j => j == p0) i = true then n0.ch.map fun c => T0.S0 c.1 else []) 600 0 = T0.sh (fun j => if j = p0 then (n0.ch.map (·.1)).map T0.S0 else []) 600 0 := by
      congr 1
      funext i
      simp [List.map_map, Function.comp_def]
    have hₜ4 : ∃ as, Reads h14 (.ref x14) (T0.sh (fun j => if j = p0 then (n0.ch.map (·.1)).map T0.S0 else []) 600 0) as := by
      rw [← hsh]
      exact r14' _ fun p hp => (N15 p (by (replace hp := hp; rw [List.append_nil] at hp); exact List.mem_append_left _ hp)).1
    (injection hₜ4 with as1 R1)
    have hₜ1 : ∃ as, Reads h14 (.ref xd) (T0.sh (fun j => if j = p0 then (n0.ch.map (·.1)).map T0.S0 else []) 600 0) as := by
      rw [← e2]
      refine rd _ fun p hp => (N15 p ?_).1
      (replace hp := hp; rw [List.append_nil] at hp)
      refine List.mem_append_right _ (.tail _ (List.mem_append_right _ (List.mem_append_left _ (hBB p ?_))))
      rcases List.mem_append.mp hp with h | h
      · exact List.mem_append_left _ h
      · exact List.mem_append_right _ (.tail _ h)
    (injection hₜ1 with as2 R2)
    have hsd := due_shaped S tx p0 (n0.ch.map (·.1))
    refine eq_dataH R1 R2 hsd hsd (by (try dsimp only [ktrTop, Around.deeper]); (k_extra "MY om")) ?_
    rw [PySem.SeqAt.eqv_refl _ (PySem.SeqAt.canLay_of_shaped hsd)]
    k_steps
    exact ret _ _ _ _ (by assumption) (News.of_sub (by assumption) fun q hq => List.mem_append_right _ (.tail _ (List.mem_append_right _ (List.mem_append_right _ (.tail _ hq))))) ⟨rfl, rfl⟩
end
set_option linter.unusedVariables false
theorem words_30 : True := by
  k_with "OFF 29" => (skip)
  trivial
theorem fmod_lo (x : Int) {n : Int} (h : 0 < n) : 0 ≤ x.fmod n := Int.fmod_nonneg_of_pos x h
theorem fmod_hi (x : Int) {n : Int} (h : 0 < n) : x.fmod n < n := Int.fmod_lt_of_pos x h
theorem mulOk_mod (x c : Int) : IntMulOk (Int.fmod x 2147483647) c := by
  have h1 := fmod_lo x (n := 2147483647) (by decide)
  have h2 := fmod_hi x (n := 2147483647) (by decide)
  exact PySem.IntMulOk.of_left (PySem.intBits_le_64 (by (k_extra "MY om")) (by (k_extra "MY om")))
theorem words_31 : True := by
  k_with "binaryOp Mult int int" => ((fail_if_success k_extra "OFF 31"); (k_dflt refine PyProof.Rows.mul_int ?_ (by first | exact PySem.IntMulOk.of_right (by decide) | exact mulOk_mod _ _)))
  trivial
abbrev srcO (a b : Int) (ta tb : Tok) (e : Nat) : Obj := listOf [Value.int a ta, Value.int b tb].toArray e
set_option maxRecDepth 100000 in
set_option maxHeartbeats 8000000 in
theorem law_take_of : ∀ (w : World) (S : Addr) (a0 b0 : Int) (ta tb : Tok) (e : Nat) (top : Nat) (tt : Tok) (rest : List (Addr × Obj)) (htop : 1 ≤ top) (htop2 : top ≤ 1000) (hap : ∀ p ∈ rest, p.1 ≠ S),
    MSpec w 599 2 [.ref S, .int (top : Int) tt] ((S, srcO a0 b0 ta tb e) :: rest) (fun r news' => ∃ (a b : Int) (ta tb : Tok) (e : Nat) (d : Int) (td : Tok), r = .int d td ∧ 0 ≤ d ∧ d < (top : Int) ∧ news' = (S, srcO a b ta tb e) :: rest) := by
  have hEpsₑ : EpsOn 0 := ⟨True.intro⟩
  intros w S a0 b0 ta tb e top
  intros tt rest
  intro htop
  intro htop2
  intro hap
  (intros dp un gd cn cs a ccd cl outer A₀ base h₀ L m s p9 loose mean mg mb Q E; intro B F X0 N Tp hk9 hd hu ret)
  k_extra "MY enter"
  (intros g L' h'; intro FG F' N' B' X' T')
  try dsimp only
  try k_fold
  k_steps
  all_goals exact ret _ _ _ _ (by assumption) (by assumption) ⟨_, _, _, _, _, _, _, rfl, fmod_lo _ (by (k_extra "MY om")), fmod_hi _ (by (k_extra "MY om")), rfl⟩
set_option linter.unusedVariables false
theorem words_32 : True := by
  k_with "OFF 31" => (skip)
  k_with "MY in" => ((fail_if_success k_extra "OFF 34"); (repeat (first | assumption | with_reducible exact List.mem_cons_self | with_reducible refine List.mem_cons_of_mem _ ?_ | with_reducible refine List.mem_append_right _ ?_)))
  k_with "call builtin:len" => ((fail_if_success k_extra "OFF 33"); (k_here; (with_reducible show wpAny _ _ (call (Value.builtin "len") [Value.ref _]) _ _ _); k_dflt (refine' len_list ?k1ₘ ?k2ₘ ?_; (case k1ₘ => exact News.isList (by k_asm) (by k_extra "MY in")); (case k2ₘ => ((try simp only [List.size_toArray, List.length_map]); (k_extra "MY om"))); k_whole); (try simp only [List.size_toArray, List.length_map])))
  k_with "call ref" => ((fail_if_success k_extra "OFF 33"); (k_dflt ((with_reducible show wpAny _ _ (call (Value.ref 599) _) _ _ _); (refine' MSpec.use (law_take_of _ _ _ _ _ _ _ _ _ _ ?haₘ ?hbₘ ?hcₘ) ?k1ₘ ?k2ₘ ?k3ₘ ?k4ₘ ?k5ₘ ?kKₘ ?kdₘ ?kuₘ ?_; (case haₘ => (k_extra "MY om")); (case hbₘ => (k_extra "MY om")); (case hcₘ => assumption); k_extra "MY rd"; k_whole); (intros r9ₘ new9ₘ h9ₘ tk9ₘ; intro F9ₘ N9ₘ p9ₘ); ((injection p9ₘ with a9ₘ hₜ1; (injection hₜ1 with b9ₘ hₜ2; (injection hₜ2 with ta9ₘ hₜ3; (injection hₜ3 with tb9ₘ hₜ4; (injection hₜ4 with e9ₘ hₜ5; (injection hₜ5 with d9ₘ hₜ6; (injection hₜ6 with td9ₘ hₜ7; (injection hₜ7 with q0ₘ hₜ8; (injection hₜ8 with q1ₘ hₜ9; (injection hₜ9 with q2ₘ q3ₘ))))))))))); subst q0ₘ; subst q3ₘ; k_extra "MY use")))
  trivial
theorem item_at {vs : List Value} {d : Int} (h0 : 0 ≤ d) (h1 : d < (vs.length : Int)) : ∃ x, vs[d.toNat]? = some x ∧ x ∈ vs := by
  have : d.toNat < vs.length := by (k_extra "MY om")
  exact ⟨_, List.getElem?_eq_getElem this, List.getElem_mem this⟩
theorem words_33 : True := by
  k_with "subscriptTail Name Call ref int" => ((fail_if_success k_extra "OFF 33"); (k_dflt (refine' item_listA ?k1ₘ ?k2ₘ ?k3ₘ ?k4ₘ ?_; (case k1ₘ => exact News.isList (by k_asm) (by k_extra "MY in")); (case k2ₘ => (k_extra "MY om")); (case k3ₘ => (k_extra "MY om")); (case k4ₘ => exact Exists.choose_spec (item_at (by assumption) (by assumption)) |>.1); k_whole)))
  trivial
set_option maxRecDepth 100000 in
set_option maxHeartbeats 8000000 in
theorem law_one_of : ∀ (w : World) (S t : Addr) (vs : List Value) (k : Nat) (a0 b0 : Int) (ta tb : Tok) (e : Nat) (rest : List (Addr × Obj)) (h1 : 1 ≤ vs.length) (h2 : vs.length ≤ 1000) (hm : (t, listOf vs.toArray k) ∈ rest) (hap : ∀ p ∈ rest, p.1 ≠ S),
    MSpec w 606 4 [.ref S, .ref t] ((S, srcO a0 b0 ta tb e) :: rest) (fun r news' => ∃ (a b : Int) (ta tb : Tok) (e : Nat), r ∈ vs ∧ news' = (S, srcO a b ta tb e) :: rest) := by
  have hEpsₑ : EpsOn 0 := ⟨True.intro⟩
  intros w S t vs k a0 b0 ta
  intros tb e rest
  intro h1
  intro h2
  intro hm
  intro hap
  (intros dp un gd cn cs a ccd cl outer A₀ base h₀ L m s p9 loose mean mg mb Q E; intro B F X0 N Tp hk9 hd hu ret)
  k_extra "MY enter"
  (intros g L' h'; intro FG F' N' B' X' T')
  try dsimp only
  try k_fold
  k_steps
  exact ret _ _ _ _ (by assumption) (by assumption) ⟨_, _, _, _, _, (Exists.choose_spec (item_at (by assumption) (by assumption))).2, rfl⟩
set_option linter.unusedVariables false
section
variable {prog : Program} {w : World} {A : Around} {E : Value → Shared → Prop} {s : Shared} {env : Env} {h₀ : Heap} {x : Str} {body : List Stmt} {Q : Flow → Shared → Prop}
theorem for_range : ∀ {prog : Program} {w : World} {A : Around} {E : Value → Shared → Prop} {s : Shared} {env : Env} {h₀ : Heap} {x : Str} {body : List Stmt} {Q : Flow → Shared → Prop} {r : Addr} {a₀ b₀ : Int} {t₀ u₀ v₀ : Tok} {n : Nat} {m₀ : Str → Option Value} {news : List (Addr × Obj)} (J : Nat → (Str → Option Value) → List (Addr × Obj) → Prop) (hh : A.handled = none) (hr : IsRange s.heap r a₀ b₀ 1 t₀ u₀ v₀) (hsmall : Builtin.Range.small a₀ b₀ 1 = true) (hn : Builtin.Range.rangeSize a₀ b₀ 1 = (n : Int)) (F : Fr h₀ env.locals s.heap m₀) (N : News h₀ env.locals s.heap news) (hj : J 0 m₀ news) (turn : ∀ i v m₁ news₁ h tk I oI, i < n → J i m₁ news₁ → (∀ p ∈ news₁, p.1 ≠ I) → Fr h₀ env.locals h (fun y => if y = x then some v else m₁ y) → News h₀ env.locals h ((I, oI) :: news₁) →
      wpAny (model prog w) A (execs body env) (TurnQ h₀ env.locals I oI (J (i + 1)) s Q) E { s with heap := h, toks := tk }) (done : ∀ m₁ news₁ h tk, J n m₁ news₁ → Fr h₀ env.locals h m₁ → News h₀ env.locals h news₁ → Q .next { s with heap := h, toks := tk }),
    wpAny (model prog w) A (pyIter (.ref r)) (fun it s₂ => LoopAtV prog w A h₀ env x body Q E it s₂) E s := by
  have hEpsₑ : EpsOn 0 := ⟨True.intro⟩
  intros prog w A E s env h₀ x body Q r a₀
  intros b₀ t₀ u₀ v₀ n m₀ news J
  intro hh
  intro hr
  intro hsmall
  intro hn
  intro F
  intro N
  intro hj
  intro turn
  intro done
  refine wpAny_pyIter_range hr hsmall ?_
  have W : Walks prog w A s.heap.objs.size [s.heap.objs.size] [s.heap.objs.size] n (fun i v => i < n ∧ ∃ t, v = .int (a₀ + i * 1) t)
      (fun i h => IsRangeIter h s.heap.objs.size (a₀ + (i : Nat) * 1) ((n : Int) - (i : Nat)) 1) := (Walks.range hh _ a₀ 1 n).bound
  refine ⟨_, _, _, n, _, _, m₀, news, J, rfl, W, ?_, ?_, ?_, (by show IsRangeIter _ _ _ _ _; rw [hn]; simpa using Heap.get?_push_size _ rfl), F.push _, (fun p hp => ⟨Heap.get?_push_of_some _ (N p hp).1, (N p hp).2⟩), hj, ?_, ?_⟩
  · intro hm
    exact absurd F.ns.lt ((List.mem_singleton.mp hm) ▸ Nat.lt_irrefl _)
  · intro b hb
    rw [List.mem_singleton.mp hb]
    exact next_is_new F
  · intro p hp hI
    exact absurd (Heap.lt_size (N p hp).1) ((List.mem_singleton.mp hI) ▸ Nat.lt_irrefl _)
  · ((intros i v m₁ news₁ s₁ own); (intro hₜ10; (injection hₜ10 with hh' hₜ1; (injection hₜ1 with tk' hₜ2; rcases hₜ2 with rfl))); (intro hi hP hJ hoff hown hownget hmem hst; intros F₁ N₁))
    (have hₜ3 : ∃ o, hh'.get? s.heap.objs.size = some o := (⟨_, hst⟩); (injection hₜ3 with oi hoi))
    have hI : (s.heap.objs.size, oi) ∈ own := hmem _ (.head _) (next_is_new F) _ hoi
    have hI1 : ∀ p ∈ news₁, p.1 ≠ s.heap.objs.size := fun p hp e => hoff p hp (e ▸ .head _)
    have N₂ : News h₀ env.locals hh' ((s.heap.objs.size, oi) :: news₁) := fun p hp => N₁ p ((List.mem_cons.mp hp).elim (fun e => List.mem_append.mpr (.inl (e ▸ hI))) fun h => List.mem_append.mpr (.inr h))
    refine wpAny_mono (turn i v m₁ news₁ hh' tk' s.heap.objs.size oi hi hJ hI1 F₁ N₂) ?_ fun _ _ e => e
    (intros f s₂ p)
    have fin : (∃ h' tk' m' news', s₂ = { s with heap := h', toks := tk' } ∧ Fr h₀ env.locals h' m' ∧ News h₀ env.locals h' ((s.heap.objs.size, oi) :: news') ∧ (∀ p ∈ news', p.1 ≠ s.heap.objs.size) ∧ J (i + 1) m' news') →
        LoopStepU h₀ env.locals [s.heap.objs.size] own (J (i + 1)) { s with heap := hh', toks := tk' } .next s₂ := by
      ((intro hₜ1; (injection hₜ1 with h' hₜ1; (injection hₜ1 with tk2 hₜ2; (injection hₜ2 with m' hₜ3; (injection hₜ3 with news' hₜ4; (refine And.elim ?_ (hₜ4); (try clear hₜ4); intro hₜ5 hₜ6; rcases hₜ5 with rfl; (injection hₜ6 with F' hₜ7; (injection hₜ7 with N' hₜ8; (injection hₜ8 with hI2 hJ'))))))))))
      refine ⟨rfl, h', tk2, m', news', rfl, F', fun p hp => ?_, fun p hp hq => hI2 p hp (List.mem_singleton.mp hq), hJ'⟩
      rcases List.mem_append.mp hp with hp | hp
      · have e := List.mem_singleton.mp (hown p hp)
        have h2 := hownget p hp
        (first | (injection p with a o) | rcases p with ⟨a, o⟩)
        dsimp only at e h2
        subst e
        (replace h2 := h2; rw [hoi] at h2)
        cases h2
        exact N' _ (.head _)
      · exact N' _ (.tail _ hp)
    cases f with
    | ret v => exact .ret p
    | brk => exact .brk p
    | next => exact .next (fin p)
    | cont => exact .cont (fin p)
  · ((intros h' tk m' news'; intro F' N' _ hJ))
    exact done m' news' h' tk hJ F' N'
/-- the end of a turn, names aside -/
def TurnS (h₀ : Heap) (L I : Addr) (oI : Obj) (x : Str) (stored : List Str) (M : Str → Option Value) (J : List (Addr × Obj) → Prop) (s : Shared) (Q : Flow → Shared → Prop) (f : Flow) (s' : Shared) : Prop :=
  TurnQ h₀ L I oI (fun m' news' => (∀ y, y ≠ x → stored.contains y = false → m' y = M y) ∧ J news') s Q f s'
theorem TurnS.intro {L I : Addr} {oI : Obj} {stored : List Str} {M : Str → Option Value} {J : List (Addr × Obj) → Prop} {h' : Heap} {tk' : Nat} {m' : Str → Option Value} {news' : List (Addr × Obj)} (F : Fr h₀ L h' m') (N : News h₀ L h' ((I, oI) :: news')) (ap : ∀ p ∈ news', p.1 ≠ I) (hm : ∀ y, y ≠ x → stored.contains y = false → m' y = M y) (j : J news') :
    TurnS h₀ L I oI x stored M J s Q .next { s with heap := h', toks := tk' } := TurnQ.intro F N ap ⟨hm, j⟩
theorem for_rangeS {r : Addr} {a₀ b₀ : Int} {t₀ u₀ v₀ : Tok} {n : Nat} {M : Str → Option Value} {news : List (Addr × Obj)} (stored : List Str) (J : Nat → List (Addr × Obj) → Prop)
    (hh : A.handled = none) (hr : IsRange s.heap r a₀ b₀ 1 t₀ u₀ v₀) (hsmall : Builtin.Range.small a₀ b₀ 1 = true) (hn : Builtin.Range.rangeSize a₀ b₀ 1 = (n : Int)) (F : Fr h₀ env.locals s.heap M) (N : News h₀ env.locals s.heap news) (hj : J 0 news)
    (turn : ∀ i v (u : Str → Option Value) news₁ h tk I oI, i < n → J i news₁ → (∀ p ∈ news₁, p.1 ≠ I) → Fr h₀ env.locals h (fun y => if y = x then some v else if stored.contains y then u y else M y) → News h₀ env.locals h ((I, oI) :: news₁) →
      wpAny (model prog w) A (execs body env) (TurnS h₀ env.locals I oI x stored M (J (i + 1)) s Q) E { s with heap := h, toks := tk })
    (done : ∀ (u : Str → Option Value) news₁ h tk, J n news₁ → Fr h₀ env.locals h (fun y => if y = x then u y else if stored.contains y then u y else M y) → News h₀ env.locals h news₁ → Q .next { s with heap := h, toks := tk }) :
    wpAny (model prog w) A (pyIter (.ref r)) (fun it s₂ => LoopAtV prog w A h₀ env x body Q E it s₂) E s := by
  refine for_range (J := fun i m' news' => (∀ y, y ≠ x → stored.contains y = false → m' y = M y) ∧ J i news') hh hr hsmall hn F N ⟨fun _ _ _ => rfl, hj⟩ ?_ ?_
  · ((intros i v m₁ news₁ h tk I oI; intro hi); (first | (refine prodI ?_; intro hm; intro hJ) | (intro hₜ1; (injection hₜ1 with hm hJ))); (intros ap F₁ N₁))
    have e : (fun y => if y = x then some v else m₁ y) = fun y => if y = x then some v else if stored.contains y then m₁ y else M y := by
      funext y
      by_cases h1 : y = x
      · simp [h1]
      · simp only [if_neg h1]
        cases h2 : stored.contains y with
        | true => simp
        | false => simp only [Bool.false_eq_true, if_false]; exact hm y h1 h2
    (replace F₁ := F₁; rw [e] at F₁)
    exact turn i v m₁ news₁ h tk I oI hi hJ ap F₁ N₁
  · ((intros m₁ news₁ h tk); (first | (refine prodI ?_; intro hm; intro hJ) | (intro hₜ1; (injection hₜ1 with hm hJ))); (intros F₁ N₁))
    have e : m₁ = fun y => if y = x then m₁ y else if stored.contains y then m₁ y else M y := by
      funext y
      by_cases h1 : y = x
      · simp [h1]
      · simp only [if_neg h1]
        cases h2 : stored.contains y with
        | true => simp
        | false => simp only [Bool.false_eq_true, if_false]; exact hm y h1 h2
    (replace F₁ := F₁; rw [e] at F₁)
    exact done m₁ news₁ h tk hJ F₁ N₁
end
set_option linter.unusedVariables false
theorem tree_start {g h : Heap} {L : Addr} {P : Params} {l x d : Addr} {kt : Tok} {ep : Nat} {X : List (Addr × Obj)} (N : News g L h ((l, listOf #[] 0) :: (x, instObj 504 d) :: (d, dictOf [⟨PyData.keyHash P "rows", .str "rows" kt, .ref l⟩] ep) :: X)) (nd : ND X)
    (h1 : AllLt d X) (h2 : @LT.lt Nat _ d x) (h3 : AllLt l ((x, instObj 504 d) :: (d, instObj 504 d) :: X)) : ∃ T : PT, T.ns = [] ∧ T.b.t = x ∧ News g L h (T.objs P ++ X) ∧ ND (T.objs P ++ X) := by
  refine ⟨⟨⟨x, d, l, kt, ep, 0⟩, []⟩, rfl, rfl, News.of_sub N fun q hq => ?_, ?_⟩
  · simp only [PT.objs, TB.objs, List.map_nil, List.flatMap_nil, List.append_nil, List.cons_append, List.nil_append, List.mem_cons] at hq ⊢
    rcases hq with h | h | h | h <;> simp [h]
  · have n1 : ND ((d, instObj 504 d) :: X) := nd_new h1 nd
    have n2 : ND ((x, instObj 504 d) :: (d, instObj 504 d) :: X) := nd_new ⟨h2, tbn_up h2 h1⟩ n1
    have n3 : ND ((l, listOf #[] 0) :: (x, instObj 504 d) :: (d, instObj 504 d) :: X) := nd_new h3 n2
    have pm : ((l, listOf #[] 0) :: (x, instObj 504 d) :: (d, instObj 504 d) :: X).Perm ((x, instObj 504 d) :: (d, instObj 504 d) :: (l, listOf #[] 0) :: X) := List.perm_append_comm_assoc [(l, listOf #[] 0)] [(x, instObj 504 d), (d, instObj 504 d)] X
    have n4 := ND.perm n3 pm
    exact n4
/-- a tree that is built -/
structure Grow (T : PT) (ps : List (Nat × Tok)) : Prop where
  good : T.Good
  inc : T.Inc
  kin : T.Kin
  txt : T.Txt
  root : ∃ n : NR, T.ns[0]? = some n ∧ n.kind = "root"
  els : ∀ c ∈ ps, ∃ n : NR, T.ns[c.1]? = some n ∧ n.kind = "element"
theorem Grow.src {T : PT} {ps : List (Nat × Tok)} (G : Grow T ps) (h : T.ns.length ≤ 9) : T.Src := ⟨G.good, G.inc, G.kin, h⟩
theorem Grow.start {T : PT} {e : Nat} {n : NR} (h0 : T.ns = []) (hn : n.Is "root" "" "" "" "" none) : Grow (T.more e n) [] := by
  have h1 : (T.more e n).ns = [n] := by unfold PT.more; rw [h0]; rfl
  have h2 : ∀ {i : Nat} {m : NR}, (T.more e n).ns[i]? = some m → i = 0 ∧ m = n := by
    intro i m hi
    rw [h1] at hi
    rcases i with _ | i
    · exact ⟨rfl, (Option.some.inj hi).symm⟩
    · cases hi
  have h3 : ∀ m ∈ (T.more e n).ns, m = n := fun m hm => by rw [h1] at hm; exact List.mem_singleton.mp hm
  refine ⟨⟨⟨fun i m hi c hc => ?_, fun i m hi c hc => ?_⟩, ⟨fun m hm => ?_, fun m hm => ?_⟩, fun m hm => ?_⟩, fun i m hi => ?_, fun m hm hc => ?_, fun m hm => ?_, ⟨n, by rw [h1]; rfl, hn.kind⟩, fun c hc => by cases hc⟩
  · rw [(h2 hi).2, hn.par] at hc; cases hc
  · rw [(h2 hi).2, hn.ch] at hc; cases hc
  · rw [h3 m hm, hn.ns]
  · rw [h3 m hm, hn.at']
  · rw [h3 m hm, hn.ch]; simp
  · rw [(h2 hi).2, hn.ch] <;> exact .nil
  · exact .inl ((h3 m hm).symm ▸ hn.kind)
  · rw [h3 m hm, hn.kind, hn.name, hn.value]; decide +kernel
theorem child_inc {T : PT} (g : T.Good) (inc : T.Inc) {e p : Nat} {n' np : NR} {t9 : Tok} (hp : T.ns[p]? = some np) (hn : n'.ch = []) : (T.child e n' p np t9).Inc := by
  intro i n hi
  have hi' := get_lt hi
  rw [child_len] at hi'
  rcases Nat.lt_or_ge i T.ns.length with q | q
  · rw [child_at hp i q] at hi
    by_cases h : i = p
    · rw [if_pos h] at hi; cases hi
      simp only [NR.addCh, List.map_append, List.map_cons, List.map_nil]
      refine List.pairwise_append.mpr ⟨inc p np hp, List.pairwise_singleton _ _, fun a ha b hb => ?_⟩
      obtain ⟨c, hc, rfl⟩ := List.mem_map.mp ha
      rw [List.mem_singleton.mp hb]
      exact (g.wf.ch p np hp c hc).2
    · rw [if_neg h] at hi
      exact inc i n hi
  · have e1 : i = T.ns.length := by (k_extra "MY om")
    subst e1
    rw [child_last hp] at hi; cases hi
    rw [hn] <;> exact .nil
theorem Grow.child {T : PT} {ps : List (Nat × Tok)} (G : Grow T ps) {e p : Nat} {n' np : NR} {t9 : Tok} (hp : T.ns[p]? = some np) (hk : np.kind = "root" ∨ np.kind = "element") {kind name uri loc value : Str} {tp : Tok} (hn : n'.Is kind name uri loc value (some (p, tp)))
    (tx : PyData.strOk kind = true ∧ PyData.strOk name = true ∧ PyData.strOk value = true) : Grow (T.child e n' p np t9) ps := by
  have hx := child_ext (e := e) (n' := n') (t9 := t9) hp
  have hpm := List.mem_of_getElem? hp
  refine ⟨child_good G.good hp hn, child_inc G.good G.inc hp hn.ch, fun m hm hc => ?_, fun m hm => ?_, ?_, fun c hc => ?_⟩
  · rcases child_mem hp hm with h | rfl | rfl
    · exact G.kin m h hc
    · exact hk
    · exact absurd hn.ch hc
  · rcases child_mem hp hm with h | rfl | rfl
    · exact G.txt m h
    · exact G.txt np hpm
    · rw [hn.kind, hn.name, hn.value]; exact tx
  · obtain ⟨n, h1, h2⟩ := G.root
    obtain ⟨n2, h3, h4⟩ := hx.get _ _ h1
    exact ⟨n2, h3, h4.kind.trans h2⟩
  · obtain ⟨n, h1, h2⟩ := G.els c hc
    obtain ⟨n2, h3, h4⟩ := hx.get _ _ h1
    exact ⟨n2, h3, h4.kind.trans h2⟩
theorem Grow.add {T : PT} {ps : List (Nat × Tok)} (G : Grow T ps) {c : Nat × Tok} {n : NR} (h : T.ns[c.1]? = some n) (hk : n.kind = "element") : Grow T (ps ++ [c]) :=
  ⟨G.good, G.inc, G.kin, G.txt, G.root, fun d hd => (List.mem_append.mp hd).elim (G.els d) fun h2 => by rw [List.mem_singleton.mp h2]; exact ⟨n, h, hk⟩⟩
theorem permS {α : Type} (p s : α) (B C : List α) : (p :: (B ++ (s :: C))).Perm (s :: p :: (B ++ C)) := ((perm1 s B C).symm.cons p).trans (.swap s p _)
theorem permM1 {α : Type} (p s : α) (X : List α) : (p :: s :: X).Perm (s :: p :: X) := .swap s p X
theorem permM2 {α : Type} (p q s : α) (X : List α) : (p :: q :: s :: X).Perm (s :: p :: q :: X) := List.perm_append_comm_assoc [p, q] [s] X
theorem permM3 {α : Type} (p q r s : α) (X : List α) : (p :: q :: r :: s :: X).Perm (s :: p :: q :: r :: X) := List.perm_append_comm_assoc [p, q, r] [s] X
theorem st2 {a b y : Str} (h : [a, b].contains y = false) : y ≠ a ∧ y ≠ b := by simpa [List.contains_cons, not_or] using h
/-- what is drawn out of the root and the places -/
theorem Grow.pick {T : PT} {ps : List (Nat × Tok)} (G : Grow T ps) {t1 : Tok} {r : Value} (h : r ∈ [Value.int ((0 : Nat) : Int) t1] ++ ps.map nv) : ∃ (c : Nat) (t : Tok) (np : NR), r = .int (c : Int) t ∧ T.ns[c]? = some np ∧ (np.kind = "root" ∨ np.kind = "element") := by
  rcases List.mem_append.mp h with h | h
  · obtain ⟨n, h1, h2⟩ := G.root
    exact ⟨0, t1, n, List.mem_singleton.mp h, h1, .inl h2⟩
  · obtain ⟨c, hc, rfl⟩ := List.mem_map.mp h
    obtain ⟨n, h1, h2⟩ := G.els c hc
    exact ⟨c.1, c.2, n, rfl, h1, .inr h2⟩
theorem Grow.pickP {T : PT} {ps : List (Nat × Tok)} (G : Grow T ps) {r : Value} (h : r ∈ ps.map nv) : ∃ (c : Nat) (t : Tok) (np : NR), r = .int (c : Int) t ∧ T.ns[c]? = some np ∧ np.kind = "element" := by
  obtain ⟨c, hc, rfl⟩ := List.mem_map.mp h
  obtain ⟨n, h1, h2⟩ := G.els c hc
  exact ⟨c.1, c.2, n, rfl, h1, h2⟩
theorem pick_str {r : Value} {a b : Str} {ta tb : Tok} (h : r ∈ [Value.str a ta, Value.str b tb]) (ha : PyData.strOk a = true) (hb : PyData.strOk b = true) : ∃ x t, r = .str x t ∧ PyData.strOk x = true := by
  rcases List.mem_cons.mp h with rfl | h
  · exact ⟨a, ta, rfl, ha⟩
  · exact ⟨b, tb, List.mem_singleton.mp h, hb⟩
/-- the state of the loop -/
structure Lp (T0 : PT) (i : Nat) (T : PT) (ps : List (Nat × Tok)) : Prop where
  grow : Grow T ps
  len : T.ns.length = 2 + i
  pl : ps.length ≤ 1 + i
  one : 1 ≤ ps.length
  t : T.b.t = T0.b.t
theorem Lp.next {T0 : PT} {i : Nat} {T : PT} {ps : List (Nat × Tok)} (P : Lp T0 i T ps) {e p : Nat} {n' np : NR} {t9 : Tok} (hp : T.ns[p]? = some np) (hk : np.kind = "root" ∨ np.kind = "element") {kind name uri loc value : Str} {tp : Tok} (hn : n'.Is kind name uri loc value (some (p, tp)))
    (tx : PyData.strOk kind = true ∧ PyData.strOk name = true ∧ PyData.strOk value = true) : Lp T0 (i + 1) (T.child e n' p np t9) ps :=
  ⟨P.grow.child hp hk hn tx, by rw [child_len, P.len]; (k_extra "MY om"), by have := P.pl; (k_extra "MY om"), P.one, P.t⟩
theorem Lp.nextE {T0 : PT} {i : Nat} {T : PT} {ps : List (Nat × Tok)} (P : Lp T0 i T ps) {e p : Nat} {n' np : NR} {t9 : Tok} (hp : T.ns[p]? = some np) (hk : np.kind = "root" ∨ np.kind = "element") {name uri loc value : Str} {tp : Tok} (hn : n'.Is "element" name uri loc value (some (p, tp)))
    (tx : PyData.strOk "element" = true ∧ PyData.strOk name = true ∧ PyData.strOk value = true) : Lp T0 (i + 1) (T.child e n' p np t9) (ps ++ [(T.ns.length, t9)]) :=
  ⟨(P.grow.child hp hk hn tx).add (c := (T.ns.length, t9)) (child_last hp) hn.kind, by rw [child_len, P.len]; (k_extra "MY om"), by have := P.pl; simp; (k_extra "MY om"), by simp, P.t⟩
set_option linter.unusedVariables false
theorem words_34 : True := by
  k_with "OFF 33" => (skip)
  k_with "exec For Name Call cons nil" => ((fail_if_success k_extra "OFF 55"); (k_here; (rename Fr _ _ _ _ => lF'ₘ); (with_unfolding_all refine' For_invVF lF'ₘ ?k1ₘ ?k2ₘ ?_; (case k1ₘ => exact rfl); (case k2ₘ => exact rfl); k_whole)))
  k_with "exec For Name Attribute cons nil" => ((fail_if_success k_extra "OFF 55"); (k_here; (rename Fr _ _ _ _ => lF'ₘ); (with_unfolding_all refine' For_invVF lF'ₘ ?k1ₘ ?k2ₘ ?_; (case k1ₘ => exact rfl); (case k2ₘ => exact rfl); k_whole)))
  k_with "exec For Name Subscript cons nil" => ((fail_if_success k_extra "OFF 55"); (k_here; (rename Fr _ _ _ _ => lF'ₘ); (with_unfolding_all refine' For_invVF lF'ₘ ?k1ₘ ?k2ₘ ?_; (case k1ₘ => exact rfl); (case k2ₘ => exact rfl); k_whole)))
  k_with "MY lsize" => ((fail_if_success k_extra "OFF 34"); (first | (simp only [List.size_toArray, List.length_map, List.length_reverse, Array.size_push, List.length_append, List.length_cons, List.length_nil, PySem.sizeLine_eq]; (k_extra "MY om")) | (k_extra "MY om")))
  k_with "call builtin:list.append" => ((fail_if_success k_extra "OFF 34"); (k_here; (with_reducible show wpAny _ _ (call (Value.builtin _) [Value.ref _, _]) _ _ _); k_dflt (refine' append_K ?k1ₘ ?k2ₘ ?k3ₘ ?_ ?wzₘ; (case k1ₘ => k_asm); (case k2ₘ => k_asm); (case k3ₘ => k_upd); (case wzₘ => (simp only [List.size_toArray, PySem.sizeLine_eq]; (k_extra "MY om"))); k_whole); intro h'ₘ F'ₘ N'ₘ))
  k_with "call type:range" => ((fail_if_success k_extra "OFF 34"); refine halt_of ?_)
  k_with "binaryOp Add ref ref" => ((fail_if_success k_extra "OFF 34"); (k_here; k_dflt (refine' cat_any ?wFₘ ?wNₘ ?waₘ ?wbₘ ?_ ?wxₘ ?wyₘ; (case wFₘ => k_asm); (case wNₘ => k_asm); (case waₘ => k_extra "MY in"); (case wbₘ => k_extra "MY in"); (case wxₘ => k_extra "MY lsize"); (case wyₘ => k_extra "MY lsize")); (intros D'ₘ h'ₘ; intro F'ₘ N'ₘ l1ₘ); (try k_lt l1ₘ)))
  k_with "call ref" => ((fail_if_success k_extra "OFF 34"); first | ((with_reducible show wpAny _ _ (call (Value.ref 599) _) _ _ _); refine halt_of ?_) | ((with_reducible show wpAny _ _ (call (Value.ref 606) _) _ _ _); refine halt_of ?_) | ((with_reducible show wpAny _ _ (call (Value.ref 616) _) _ _ _); refine halt_of ?_) | ((with_reducible show wpAny _ _ (call (Value.ref 354) _) _ _ _); refine halt_of ?_) | ((with_reducible show wpAny _ _ (call (Value.ref 368) _) _ _ _); refine halt_of ?_) | ((with_reducible show wpAny _ _ (call (Value.ref 382) _) _ _ _); refine halt_of ?_))
  trivial
set_option maxRecDepth 100000 in
set_option maxHeartbeats 8000000 in
theorem law_root_right_of : ∀ (w : World) (S : Addr) (a0 b0 : Int) (ta tb : Tok) (e : Nat) (rest : List (Addr × Obj)) (hnd : ND ((S, srcO a0 b0 ta tb e) :: rest)),
    MSpec w 623 620 [.ref S] ((S, srcO a0 b0 ta tb e) :: rest) (fun r news' => ∃ (a b : Int) (ta tb : Tok) (e : Nat), r = .bool true ∧ news' = (S, srcO a b ta tb e) :: rest) := by
  have hEpsₑ : EpsOn 0 := ⟨True.intro⟩
  intros w S a0 b0 ta tb e rest
  intro hnd
  (intros dp un gd cn cs a ccd cl outer A₀ base h₀ L m s p9 loose mean mg mb Q E; intro B F X0 N Tp hk9 hd hu ret)
  k_extra "MY enter"
  (intros g L' h'; intro FG F' N' B' X' T')
  try dsimp only
  try k_fold
  have hd2 : un + 8 * 620 < cLine := hu
  k_steps
  unfold Halt
  rename (Fr _ _ _ _) => F1
  rename (News _ _ _ _) => N1
  (injection (tree_start N1 hnd (by assumption) (by assumption) (by assumption)) with T0 hₜ1; (injection hₜ1 with hT0 hₜ2; (injection hₜ2 with ht0 hₜ3; (injection hₜ3 with N2 nd2))))
  (replace F1 := F1; rw [← ht0] at F1)
  clear N1
  have SP := new_root_of w T0 ((S, srcO a0 b0 ta tb e) :: rest) nd2 (by rw [hT0]; simp)
  (replace SP := SP; rw [ht0] at SP)
  refine MSpec.use SP B' F1 X' N2 T' rfl (by (try dsimp only [ktrTop, Around.deeper]); (k_extra "MY om")) (by (try dsimp only [ktrTop, Around.deeper]); (k_extra "MY om")) ?_
  ((intros r news' h2 tk2; intro F2 N3); (intro hₜ4; (injection hₜ4 with n1 hₜ1; (injection hₜ1 with e1 hₜ2; (injection hₜ2 with t1 hₜ3; (refine And.elim ?_ (hₜ3); (try clear hₜ3); intro hₜ4 hₜ5; rcases hₜ4 with rfl; (injection hₜ5 with hn1 hₜ6; (refine And.elim ?_ (hₜ6); (try clear hₜ6); intro hₜ7 nd3; rcases hₜ7 with rfl))))))))
  have G1 := Grow.start hT0 hn1 (e := e1)
  have hl1 : (T0.more e1 n1).ns.length = 1 := by unfold PT.more; rw [hT0]; rfl
  have hb1 : (T0.more e1 n1).b.t = T0.b.t := rfl
  have hl0 : T0.ns.length = 0 := by rw [hT0]; rfl
  (replace F2 := F2; rw [← hb1] at F2)
  (have hₜ9 : ∃ T1, T1 = T0.more e1 n1 := (⟨_, rfl⟩); (injection hₜ9 with T1 hT1))
  (replace F2 := F2; replace N3 := N3; replace nd3 := nd3; replace G1 := G1; replace hl1 := hl1; rw [← hT1] at F2 N3 nd3 G1 hl1)
  rw [hl0]
  clear hT1 hb1
  k_steps
  unfold Halt
  rename (Fr _ _ _ _) => F3
  rename (News _ _ _ _) => N4
  (injection (G1.root) with nr hₜ1; (injection hₜ1 with hnr hkr))
  refine MSpec.use (add_element_of w T1 ((S, srcO a0 b0 ta tb e) :: rest) 0 nr "a" "" "a" t1 _ _ _ hnr (.inl hkr) nd3 (G1.good.small (by (k_extra "MY om")))) B' F3 X' N4 T' rfl (by (try dsimp only [ktrTop, Around.deeper]); (k_extra "MY om")) (by (try dsimp only [ktrTop, Around.deeper]); (k_extra "MY om")) ?_
  ((intros r news' h4 tk4; intro F4 N5); (intro hₜ2; (injection hₜ2 with n2 hₜ1; (injection hₜ1 with e2 hₜ2; (injection hₜ2 with t2 hₜ3; (refine And.elim ?_ (hₜ3); (try clear hₜ3); intro hₜ4 hₜ5; rcases hₜ4 with rfl; (injection hₜ5 with hn2 hₜ6; (refine And.elim ?_ (hₜ6); (try clear hₜ6); intro hₜ7 nd4; rcases hₜ7 with rfl))))))))
  have G2 := (G1.child (e := e2) (t9 := t2) hnr (.inl hkr) hn2 (by decide +kernel)).add (c := (T1.ns.length, t2)) (child_last hnr) hn2.kind
  have hl2 : (T1.child e2 n2 0 nr t2).ns.length = 2 := by rw [child_len, hl1]
  (have hₜ9 : ∃ T2, T2 = T1.child e2 n2 0 nr t2 := (⟨_, rfl⟩); (injection hₜ9 with T2 hT2))
  have ht2 : T1.b.t = T2.b.t := by rw [hT2]; rfl
  (replace N5 := N5; replace nd4 := nd4; replace G2 := G2; replace hl2 := hl2; rw [← hT2] at N5 nd4 G2 hl2)
  (replace F4 := F4; rw [ht2] at F4)
  (replace G2 := G2; rw [List.nil_append] at G2)
  clear hT2 F3 N4
  k_steps
  unfold Halt
  rename (Fr _ _ _ _) => F5
  rename (News _ _ _ _) => N6
  (injection (exists_D N6) with pl hpl0)
  subst hpl0
  have ndp := nd_new (a := pl) (o := listOf ([(T1.ns.length, t2)].map nv).toArray 0) (allLt_of (by assumption)) nd4
  have nd5 := ND.perm ndp (permS _ _ _ _)
  refine MSpec.use (law_take_of w S a0 b0 ta tb e 7 _ _ (by (k_extra "MY om")) (by (k_extra "MY om")) (nd_head nd5)) B' F5 X' (News.pm N6 (permS _ _ _ _)) T' rfl (by (try dsimp only [ktrTop, Around.deeper]); (k_extra "MY om")) (by (try dsimp only [ktrTop, Around.deeper]); (k_extra "MY om")) ?_
  ((intros r news' h5 tk5; intro F6 N7); (intro hₜ1; (injection hₜ1 with a2 hₜ1; (injection hₜ1 with b2 hₜ2; (injection hₜ2 with ta2 hₜ3; (injection hₜ3 with tb2 hₜ4; (injection hₜ4 with e3 hₜ5; (injection hₜ5 with d hₜ6; (injection hₜ6 with td hₜ7; (refine And.elim ?_ (hₜ7); (try clear hₜ7); intro hₜ8 hₜ9; rcases hₜ8 with rfl; (injection hₜ9 with hd0 hₜ10; (injection hₜ10 with hd7 hₜ11; rcases hₜ11 with rfl))))))))))))
  clear F5 N6
  k_steps
  unfold Halt
  rename (Fr _ _ _ _) => F7
  rename (News _ _ _ _) => N8
  refine range1_rows F7 N8 ?_
  (intros h6 tk6 t6 u6 v6; intro hR F8 N9 hk6)
  clear F7 N8
  k_steps
  unfold Halt
  rename (Fr _ _ _ _) => F9
  rename (News _ _ _ _) => N10
  refine for_rangeS (n := (1 + d - 0).toNat) [Str.ofString "above", Str.ofString "named"] (fun i news' => ∃ (T : PT) (ps : List (Nat × Tok)) (a b : Int) (ta tb : Tok) (e k : Nat), Lp T2 i T ps ∧ news' = (S, srcO a b ta tb e) :: (pl, listOf (ps.map nv).toArray k) :: (T.objs w.params ++ rest) ∧ ND news') (by exact rfl) hR (small_one (by (k_extra "MY om")) (by (k_extra "MY om")) (by (k_extra "MY om")) (by (k_extra "MY om"))) (rangeSize_nat _ _) F9 N10
    ⟨T2, [(T1.ns.length, t2)], _, _, _, _, _, _, ⟨G2, by (k_extra "MY om"), by simp, by simp, rfl⟩, rfl, nd5⟩ ?_ ?_
  · clear F9 N10 hR
    ((intros i v u news₁ h7 tk7 I oI; intro hi); (intro hₜ12; (injection hₜ12 with T hₜ1; (injection hₜ1 with ps hₜ2; (injection hₜ2 with a3 hₜ3; (injection hₜ3 with b3 hₜ4; (injection hₜ4 with ta3 hₜ5; (injection hₜ5 with tb3 hₜ6; (injection hₜ6 with e4 hₜ7; (injection hₜ7 with k4 hₜ8; (injection hₜ8 with P hₜ9; (refine And.elim ?_ (hₜ9); (try clear hₜ9); intro hₜ10 nd6; rcases hₜ10 with rfl))))))))))); intro ap F10 N11)
    have hpl := P.pl
    have hpo := P.one
    have htl := P.len
    have hps : (ps.map nv).length ≤ 100 := by rw [List.length_map]; (k_extra "MY om")
    have htt : T2.b.t = T.b.t := P.t.symm
    have apS : @Ne Nat S I := ap _ (.head _)
    (replace F10 := F10; rw [htt] at F10)
    k_steps
    unfold Halt
    rename (Fr _ _ _ _) => F11
    rename (News _ _ _ _) => N12
    refine MSpec.use (law_one_of w S _ ([Value.int ((0 : Nat) : Int) t1] ++ ps.map nv) _ a3 b3 ta3 tb3 e4 _ (by simp) (by simp at hps ⊢; (k_extra "MY om")) (.head _) ?_) B' F11 X' (News.pm N12 (permM3 _ _ _ _ _)) T' rfl (by (try dsimp only [ktrTop, Around.deeper]); (k_extra "MY om")) (by (try dsimp only [ktrTop, Around.deeper]); (k_extra "MY om")) ?_
    · intro p hp
      rcases List.mem_cons.mp hp with rfl | hp
      · k_ne
      · rcases List.mem_cons.mp hp with rfl | hp
        · k_ne
        · rcases List.mem_cons.mp hp with rfl | hp
          · exact apS.symm
          · exact nd_head nd6 p hp
    ((intros r news' h8 tk8; intro F12 N13); (intro hₜ12; (injection hₜ12 with a4 hₜ1; (injection hₜ1 with b4 hₜ2; (injection hₜ2 with ta4 hₜ3; (injection hₜ3 with tb4 hₜ4; (injection hₜ4 with e5 hₜ5; (injection hₜ5 with hr hₜ6; rcases hₜ6 with rfl))))))))
    (injection (P.grow.pick hr) with c hₜ1; (injection hₜ1 with tc hₜ2; (injection hₜ2 with np hₜ3; (refine And.elim ?_ (hₜ3); (try clear hₜ3); intro hₜ4 hₜ5; rcases hₜ4 with rfl; (injection hₜ5 with hnp hkp)))))
    replace N13 := News.of_sub (l' := (I, oI) :: (S, srcO a4 b4 ta4 tb4 e5) :: (pl, listOf (ps.map nv).toArray k4) :: (T.objs w.params ++ rest)) N13 (by
      intro q hq
      simp only [List.mem_cons] at hq ⊢
      rcases hq with h | h | h | h <;> simp [h])
    k_steps
    unfold Halt
    rename (Fr _ _ _ _) => F13
    rename (News _ _ _ _) => N14
    refine MSpec.use (law_take_of w S a4 b4 ta4 tb4 e5 3 _ _ (by (k_extra "MY om")) (by (k_extra "MY om")) ?_) B' F13 X' (News.pm N14 (permM1 _ _ _)) T' rfl (by (try dsimp only [ktrTop, Around.deeper]); (k_extra "MY om")) (by (try dsimp only [ktrTop, Around.deeper]); (k_extra "MY om")) ?_
    · intro p hp
      rcases List.mem_cons.mp hp with rfl | hp
      · exact apS.symm
      · exact nd_head nd6 p hp
    ((intros r news' h9 tk9; intro F14 N15); (intro hₜ6; (injection hₜ6 with a5 hₜ1; (injection hₜ1 with b5 hₜ2; (injection hₜ2 with ta5 hₜ3; (injection hₜ3 with tb5 hₜ4; (injection hₜ4 with e6 hₜ5; (injection hₜ5 with d3 hₜ6; (injection hₜ6 with td3 hₜ7; (refine And.elim ?_ (hₜ7); (try clear hₜ7); intro hₜ8 hₜ9; rcases hₜ8 with rfl; (injection hₜ9 with hd30 hₜ10; (injection hₜ10 with hd33 hₜ11; rcases hₜ11 with rfl))))))))))))
    replace N15 := News.pm N15 (permM1 _ _ _).symm
    clear F13 N14
    k_steps
    · unfold Halt
      rename (Fr _ _ _ _) => F15
      rename (News _ _ _ _) => N16
      refine MSpec.use (law_one_of w S _ [.str "k" _, .str "m" _] _ a5 b5 ta5 tb5 e6 _ (by simp) (by simp) (.head _) ?_) B' F15 X' (News.pm N16 (permM2 _ _ _ _)) T' rfl (by (try dsimp only [ktrTop, Around.deeper]); (k_extra "MY om")) (by (try dsimp only [ktrTop, Around.deeper]); (k_extra "MY om")) ?_
      · intro p hp
        rcases List.mem_cons.mp hp with rfl | hp
        · k_ne
        · rcases List.mem_cons.mp hp with rfl | hp
          · exact apS.symm
          · exact nd_head nd6 p hp
      ((intros r news' h10 tk10; intro F16 N17); (intro hₜ12; (injection hₜ12 with a6 hₜ1; (injection hₜ1 with b6 hₜ2; (injection hₜ2 with ta6 hₜ3; (injection hₜ3 with tb6 hₜ4; (injection hₜ4 with e7 hₜ5; (injection hₜ5 with hr2 hₜ6; rcases hₜ6 with rfl))))))))
      (injection (pick_str hr2 (by decide +kernel) (by decide +kernel)) with x hₜ1; (injection hₜ1 with tx hₜ2; (refine And.elim ?_ (hₜ2); (try clear hₜ2); intro hₜ3 hx; rcases hₜ3 with rfl)))
      replace N17 := News.of_sub (l' := (I, oI) :: (S, srcO a6 b6 ta6 tb6 e7) :: (pl, listOf (ps.map nv).toArray k4) :: (T.objs w.params ++ rest)) N17 (by
        intro q hq
        simp only [List.mem_cons] at hq ⊢
        rcases hq with h | h | h | h <;> simp [h])
      clear F15 N16
      k_steps
      unfold Halt
      rename (Fr _ _ _ _) => F17
      rename (News _ _ _ _) => N18
      have ndI : ND ((I, oI) :: (S, srcO a6 b6 ta6 tb6 e7) :: (pl, listOf (ps.map nv).toArray k4) :: (T.objs w.params ++ rest)) := by
        have q := nd_ne (o := oI) ap nd6
        exact q
      refine MSpec.use (add_comment_of w T _ c np x tc tx hnp hkp (ndI.perm (perm3 _ _ _ _ _)) (P.grow.good.small (by (k_extra "MY om")))) B' F17 X' (News.pm N18 (perm3 _ _ _ _ _)) T' rfl (by (try dsimp only [ktrTop, Around.deeper]); (k_extra "MY om")) (by (try dsimp only [ktrTop, Around.deeper]); (k_extra "MY om")) ?_
      ((intros r news' h11 tk11; intro F18 N19); (intro hₜ5; (injection hₜ5 with n9 hₜ1; (injection hₜ1 with e9 hₜ2; (injection hₜ2 with t9 hₜ3; (refine And.elim ?_ (hₜ3); (try clear hₜ3); intro hₜ4 hₜ5; rcases hₜ4 with rfl; (injection hₜ5 with hn9 hₜ6; (refine And.elim ?_ (hₜ6); (try clear hₜ6); intro hₜ7 nd9; rcases hₜ7 with rfl))))))))
      have N20 := News.pm N19 (perm3 _ _ _ _ _).symm
      have nd10 := nd9.perm (perm3 _ _ _ _ _).symm
      clear F17 N18 N19
      k_steps
      rename (Fr _ _ _ _) => F19
      rename (News _ _ _ _) => N21
      exact TurnS.intro F19 N21 (nd_head nd10) (fun y q1 q2 => by obtain ⟨q3, q4⟩ := st2 q2; simp only [if_neg q1, if_neg q3, if_neg q4, q2, Bool.false_eq_true, if_false]; rw [htt]) ⟨_, ps, a6, b6, ta6, tb6, e7, k4, P.next hnp hkp hn9 ⟨by decide +kernel, by decide +kernel, hx⟩, rfl, nd_tail nd10⟩
    · unfold Halt
      rename (Fr _ _ _ _) => F15
      rename (News _ _ _ _) => N16
      refine MSpec.use (law_one_of w S _ [.str "a" _, .str "b" _] _ a5 b5 ta5 tb5 e6 _ (by simp) (by simp) (.head _) ?_) B' F15 X' (News.pm N16 (permM2 _ _ _ _)) T' rfl (by (try dsimp only [ktrTop, Around.deeper]); (k_extra "MY om")) (by (try dsimp only [ktrTop, Around.deeper]); (k_extra "MY om")) ?_
      · intro p hp
        rcases List.mem_cons.mp hp with rfl | hp
        · k_ne
        · rcases List.mem_cons.mp hp with rfl | hp
          · exact apS.symm
          · exact nd_head nd6 p hp
      ((intros r news' h10 tk10; intro F16 N17); (intro hₜ9; (injection hₜ9 with a6 hₜ1; (injection hₜ1 with b6 hₜ2; (injection hₜ2 with ta6 hₜ3; (injection hₜ3 with tb6 hₜ4; (injection hₜ4 with e7 hₜ5; (injection hₜ5 with hr2 hₜ6; rcases hₜ6 with rfl))))))))
      (injection (pick_str hr2 (by decide +kernel) (by decide +kernel)) with x hₜ1; (injection hₜ1 with tx hₜ2; (refine And.elim ?_ (hₜ2); (try clear hₜ2); intro hₜ3 hx; rcases hₜ3 with rfl)))
      replace N17 := News.of_sub (l' := (I, oI) :: (S, srcO a6 b6 ta6 tb6 e7) :: (pl, listOf (ps.map nv).toArray k4) :: (T.objs w.params ++ rest)) N17 (by
        intro q hq
        simp only [List.mem_cons] at hq ⊢
        rcases hq with h | h | h | h <;> simp [h])
      clear F15 N16
      k_steps
      unfold Halt
      rename (Fr _ _ _ _) => F17
      rename (News _ _ _ _) => N18
      have ndI : ND ((I, oI) :: (S, srcO a6 b6 ta6 tb6 e7) :: (pl, listOf (ps.map nv).toArray k4) :: (T.objs w.params ++ rest)) := by
        have q := nd_ne (o := oI) ap nd6
        exact q
      refine MSpec.use (add_element_of w T _ c np x "" x tc tx _ tx hnp hkp (ndI.perm (perm3 _ _ _ _ _)) (P.grow.good.small (by (k_extra "MY om")))) B' F17 X' (News.pm N18 (perm3 _ _ _ _ _)) T' rfl (by (try dsimp only [ktrTop, Around.deeper]); (k_extra "MY om")) (by (try dsimp only [ktrTop, Around.deeper]); (k_extra "MY om")) ?_
      ((intros r news' h11 tk11; intro F18 N19); (intro hₜ5; (injection hₜ5 with n9 hₜ1; (injection hₜ1 with e9 hₜ2; (injection hₜ2 with t9 hₜ3; (refine And.elim ?_ (hₜ3); (try clear hₜ3); intro hₜ4 hₜ5; rcases hₜ4 with rfl; (injection hₜ5 with hn9 hₜ6; (refine And.elim ?_ (hₜ6); (try clear hₜ6); intro hₜ7 nd9; rcases hₜ7 with rfl))))))))
      have N20 := News.pm N19 (perm3 _ _ _ _ _).symm
      have nd10 := nd9.perm (perm3 _ _ _ _ _).symm
      clear F17 N18 N19
      have hIp : @Ne Nat I pl := (nd_head nd10 _ (.tail _ (.head _))).symm
      have hSp : @Ne Nat S pl := (nd_head (nd_tail nd10) _ (.head _)).symm
      have hpp := nd_head (nd_tail (nd_tail nd10))
      k_steps
      rename (Fr _ _ _ _) => F19
      rename (News _ _ _ _) => N21
      have q2 : (ps.map nv).toArray.push (.int (T.ns.length : Int) t9) = ((ps ++ [(T.ns.length, t9)]).map nv).toArray := by simp [nv]
      (replace N21 := N21; rw [q2] at N21)
      exact TurnS.intro F19 N21 (nd_head nd10) (fun y q1 q2 => by obtain ⟨q3, q4⟩ := st2 q2; simp only [if_neg q1, if_neg q3, if_neg q4, q2, Bool.false_eq_true, if_false]; rw [htt]) ⟨_, ps ++ [(T.ns.length, t9)], a6, b6, ta6, tb6, e7, k4 + 1, P.nextE hnp hkp hn9 ⟨by decide +kernel, hx, by decide +kernel⟩, rfl, nd_tail nd10⟩
  · ((intros u news₁ h tk); (intro hₜ9; (injection hₜ9 with T hₜ1; (injection hₜ1 with ps hₜ2; (injection hₜ2 with a3 hₜ3; (injection hₜ3 with b3 hₜ4; (injection hₜ4 with ta3 hₜ5; (injection hₜ5 with tb3 hₜ6; (injection hₜ6 with e4 hₜ7; (injection hₜ7 with k4 hₜ8; (injection hₜ8 with P hₜ9; (refine And.elim ?_ (hₜ9); (try clear hₜ9); intro hₜ10 nd6; rcases hₜ10 with rfl))))))))))); intro F10 N11)
    have hpl := P.pl
    have hpo := P.one
    have htl := P.len
    have htt : T2.b.t = T.b.t := P.t.symm
    have h9 : T.ns.length ≤ 9 := by (k_extra "MY om")
    (replace F10 := F10; rw [htt] at F10)
    k_steps
    unfold Halt
    rename (Fr _ _ _ _) => F11
    rename (News _ _ _ _) => N12
    refine MSpec.use (law_one_of w S pl (ps.map nv) k4 a3 b3 ta3 tb3 e4 _ (by simpa using hpo) (by rw [List.length_map]; (k_extra "MY om")) (.head _) (nd_head nd6)) B' F11 X' N12 T' rfl (by (try dsimp only [ktrTop, Around.deeper]); (k_extra "MY om")) (by (try dsimp only [ktrTop, Around.deeper]); (k_extra "MY om")) ?_
    ((intros r news' h8 tk8; intro F12 N13); (intro hₜ12; (injection hₜ12 with a4 hₜ1; (injection hₜ1 with b4 hₜ2; (injection hₜ2 with ta4 hₜ3; (injection hₜ3 with tb4 hₜ4; (injection hₜ4 with e5 hₜ5; (injection hₜ5 with hr hₜ6; rcases hₜ6 with rfl))))))))
    (injection (P.grow.pickP hr) with c hₜ1; (injection hₜ1 with tc hₜ2; (injection hₜ2 with np hₜ3; (refine And.elim ?_ (hₜ3); (try clear hₜ3); intro hₜ4 hₜ5; rcases hₜ4 with rfl; (injection hₜ5 with hnp hkp)))))
    clear F11 N12
    k_steps
    unfold Halt
    rename (Fr _ _ _ _) => F13
    rename (News _ _ _ _) => N14
    have nd7 : ND ((S, srcO a4 b4 ta4 tb4 e5) :: (pl, listOf (ps.map nv).toArray k4) :: (T.objs w.params ++ rest)) := nd6
    (injection (P.grow.root) with nr2 hₜ1; (injection hₜ1 with hnr2 hkr2))
    refine MSpec.use (law_copied_right_of w T _ c nr2 np t1 tc (P.grow.src h9) P.grow.txt hnr2 hkr2 hnp hkp (nd7.perm (perm2 _ _ _ _))) B' F13 X' (News.pm N14 (perm2 _ _ _ _)) T' rfl (by (try dsimp only [ktrTop, Around.deeper]); (k_extra "MY om")) (by (try dsimp only [ktrTop, Around.deeper]); (k_extra "MY om")) ?_
    ((intros r news' h9 tk9; intro F14 N15); (intro hₜ2; (refine And.elim ?_ (hₜ2); (try clear hₜ2); intro hₜ1 hₜ2; rcases hₜ1 with rfl; rcases hₜ2 with rfl)))
    k_steps
    exact ret _ _ _ _ (by assumption) (News.of_sub (l := (S, srcO a4 b4 ta4 tb4 e5) :: (pl, listOf (ps.map nv).toArray k4) :: rest) (l' := (S, srcO a4 b4 ta4 tb4 e5) :: rest) (by assumption) (by
      intro q hq
      simp only [List.mem_cons] at hq ⊢
      rcases hq with h | h <;> simp [h])) ⟨_, _, _, _, _, rfl, rfl⟩
set_option linter.unusedVariables false
theorem words_35 : True := by
  k_with "OFF 34" => (skip)
  k_with "MY reader" => ((fail_if_success k_extra "OFF 40"); (refine wpAny_call ?_; with_unfolding_all (refine' code_reader ?k1ₘ ?k2ₘ ?k3ₘ ?k4ₘ ?k5ₘ ?kAₘ ?kFₘ ?kKₘ ?k6ₘ ?k7ₘ ?k8ₘ ?k9ₘ ?kBₘ ?_ ?c2ₘ ?c3ₘ ?c4ₘ ?c5ₘ; (case kAₘ => exact rfl); (case kFₘ => exact rfl); (case kKₘ => assumption); (case k1ₘ => k_asm); (case k2ₘ => k_asm); (case k3ₘ => k_asm); (case k4ₘ => k_asm); (case k5ₘ => k_asm); (case k6ₘ => k_is); (case k7ₘ => k_is); (case k8ₘ => ((try dsimp only [ktrTop]); (k_extra "MY om"))); (case k9ₘ => exact BindsTo.of_eq rfl); (case c5ₘ => decide); (case kBₘ => exact locs rfl); (case c2ₘ => exact rfl); (case c3ₘ => exact rfl); (case c4ₘ => exact rfl); k_whole)))
  k_with "LeaveK" => ((fail_if_success k_extra "OFF 40"); ((rename (∀ _ _ _ _ _, Fr _ _ _ _ → News _ _ _ _ → _ → LeaveK _ _ _ _ _ _ _) => lv9ₘ); k_dflt (refine' lv9ₘ _ _ _ _ _ ?k1ₘ ?k2ₘ ?_; (case k1ₘ => k_asm); (case k2ₘ => k_asm); k_whole); (intros kFₘ kNₘ kSₘ kOₘ); (try dsimp only)))
  k_with "exec While Compare cons nil" => ((fail_if_success k_extra "OFF 40"); refine halt_of ?_)
  k_with "exec For Name Name cons nil" => ((fail_if_success k_extra "OFF 40"); refine halt_of ?_)
  k_with "MY k_inst" => ((fail_if_success k_extra "OFF 40"); first | (refine' inst_tree ?Fₘ ?h1ₘ; (case Fₘ => k_asm); (case h1ₘ => assumption)) | (refine' inst_node ?Fₘ ?h1ₘ ?h2ₘ; (case Fₘ => k_asm); (case h1ₘ => assumption); (case h2ₘ => assumption)))
  k_with "MY k_handed" => ((fail_if_success k_extra "OFF 40"); exact handed_par _)
  k_with "MY use" => ((fail_if_success k_extra "OFF 40"); ((try dsimp only); (try k_fold)))
  k_with "MY rd" => ((fail_if_success k_extra "OFF 40"); ((case k1ₘ => k_asm); (case k2ₘ => k_asm); (case k3ₘ => k_asm); (case k4ₘ => k_asm); (case k5ₘ => k_asm); (case kKₘ => first | exact rfl | assumption); (case kdₘ => ((try dsimp only [ktrTop, Around.deeper]); (k_extra "MY om"))); (case kuₘ => ((try dsimp only [ktrTop, Around.deeper]); (k_extra "MY om")))))
  k_with "MY rp" => ((fail_if_success k_extra "OFF 40"); (case kpₘ => exact PT.At.sub (by assumption) (Fr.keep (by k_asm))))
  k_with "MY size" => ((fail_if_success k_extra "OFF 40"); (simp only [List.size_toArray, List.length_map, Array.size_push, PySem.sizeLine_eq]; (k_extra "MY om")))
  k_with "call builtin:list.append" => ((fail_if_success k_extra "OFF 40"); (k_here; (with_reducible show wpAny _ _ (call (Value.builtin _) [Value.ref _, _]) _ _ _); k_dflt (refine' append_K ?k1ₘ ?k2ₘ ?k3ₘ ?_ ?zₘ; (case k1ₘ => k_asm); (case k2ₘ => k_asm); (case k3ₘ => k_upd); (case zₘ => k_extra "MY size"); k_whole); intro h'ₘ F'ₘ N'ₘ))
  k_with "subscriptTail Name Slice ref ref" => ((fail_if_success k_extra "OFF 40"); (k_here; k_dflt (refine' krv_lit ?Fₘ ?Nₘ ?lₘ ?kₘ ?eₘ ?_ ?sₘ ?tₘ ?zₘ; (case Fₘ => k_asm); (case Nₘ => k_asm); (case lₘ => exact News.isList (by k_asm) (by k_mem)); (case kₘ => exact IsPart.int _ _); (case eₘ => exact rfl); (case sₘ => with_unfolding_all rfl); (case tₘ => (intro _; with_unfolding_all rfl)); (case zₘ => k_extra "MY size")); (intros D'ₘ h'ₘ; intro F'ₘ N'ₘ l1ₘ); (try k_lt l1ₘ)))
  k_with "MY k_inst" => ((fail_if_success k_extra "OFF 42"); first | (refine' inst_treeN ?Fₘ; (case Fₘ => k_asm)) | (refine' inst_nodeN ?Fₘ ?h2ₘ; (case Fₘ => k_asm); (case h2ₘ => assumption)))
  trivial
theorem ne_str_same {prog : Program} {w : World} {A : Around} {E : Value → Shared → Prop} {s : Shared} {x y : Str} {t u : Tok} {Q : Value → Shared → Prop} (e : x = y) (h : Q (.bool false) s) : wpAny (model prog w) A (compareOp .NotEq (.str x t) (.str y u)) Q E s :=
  PyProof.Rows.ne_str (by rw [e]; simpa using h)
theorem eq_str_off {prog : Program} {w : World} {A : Around} {E : Value → Shared → Prop} {s : Shared} {x y : Str} {t u : Tok} {Q : Value → Shared → Prop} (e : x ≠ y) (h : Q (.bool false) s) : wpAny (model prog w) A (compareOp .Eq (.str x t) (.str y u)) Q E s :=
  PyProof.Rows.eq_str (by rw [beq_eq_false_iff_ne.mpr e]; exact h)
theorem eq_str_on {prog : Program} {w : World} {A : Around} {E : Value → Shared → Prop} {s : Shared} {x y : Str} {t u : Tok} {Q : Value → Shared → Prop} (e : x = y) (h : Q (.bool true) s) : wpAny (model prog w) A (compareOp .Eq (.str x t) (.str y u)) Q E s :=
  PyProof.Rows.eq_str (by rw [e, beq_self_eq_true]; exact h)
theorem words_36 : True := by
  k_with "compareOp NotEq str str" => ((fail_if_success k_extra "OFF 40"); (k_dflt refine ne_str_same (by assumption) ?_))
  trivial
section
theorem words_37 : True := by
  k_with "MY k_inst" => ((fail_if_success k_extra "OFF 37"); first | (refine' inst_tree ?Fₘ ?h1ₘ; (case Fₘ => k_asm); (case h1ₘ => assumption)) | (refine' inst_node ?Fₘ ?h1ₘ ?h2ₘ; (case Fₘ => k_asm); (case h1ₘ => assumption); (case h2ₘ => assumption)))
  k_with "call ref" => ((fail_if_success k_extra "OFF 37"); ((with_reducible show wpAny _ _ (call (Value.ref 347) _) _ _ _); k_dflt (refine' RSpec.use2 (row_of _ _ _ _ _ ?hkₘ) ?k1ₘ ?k2ₘ ?k3ₘ ?k4ₘ ?k5ₘ ?kKₘ ?kdₘ ?kuₘ ?kpₘ ?_; (case hkₘ => assumption); k_extra "MY rd"; k_extra "MY rp"; k_whole); (intros r9ₘ new9ₘ h9ₘ tk9ₘ; intro F9ₘ N9ₘ S9ₘ O9ₘ p9ₘ); ((injection p9ₘ with p9ₘ p9'ₘ); subst p9ₘ; subst p9'ₘ); simp only [List.nil_append] at N9ₘ; k_extra "MY use"))
  trivial
set_option maxRecDepth 100000 in
set_option maxHeartbeats 8000000 in
theorem element_row_of : ∀ (w : World) (T : PT) (k : Nat) (tk : Tok) (n : NR) (hk : T.ns[k]? = some n) (hel : n.kind = "element"),
    RSpec w 396 2 [.ref T.b.t, .int (k : Int) tk] (fun h => T.At w.params h) (fun _ r new => r = .ref n.a ∧ new = []) := by
  have hEpsₑ : EpsOn 0 := ⟨True.intro⟩
  intros w T k tk n
  intro hk
  intro hel
  (intros dp un gd cn cs a ccd cl outer A₀ base h₀ L m news s p loose mean mg mb Q E; intro B F X N Tp hk9 hd hu pre ret)
  have hT := pre.2.1
  have hn : n ∈ T.ns := List.mem_of_getElem? hk
  k_extra "MY reader"
  (intros L' h'; intro F' N' B' X' T' lv)
  try dsimp only
  try k_fold
  k_steps
  exact ret _ _ _ _ (by assumption) (by assumption) (by assumption) (by assumption) ⟨rfl, rfl⟩
end
theorem words_38 : True := by
  k_with "OFF 37" => (skip)
  trivial
/-- a tree with one attribute, one name more of the node k -/
def PT.attr (T : PT) (e : Nat) (n' : NR) (k : Nat) (n : NR) (t9 : Tok) : PT := (T.more e n').setN k (n.addAt (T.ns.length, t9))
def PT.nsp (T : PT) (e : Nat) (n' : NR) (k : Nat) (n : NR) (t9 : Tok) : PT := (T.more e n').setN k (n.addNs (T.ns.length, t9))
theorem mem_nl {T : PT} {P : Params} {rest : List (Addr × Obj)} {n : NR} (hn : n ∈ T.ns) (h0 : n.ns = []) : (n.nl, listOf #[] (n.ep 3)) ∈ T.objs P ++ rest := by
  have := T.mem_node (P := P) hn _ mem5a
  (replace this := this; rw [h0] at this)
  exact List.mem_append_left _ this
theorem mem_al {T : PT} {P : Params} {rest : List (Addr × Obj)} {n : NR} (hn : n ∈ T.ns) : (n.al, listOf (n.at'.map nv).toArray (n.ep 2)) ∈ T.objs P ++ rest := List.mem_append_left _ (T.mem_node (P := P) hn _ mem5b)
section
theorem words_39 : True := by
  k_with "call ref" => ((fail_if_success k_extra "OFF 42"); first | ((with_reducible show wpAny _ _ (call (Value.ref 340) _) _ _ _); (rename Tok => pt9ₘ); k_dflt (refine' MSpec.use (new_row_of _ _ _ _ _ _ _ _ (some (_, _)) _ _ _ _ _ ?hnₘ ?hlₘ) ?k1ₘ ?k2ₘ ?k3ₘ ?k4ₘ ?k5ₘ ?kKₘ ?kdₘ ?kuₘ ?_; (case hnₘ => assumption); (case hlₘ => assumption); k_extra "MY rd"; k_whole); (intros r9ₘ new9ₘ h9ₘ tk9ₘ; intro F9ₘ N9ₘ p9ₘ); ((injection p9ₘ with n9ₘ hₜ1; (injection hₜ1 with e9ₘ hₜ2; (injection hₜ2 with t9ₘ hₜ3; (injection hₜ3 with q0ₘ hₜ4; (injection hₜ4 with q1ₘ hₜ5; (injection hₜ5 with qaₘ qbₘ))))))); subst q0ₘ; subst qaₘ; (have m9ₘ := more_get (e := e9ₘ) (n' := n9ₘ) (by assumption)); (have mm9ₘ := List.mem_of_getElem? m9ₘ); k_extra "MY use") | ((with_reducible show wpAny _ _ (call (Value.ref 396) _) _ _ _); k_dflt (refine' RSpec.use (element_row_of _ _ _ _ _ ?hkₘ ?heₘ) ?k1ₘ ?k2ₘ ?k3ₘ ?k4ₘ ?k5ₘ ?kKₘ ?kdₘ ?kuₘ ?kpₘ ?_; (case hkₘ => assumption); (case heₘ => assumption); k_extra "MY rd"; (case kpₘ => exact at_news (by k_asm) (by (k_extra "MY om")) (by assumption)); k_whole); (intros r9ₘ new9ₘ h9ₘ tk9ₘ; intro F9ₘ N9ₘ S9ₘ O9ₘ p9ₘ); ((injection p9ₘ with p9ₘ p9'ₘ); subst p9ₘ; subst p9'ₘ); simp only [List.nil_append] at N9ₘ; k_extra "MY use"))
  trivial
section
local macro_rules | `(tactic| walk_at "pyIter ref") => `(tactic| (k_dflt refine for_empty (by exact rfl) (by k_asm) (by k_asm) (by exact mem_nl (by assumption) (by assumption)) ?_; intro h8 tk8 F8 N8))
theorem words_40 : True := by
  k_with "call builtin:list.append" => ((fail_if_success k_extra "OFF 40"); (k_here; (with_reducible show wpAny _ _ (call (Value.builtin _) [Value.ref _, _]) _ _ _); k_dflt (refine' append_K ?k1ₘ ?k2ₘ ?k3ₘ ?_ ?zₘ; (case k1ₘ => k_asm); (case k2ₘ => k_asm); (case k3ₘ => exact upd_ns (_, _) (by assumption) (by assumption)); (case zₘ => (simp only [List.size_toArray, List.length_map]; rw [PySem.sizeLine_eq]; (k_extra "MY om"))); k_whole); intro h'ₘ F'ₘ N'ₘ))
  k_with "getMethod ref" => ((fail_if_success k_extra "OFF 40"); ((with_reducible show wpAny _ _ (getMethod (Value.ref (NR.nl _)) _ _) _ _ _); with_unfolding_all refine getMethod_list_of PySem.F.slot_list_append PySem.F.type_list_append (list_nsN (by k_asm) (by assumption)) (nodict_nsN (by k_asm) (by assumption)) ?_))
  trivial
set_option maxRecDepth 100000 in
set_option maxHeartbeats 8000000 in
theorem add_namespace_of : ∀ (w : World) (T : PT) (rest : List (Addr × Obj)) (k : Nat) (n : NR) (prefix' uri : Str) (tk t1 t2 : Tok) (hk : T.ns[k]? = some n) (hel : n.kind = "element") (h0 : n.ns = []) (hnd : ND (T.objs w.params ++ rest)) (hs : T.Small),
    MSpec w 410 7 [.ref T.b.t, .int (k : Int) tk, .str prefix' t1, .str uri t2] (T.objs w.params ++ rest)
      (fun r news' => ∃ (n' : NR) (e t9 : Nat), r = .int (T.ns.length : Int) t9 ∧ n'.Is "namespace" prefix' "" prefix' uri (some (k, tk)) ∧
        news' = (T.nsp e n' k n t9).objs w.params ++ rest ∧ ND ((T.nsp e n' k n t9).objs w.params ++ rest)) := by
  have hEpsₑ : EpsOn 0 := ⟨True.intro⟩
  intros w T rest k n prefix' uri tk
  intros t1 t2
  intro hk
  intro hel
  intro h0
  intro hnd
  intro hs
  (intros dp un gd cn cs a ccd cl outer A₀ base h₀ L m s p loose mean mg mb Q E; intro B F X N Tp hk9 hd hu ret)
  (injection hs with hl hb)
  have hkl := get_lt hk
  have hn := List.mem_of_getElem? hk
  have hb1 := hb n hn
  have hb' : ∀ n ∈ T.ns, n.ch.length ≤ 1000 ∧ n.at'.length ≤ 1000 ∧ n.ns.length ≤ 1000 := fun n hn => by have := hb n hn; (k_extra "MY om")
  k_extra "MY enter"
  (intros g L' h'; intro FG F' N' B' X' T')
  try dsimp only
  try k_fold
  k_steps
  exact ret _ _ _ _ (by assumption) (by assumption) ⟨_, _, _, rfl, (by assumption), rfl, nd_set (n := n) (by assumption) (by assumption) rfl rfl⟩
end
end
set_option linter.unusedVariables false
theorem words_41 : True := by
  k_with "OFF 40" => (skip)
  trivial
theorem list_rowsM {T : PT} {P : Params} {h₀ h : Heap} {L : Addr} {news : List (Addr × Obj)} (N : News h₀ L h news) (hs : ∀ q ∈ T.objs P, q ∈ news) : h.IsList T.b.rl (T.ns.map fun n => Value.ref n.a).toArray := ⟨_, (N _ (hs _ (.tail _ (.tail _ (.head _))))).1, rfl, _, rfl⟩
theorem inst_nodeM {T : PT} {P : Params} {h₀ h : Heap} {L : Addr} {news : List (Addr × Obj)} {n : NR} (N : News h₀ L h news) (hs : ∀ q ∈ T.objs P, q ∈ news) (hn : n ∈ T.ns) : InstAt h n.a (instObj 315 n.d) 315 (some (dictOf (n.es P) (n.ep 0))) :=
  ⟨(N _ (hs _ (T.mem_node hn _ mem5d))).1, rfl, rfl, (N _ (hs _ (T.mem_node hn _ mem5e))).1⟩
theorem words_42 : True := by
  k_with "MY sub" => ((fail_if_success k_extra "OFF 42"); (intro qₘ hqₘ; (repeat (first | with_reducible exact List.mem_append_left _ hqₘ | with_reducible refine List.mem_cons_of_mem _ ?_ | with_reducible refine List.mem_append_right _ ?_))))
  k_with "Halt" => ((fail_if_success k_extra "OFF 55"); fail "halt")
  k_with "compareOp Eq str str" => ((fail_if_success k_extra "OFF 45"); (k_dflt refine eq_str_off (by assumption) ?_))
  k_with "subscriptTail Attribute Name Name ref int" => ((fail_if_success k_extra "OFF 42"); (k_here; k_dflt (refine' item_listA ?k1ₘ ?k2ₘ ?k3ₘ ?k4ₘ ?_; (case k1ₘ => exact list_rowsM (by k_asm) (by k_extra "MY sub")); (case k2ₘ => (k_extra "MY om")); (case k3ₘ => (k_extra "MY om")); (case k4ₘ => assumption); k_whole)))
  k_with "call builtin:list.append" => ((fail_if_success k_extra "OFF 42"); (k_here; (with_reducible show wpAny _ _ (call (Value.builtin _) [Value.ref _, _]) _ _ _); k_dflt (refine' append_K ?k1ₘ ?k2ₘ ?k3ₘ ?_ ?zₘ; (case k1ₘ => k_asm); (case k2ₘ => k_asm); (case k3ₘ => exact upd_at (_, _) (by assumption) (by assumption)); (case zₘ => (simp only [List.size_toArray, List.length_map]; rw [PySem.sizeLine_eq]; (k_extra "MY om"))); k_whole); intro h'ₘ F'ₘ N'ₘ))
  k_with "getMethod ref" => ((fail_if_success k_extra "OFF 42"); ((with_reducible show wpAny _ _ (getMethod (Value.ref (NR.al _)) _ _) _ _ _); with_unfolding_all refine getMethod_list_of PySem.F.slot_list_append PySem.F.type_list_append (list_atN (by k_asm) (by assumption)) (nodict_atN (by k_asm) (by assumption)) ?_))
  k_with "MY k_inst" => ((fail_if_success k_extra "OFF 42"); first | (refine' inst_treeM ?Fₘ ?hsₘ; (case Fₘ => k_asm); (case hsₘ => k_extra "MY sub")) | (refine' inst_nodeM ?Fₘ ?hsₘ ?h2ₘ; (case Fₘ => k_asm); (case h2ₘ => assumption); (case hsₘ => k_extra "MY sub")))
  trivial
theorem putsL_two {x1 x2 : Str} {a b a' b' : Value} {M : Str → Option Value} : putsL [(x1, a), (x2, b), (x1, a'), (x2, b')] M = putsL [(x1, a), (x2, b)] M := by
  funext y; simp only [putsL]; by_cases h : y = x1 <;> by_cases h2 : y = x2 <;> simp [h, h2]
set_option maxRecDepth 100000 in
set_option maxHeartbeats 8000000 in
theorem set_attribute_of : ∀ (w : World) (T : PT) (rest : List (Addr × Obj)) (k : Nat) (n : NR) (name uri loc value : Str) (tk t1 t2 t3 t4 : Tok) (hk : T.ns[k]? = some n) (hel : n.kind = "element") (h0 : ∀ c ∈ n.at', ∃ na : NR, T.ns[c.1]? = some na ∧ na.loc ≠ loc) (hnd : ND (T.objs w.params ++ rest)) (hs : T.Small),
    MSpec w 403 7 [.ref T.b.t, .int (k : Int) tk, .str name t1, .str uri t2, .str loc t3, .str value t4] (T.objs w.params ++ rest)
      (fun r news' => ∃ (n' : NR) (e t9 : Nat), r = .int (T.ns.length : Int) t9 ∧ n'.Is "attribute" name uri loc value (some (k, tk)) ∧
        news' = (T.attr e n' k n t9).objs w.params ++ rest ∧ ND ((T.attr e n' k n t9).objs w.params ++ rest)) := by
  have hEpsₑ : EpsOn 0 := ⟨True.intro⟩
  intros w T rest k n name uri loc value tk t1 t2
  intros t3 t4
  intro hk
  intro hel
  intro h0
  intro hnd
  intro hs
  (intros dp un gd cn cs a ccd cl outer A₀ base h₀ L m s p loose mean mg mb Q E; intro B F X N Tp hk9 hd hu ret)
  (injection hs with hl hb)
  have hkl := get_lt hk
  have hn := List.mem_of_getElem? hk
  have hb1 := hb n hn
  have hb' : ∀ n ∈ T.ns, n.ch.length ≤ 1000 ∧ n.at'.length ≤ 1000 ∧ n.ns.length ≤ 1000 := fun n hn => by have := hb n hn; (k_extra "MY om")
  k_extra "MY enter"
  (intros g L' h'; intro FG F' N' B' X' T')
  try dsimp only
  try k_fold
  k_steps
  unfold Halt
  rename (Fr _ _ _ _) => F1
  rename (News _ _ _ _) => N1
  refine for_puts (vs := n.at'.map nv) (fun i l news' => (l = [] ∨ ∃ a b, l = [(Str.ofString "known", a), (Str.ofString "node", b)]) ∧ news' = _) [] (by exact rfl) F1 N1 (fun _ h => nomatch h) (fun i l news' h => .inl (by rw [h.2]; exact mem_al hn)) ⟨.inl rfl, rfl⟩ ?_ ?_
  · clear F1 N1
    ((intros i v l₁ news₂ h tk9 I oI; intro hv); (intro hₜ1; (injection hₜ1 with hl9 hₜ1; rcases hₜ1 with rfl)); intro ap F1 N1 hI0)
    have hₜ1 : ∃ c, c ∈ n.at' ∧ nv c = v := by
      (replace hv := hv; rw [List.getElem?_map] at hv)
      cases hq : n.at'[i]? with
      | none => (replace hv := hv; rw [hq] at hv); cases hv
      | some c => (replace hv := hv; rw [hq] at hv); exact ⟨c, List.mem_of_getElem? hq, Option.some.inj hv⟩
    (refine Exists.elim (hₜ1) ?_; (try clear hₜ1); refine prodI ?_; intro c; intro tc; intro hₜ2; (injection hₜ2 with hcm hₜ4; rcases hₜ4 with rfl))
    (injection (h0 _ hcm) with na hₜ1; (injection hₜ1 with hna hne))
    dsimp only at hna
    have hcl := get_lt hna
    have i9 := item_rows hna
    have hnm := List.mem_of_getElem? hna
    ((rcases hl9 with hᵤ1 | hᵤ2) <;> (first | ((fail_if_success (fail_if_success clear hᵤ1)); subst hᵤ1) | ((fail_if_success (fail_if_success clear hᵤ2)); (injection hᵤ2 with a9 hₜ1; (injection hₜ1 with b9 hₜ2; rcases hₜ2 with rfl)))))
    all_goals simp only [putsL, nv] at F1
    all_goals k_steps
    all_goals (rename (Fr _ _ _ _) => F3; rename (News _ _ _ _) => N3)
    all_goals refine TurnQ.intro F3 N3 ap ⟨[(Str.ofString "known", .ref na.a), (Str.ofString "node", .int (c : Int) tc)], ?_, .inr ⟨_, _, rfl⟩, rfl⟩
    all_goals first | rfl | exact putsL_two
  · ((intros l₁ news₁ h tk9); (intro hₜ3; (injection hₜ3 with hl9 hₜ1; rcases hₜ1 with rfl)); intro F4 N4)
    ((rcases hl9 with hᵤ3 | hᵤ4) <;> (first | ((fail_if_success (fail_if_success clear hᵤ3)); subst hᵤ3) | ((fail_if_success (fail_if_success clear hᵤ4)); (injection hᵤ4 with a9 hₜ1; (injection hₜ1 with b9 hₜ2; rcases hₜ2 with rfl)))))
    all_goals simp only [putsL] at F4
    all_goals k_steps
    all_goals exact ret _ _ _ _ (by assumption) (by assumption) ⟨_, _, _, rfl, (by assumption), rfl, nd_set (n := n) (by assumption) (by assumption) rfl rfl⟩
set_option linter.unusedVariables false
section
variable {prog : Program} {w : World} {A : Around} {E : Value → Shared → Prop} {s : Shared} {h₀ : Heap} {L : Addr} {m : Str → Option Value}
/-- the ground of a turn -/
structure GndS (h₀ : Heap) (L : Addr) (m : Str → Option Value) (h : Heap) (C I D : Addr) (y : Str) (ty : Tok) (i : Nat) (news : List (Addr × Obj)) : Prop where
  F : Fr h₀ L h m
  N : News h₀ L h news
  ap : Apart C I D news
  it : h.IsStrIter I "str_ascii_iterator" y ty i
  ns : ∃ mC, h.Ns C mC
theorem GndS.led {h : Heap} {C I D : Addr} {y : Str} {ty : Tok} {i : Nat} {news : List (Addr × Obj)} (G : GndS h₀ L m h C I D y ty i news) (B : Blk h₀ L C I D) {oD : Obj} (hD : h.get? D = some oD) {mC : Str → Option Value} (hC : h.Ns C mC) :
    ∃ oI oC, h.get? I = some oI ∧ h.get? C = some oC ∧ (∀ h' : Heap, h'.get? I = some oI → h'.IsStrIter I "str_ascii_iterator" y ty i) ∧ LCg.NsObj oC mC ∧ News h₀ L h ((C, oC) :: (I, oI) :: (D, oD) :: news) := by
  (injection hC with oC hₜ1; (injection hₜ1 with es hₜ2; (injection hₜ2 with ep hₜ3; (injection hₜ3 with hoC r))))
  (injection (G.it) with oI hₜ1; (injection hₜ1 with hoI q))
  refine ⟨oI, oC, hoI, hoC, fun h' e => ⟨oI, e, q⟩, ⟨es, ep, r⟩, ?_⟩
  intro p hp
  cases hp with
  | head => exact ⟨hoC, B.cL, B.c0⟩
  | tail _ hp => cases hp with
    | head => exact ⟨hoI, B.iL, B.i0⟩
    | tail _ hp => cases hp with
      | head => exact ⟨hD, B.dL, B.d0⟩
      | tail _ hp => exact G.N p hp
theorem GndS.but {h h' : Heap} {C I D b : Addr} {y : Str} {ty : Tok} {i : Nat} {news : List (Addr × Obj)} (G : GndS h₀ L m h C I D y ty i news) (hs : Heap.ExtBut b h h') (hb : b = C ∨ b = I ∨ b = D) (B : Blk h₀ L C I D) : Fr h₀ L h' m ∧ News h₀ L h' news := by
  have hbL : L ≠ b := by rcases hb with e | e | e <;> rw [e] <;> first | exact B.cL.symm | exact B.iL.symm | exact B.dL.symm
  have hb0 : h₀.get? b = none := by rcases hb with e | e | e <;> rw [e] <;> first | exact B.c0 | exact B.i0 | exact B.d0
  refine ⟨⟨G.F.ns.extBut hs hbL, fun x o e => hs x o (fun q => by (replace e := e; rw [q, hb0] at e); cases e) (G.F.keep x o e), G.F.above⟩, fun p hp => ⟨hs _ _ ?_ (G.N p hp).1, (G.N p hp).2⟩⟩
  rcases hb with e | e | e <;> rw [e] <;> first | exact (G.ap p hp).1 | exact (G.ap p hp).2.1 | exact (G.ap p hp).2.2
variable {R : Result → Shared → Prop}
theorem compS_loop : ∀ {prog : Program} {w : World} {A : Around} {s : Shared} {h₀ : Heap} {L : Addr} {m : Str → Option Value} {R : Result → Shared → Prop} {elt iter : PySem.Expr} {x : Str} {px : Pos} {scope : Scope} {pos : Pos} {C I D : Addr} {y : Str} {ty : Tok} {cenv : Env} {news : List (Addr × Obj)} (J : Nat → List Value → List (Addr × Obj) → Prop) (hh : A.handled = none) (B : Blk h₀ L C I D) (hC : cenv.locals = C) (hx : cenv.kindOf x = some .local) (hp : (cenv.scope.kind == .class || (cenv.scope.kind == .module && cenv.locals != cenv.globals)) = false) (hsz : y.cps.size ≤ sizeLine) (G : GndS h₀ L m s.heap C I D y ty 0 news) (hD : s.heap.PlainList D #[]) (hJ : J 0 [] news) (turn : ∀ i v ys news₁ h tk oC oI oD m₂ E', i < y.cps.size → SignAt y i v → J i ys news₁ → Apart C I D news₁ → Fr h₀ L h m → News h₀ L h ((C, oC) :: (I, oI) :: (D, oD) :: news₁) → LCg.NsObj oC m₂ → m₂ x = some v →
      wpAny (model prog w) A (eval elt cenv) (fun yv s₃ => ∃ h' tk' news', s₃ = { s with heap := h', toks := tk' } ∧ Fr h₀ L h' m ∧ News h₀ L h' ((C, oC) :: (I, oI) :: (D, oD) :: news') ∧ Apart C I D news' ∧ J (i + 1) (ys ++ [yv]) news') E' { s with heap := h, toks := tk }) (hR : ∀ h' tk ys news' k mC, Fr h₀ L h' m → h'.Ns C mC → News h₀ L h' ((D, listOf ys.toArray k) :: news') → Apart C I D news' → J y.cps.size ys news' → ys.length = y.cps.size → R (.ok .next) { s with heap := h', toks := tk }),
    codeAny (model prog w) A (.compLoop (.ListComp elt [⟨.Name x px, iter, [], 0⟩] scope pos) 0 (.ref I) (.ref D) cenv) R s := by
  have hEpsₑ : EpsOn 0 := ⟨True.intro⟩
  intros prog w A s h₀ L m R elt iter x px scope pos C I D y ty cenv news J
  intro hh
  intro B
  intro hC
  intro hx
  intro hp
  intro hsz
  intro G
  intro hD
  intro hJ
  intro turn
  intro hR
  subst hC
  refine codeAny_compLoop_tests
    (fun k s' => ∃ h' tk, ∃ i : Nat, ∃ ys news', s' = { s with heap := h', toks := tk } ∧ GndS h₀ L m h' cenv.locals I D y ty i news' ∧ h'.PlainList D (ys : List Value).toArray ∧ J i ys news' ∧ ys.length = i ∧ i ≤ y.cps.size ∧ k = y.cps.size + 1 - i) ?_ (y.cps.size + 1)
    ⟨s.heap, s.toks, 0, [], news, rfl, G, hD, hJ, rfl, Nat.zero_le _, rfl⟩
  ((intros k s'); (intro hₜ2; (injection hₜ2 with h' hₜ1; (injection hₜ1 with tk hₜ2; (injection hₜ2 with i hₜ3; (injection hₜ3 with ys hₜ4; (injection hₜ4 with news' hₜ5; (refine And.elim ?_ (hₜ5); (try clear hₜ5); intro hₜ6 hₜ7; rcases hₜ6 with rfl; (injection hₜ7 with G' hₜ8; (injection hₜ8 with hD' hₜ9; (injection hₜ9 with hJ' hₜ10; (injection hₜ10 with hys hₜ11; (injection hₜ11 with hi hₜ12; rcases hₜ12 with rfl)))))))))))))
  have W := Walks.strAscii (prog := prog) (w := w) hh I y ty
  rcases Nat.lt_or_ge i y.cps.size with hlt | hge
  · refine W.item i _ _ _ hlt G'.it ?_
    (intros v h₁ tk₁; intro hv; intro st₁; intro hk₁)
    (injection (G'.ns) with mC hns)
    have x₁ := extBut_of hk₁
    (injection (G'.but x₁ (.inr (.inl rfl)) B) with F₁ N₁)
    have G₁ : GndS h₀ L m h₁ cenv.locals I D y ty (i + 1) news' := ⟨F₁, N₁, G'.ap, st₁, mC, hns.extBut x₁ B.ci⟩
    refine wpAny_assign_Name (wpAny_storeName_local hx (hns.extBut x₁ B.ci) ?_ hp)
    intro h₂ hn₂ hs₂
    (injection (G₁.but hs₂.extBut (.inl rfl) B) with F₂ N₂)
    have G₂ : GndS h₀ L m h₂ cenv.locals I D y ty (i + 1) news' := ⟨F₂, N₂, G'.ap, st₁.extBut hs₂.extBut B.ci.symm, _, hn₂⟩
    have hD₂ := (hD'.extBut x₁ B.di).extBut hs₂.extBut B.cd.symm
    (injection hD₂ with kD oD)
    (injection (G₂.led B oD hn₂) with oI hₜ1; (injection hₜ1 with oC hₜ2; (injection hₜ2 with hoI hₜ3; (injection hₜ3 with hoC hₜ4; (injection hₜ4 with qI hₜ5; (injection hₜ5 with qC N3))))))
    show wpAny _ _ (pure true) _ _ _
    refine wpAny_pure ?_
    simp only [if_true]
    refine wpAny_mono (turn i v ys news' _ _ oC oI _ _ _ hlt hv hJ' G'.ap F₂ N3 qC (by simp)) ?_ fun _ _ e => e
    (intros yv s₃ h₃)
    (injection h₃ with h₃ hₜ1; (injection hₜ1 with tk₃ hₜ2; (injection hₜ2 with news₃ hₜ3; (refine And.elim ?_ (hₜ3); (try clear hₜ3); intro hₜ4 hₜ5; rcases hₜ4 with rfl; (injection hₜ5 with F₃ hₜ6; (injection hₜ6 with N₄ hₜ7; (injection hₜ7 with ap₃ hJ₃)))))))
    have eI := (N₄ _ (.tail _ (.head _))).1
    have eC := (N₄ _ (.head _)).1
    have eD := (N₄ _ (.tail _ (.tail _ (.head _)))).1
    have G₃ : GndS h₀ L m h₃ cenv.locals I D y ty (i + 1) news₃ := ⟨F₃, fun p hp => N₄ p (.tail _ (.tail _ (.tail _ hp))), ap₃, qI _ eI, _, qC.ns eC⟩
    refine wpAny_list_append_plain (hsz := by simp; (k_extra "MY om")) (⟨_, eD⟩ : h₃.PlainList D ys.toArray) ?_
    intro h₅ hl₅ hs₅
    (injection (G₃.but hs₅.extBut (.inr (.inr rfl)) B) with F₅ N₅)
    exact ⟨y.cps.size + 1 - (i + 1), by (k_extra "MY om"), h₅, _, i + 1, ys ++ [yv], news₃, rfl, ⟨F₅, N₅, ap₃, (qI _ eI).extBut hs₅.extBut B.di.symm, _, (qC.ns eC).extBut hs₅.extBut B.cd⟩, by simpa using hl₅, hJ₃, by simp [hys], by (k_extra "MY om"), rfl⟩
  · have hin' : i = y.cps.size := by (k_extra "MY om")
    subst hin'
    refine W.done _ _ _ G'.it ?_
    (intros h₁ tk₁; intro hk₁)
    have x₁ := extBut_of hk₁
    (injection (G'.but x₁ (.inr (.inl rfl)) B) with F₁ N₁)
    (injection (G'.ns) with mC hns)
    (injection (hD'.extBut x₁ B.di) with kD oD)
    refine hR h₁ tk₁ ys news' kD mC F₁ (hns.extBut x₁ B.ci) ?_ G'.ap hJ' hys
    intro p hp
    cases hp with
    | head => exact ⟨oD, B.dL, B.d0⟩
    | tail _ hp => exact N₁ p hp
end
section
variable {prog : Program} {w : World} {A : Around} {E : Value → Shared → Prop} {s : Shared} {h₀ : Heap} {L : Addr} {m : Str → Option Value} {env : Env}
/-- the turn of a list comprehension -/
def TurnS1 (prog : Program) (w : World) (A : Around) (h₀ : Heap) (L : Addr) (m : Str → Option Value) (env : Env) (scope : Scope) (cl : List (Str × Addr)) (x : Str) (elt : PySem.Expr) (y : Str) (J : Nat → List Value → List (Addr × Obj) → Prop) (s₁ : Shared) : Prop :=
  ∀ C I D i v ys news₁ h tk oC oI oD m₂ E', Blk h₀ L C I D → i < y.cps.size → SignAt y i v → J i ys news₁ → Apart C I D news₁ → Fr h₀ L h m → News h₀ L h ((C, oC) :: (I, oI) :: (D, oD) :: news₁) → LCg.NsObj oC m₂ → m₂ x = some v →
    wpAny (model prog w) A (eval elt (compEnvC scope cl C env)) (fun yv s₃ => ∃ h' tk' news', s₃ = { s₁ with heap := h', toks := tk' } ∧ Fr h₀ L h' m ∧ News h₀ L h' ((C, oC) :: (I, oI) :: (D, oD) :: news') ∧ Apart C I D news' ∧ J (i + 1) (ys ++ [yv]) news') E' { s₁ with heap := h, toks := tk }
def CompAtS (prog : Program) (w : World) (A : Around) (h₀ : Heap) (L : Addr) (m : Str → Option Value) (env : Env) (scope : Scope) (cl : List (Str × Addr)) (x : Str) (elt : PySem.Expr) (done : Nat → Addr → List Value → Nat → List (Addr × Obj) → (Nat → List Value → List (Addr × Obj) → Prop) → Shared → Heap → Nat → Prop) (xv : Value) (s₁ : Shared) : Prop :=
  ∃ y ty news, ∃ J : Nat → List Value → List (Addr × Obj) → Prop, xv = .str y ty ∧ y.cps.all (· < 128) = true ∧ y.cps.size ≤ sizeLine ∧ Fr h₀ L s₁.heap m ∧ News h₀ L s₁.heap news ∧ J 0 [] news ∧
    TurnS1 prog w A h₀ L m env scope cl x elt y J s₁ ∧ ∀ D ys k news' h' tk, h₀.get? D = none → (∀ p ∈ news', p.1 ≠ D) → J y.cps.size ys news' → ys.length = y.cps.size → News h₀ L h' ((D, listOf ys.toArray k) :: news') → done y.cps.size D ys k news' J s₁ h' tk
theorem comp_blockS {elt iter : PySem.Expr} {x : Str} {px : Pos} {scope : Scope} {cl : List (Str × Addr)} {pos : Pos} {xv : Value} {RR : Value → Addr → Result → Shared → Prop}
    {done : Nat → Addr → List Value → Nat → List (Addr × Obj) → (Nat → List Value → List (Addr × Obj) → Prop) → Shared → Heap → Nat → Prop}
    (hh : A.handled = none) (hcell : ∀ y ∈ scope.names, y.2 ≠ .cell) (hkind : scope.kind = .function) (hx : scope.names.lookup x = some .local)
    (h : CompAtS prog w A h₀ L m env scope cl x elt done xv s)
    (hRR : ∀ D C h' tk ys k news' n J mC, Fr h₀ L h' m → h'.Ns C mC → C ≠ L → C ≠ D → h₀.get? C = none → News h₀ L h' ((D, listOf ys.toArray k) :: news') → (∀ p ∈ news', p.1 ≠ C ∧ p.1 ≠ D) → (∀ h'' tk', News h₀ L h'' ((D, listOf ys.toArray k) :: news') → done n D ys k news' J s h'' tk') → RR (.ref D) C (.ok .next) { s with heap := h', toks := tk }) :
    wpAny (model prog w) A (pyIter xv) (fun it s₂ => wpAny (model prog w) A (newList []) (fun acc s₃ => wpAny (model prog w) A (newFunctionEnv scope env.globals cl [] env.qual none .none (some env)) (fun cenv s₄ =>
      codeAny (model prog w) A (.compStart (.ListComp elt [⟨.Name x px, iter, [], 0⟩] scope pos) 0 it acc { cenv with scope := relabel scope env }) (RR acc cenv.locals) s₄) E s₃) E s₂) E s := by
  (injection h with y hₜ1; (injection hₜ1 with ty hₜ2; (injection hₜ2 with news hₜ3; (injection hₜ3 with J hₜ4; (refine And.elim ?_ (hₜ4); (try clear hₜ4); intro hₜ5 hₜ6; rcases hₜ5 with rfl; (injection hₜ6 with hasc hₜ7; (injection hₜ7 with hsz hₜ8; (injection hₜ8 with F hₜ9; (injection hₜ9 with N hₜ10; (injection hₜ10 with hJ hₜ11; (injection hₜ11 with turn hQ)))))))))))
  refine wpAny_pyIter_ascii hasc ?_
  generalize hH1 : s.heap.push { cls := .type "str_ascii_iterator", data := .fields #[.str y ty, .int 0 0] } = H1
  refine wpAny_newObj_type (wpAny_newFunctionEnv hcell (by intro y hy; simp at hy) ?_ hkind)
  intro h₁ hns₁ hsb₁
  dsimp only at hns₁ hsb₁ ⊢
  generalize hH2 : H1.push { cls := .type "list", dict := none, data := .seq ([] : List Value).toArray } = H2 at hns₁ hsb₁ ⊢
  have B := blk_of F hH1 hH2
  have old : ∀ b o, s.heap.get? b = some o → h₁.get? b = some o := fun b o e => hsb₁.extBut b o (Nat.ne_of_lt (by
      have q : @LT.lt Nat _ b s.heap.objs.size := Heap.lt_size e
      have z1 : H1.objs.size = s.heap.objs.size + 1 := by rw [← hH1, Heap.size_push]
      have z2 : H2.objs.size = s.heap.objs.size + 2 := by rw [← hH2, Heap.size_push, z1]
      show @LT.lt Nat _ b H2.objs.size
      (k_extra "MY om"))) (Heap.get?_push_of_some _ (hH2 ▸ Heap.get?_push_of_some _ (hH1 ▸ Heap.get?_push_of_some _ e)))
  have hI : h₁.IsStrIter s.heap.objs.size "str_ascii_iterator" y ty 0 := by
    refine ⟨{ cls := .type "str_ascii_iterator", data := .fields #[.str y ty, .int 0 0] }, hsb₁.extBut _ _ B.ci.symm (Heap.get?_push_of_some _ (hH2 ▸ Heap.get?_push_of_some _ (hH1 ▸ Heap.get?_push_size _ rfl))), rfl, rfl⟩
  have hD : h₁.PlainList H1.objs.size #[] := ⟨_, hsb₁.extBut _ _ B.cd.symm (Heap.get?_push_of_some _ (hH2 ▸ Heap.get?_push_size _ rfl))⟩
  have ap : Apart H2.objs.size s.heap.objs.size H1.objs.size news := fun p hp => by
    have q : @LT.lt Nat _ p.1 s.heap.objs.size := Heap.lt_size (N p hp).1
    have z1 : H1.objs.size = s.heap.objs.size + 1 := by rw [← hH1, Heap.size_push]
    have z2 : H2.objs.size = s.heap.objs.size + 2 := by rw [← hH2, Heap.size_push, z1]
    have g1 : @LT.lt Nat _ p.1 H1.objs.size := by (k_extra "MY om")
    have g2 : @LT.lt Nat _ p.1 H2.objs.size := by (k_extra "MY om")
    exact ⟨Nat.ne_of_lt g2, Nat.ne_of_lt q, Nat.ne_of_lt g1⟩
  have loop : ∀ s₃ : Shared, s₃ = { s with heap := h₁, toks := s.toks + ([] : List (Str × Value)).length } →
      codeAny (model prog w) A (.compLoop (.ListComp elt [⟨.Name x px, iter, [], 0⟩] scope pos) 0 (.ref s.heap.objs.size) (.ref H1.objs.size) (compEnvC scope cl H2.objs.size env))
        (RR (.ref H1.objs.size) H2.objs.size) s₃ := by
    (intro s₃ hₜ12; subst hₜ12)
    refine compS_loop (L := L) (m := m) (cenv := compEnvC scope cl H2.objs.size env) (news := news) J hh B rfl (lookup_relabel_local hx) (by simp [compEnvC, relabel, hkind]) hsz
      ⟨F.keeps old, N.grown old, ap, hI, _, hns₁⟩ hD hJ ?_ ?_
    · (intros i v ys news₁ h tk oC oI; intros oD m₂ E'; intro hlt hv; intros hJ' ap'; intro F' N' hns hm)
      exact turn _ _ _ i v ys news₁ h tk oC oI oD m₂ E' B hlt hv hJ' ap' F' N' hns hm
    · (intros h' tk ys news' k mC; intro F'; intro hns'; intro N'; intros ap' hJ'; intro hlen)
      exact hRR _ _ h' tk ys k news' y.cps.size J mC F' hns' B.cL B.cd B.c0 N' (fun p hp => ⟨(ap' p hp).1, (ap' p hp).2.2⟩) fun h'' tk' N'' => hQ _ ys k news' h'' tk' B.d0 (fun p hp => (ap' p hp).2.2) hJ' hlen N''
  refine codeAny_compStart_list (loop _ rfl) ?_
  refine wpAny_pyIter_striter_ascii hI (loop _ rfl)

theorem ListComp_S {elt iter : PySem.Expr} {x : Str} {px : Pos} {scope : Scope} {cl : List (Str × Addr)} {pos : Pos} {Q : Value → Shared → Prop}
    (F₀ : Fr h₀ L s.heap m) (hclos : closureFor scope env = pure cl) (hh : A.handled = none) (hcell : ∀ y ∈ scope.names, y.2 ≠ .cell) (hkind : scope.kind = .function)
    (hnames : ∀ y ∈ scope.names, y.2 = .local → scope.names.lookup y.1 = some .local) (hx : scope.names.lookup x = some .local)
    (h : wpAny (model prog w) A (eval iter env) (CompAtS prog w A h₀ L m env scope cl x elt (fun n D ys k news' J s₁ h' tk => Fr h₀ L h' m → Q (.ref D) { s₁ with heap := h', toks := tk })) E s)
    (hs : ∀ x, foldedSetIterable iter env x = pure x := by intro _; rfl) :
    wpAny (model prog w) A (eval (.ListComp elt [⟨.Name x px, iter, [], 0⟩] scope pos) env) Q E s := by
  rw [eval_ListComp]
  refine wpAny_comprehension_free (use := none) rfl hs hclos hkind hnames (wpAny_mono h ?_ fun _ _ e => e)
  (intros xv s₁ h₁)
  refine comp_blockS (RR := fun acc C => compPost (model prog w) A E none Q acc C) hh hcell hkind hx h₁ ?_
  (intros D C h' tk ys k news' n; intros J mC; intro F'; intros hns' cL cD c0; intro N'; intros ap' fin)
  refine ⟨mC, hns', fun h'' hs'' => fin h'' tk (fun p hp => ⟨(hs''.2 p.1 ?_).trans (N' p hp).1, (N' p hp).2⟩) ⟨F'.ns.sameBut hs'' cL.symm, fun b o e => (hs''.2 b fun q => by (replace e := e; rw [q, c0] at e); cases e).trans (F'.keep b o e), F'.above⟩⟩
  cases hp with
  | head => exact cD.symm
  | tail _ hp => exact (ap' p hp).1
end
set_option linter.unusedVariables false
theorem words_43 : True := by
  k_with "OFF 42" => (skip)
  k_with "MY reader" => ((fail_if_success k_extra "OFF 55"); (refine wpAny_call ?_; with_unfolding_all (refine' code_reader ?k1ₘ ?k2ₘ ?k3ₘ ?k4ₘ ?k5ₘ ?kAₘ ?kFₘ ?kKₘ ?k6ₘ ?k7ₘ ?k8ₘ ?k9ₘ ?kBₘ ?_ ?c2ₘ ?c3ₘ ?c4ₘ ?c5ₘ; (case kAₘ => exact rfl); (case kFₘ => exact rfl); (case kKₘ => assumption); (case k1ₘ => k_asm); (case k2ₘ => k_asm); (case k3ₘ => k_asm); (case k4ₘ => k_asm); (case k5ₘ => k_asm); (case k6ₘ => k_is); (case k7ₘ => k_is); (case k8ₘ => ((try dsimp only [ktrTop]); (k_extra "MY om"))); (case k9ₘ => exact BindsTo.of_eq rfl); (case c5ₘ => decide); (case kBₘ => exact locs rfl); (case c2ₘ => exact rfl); (case c3ₘ => exact rfl); (case c4ₘ => exact rfl); k_whole)))
  k_with "LeaveK" => ((fail_if_success k_extra "OFF 55"); ((rename (∀ _ _ _ _ _, Fr _ _ _ _ → News _ _ _ _ → _ → LeaveK _ _ _ _ _ _ _) => lv9ₘ); k_dflt (refine' lv9ₘ _ _ _ _ _ ?k1ₘ ?k2ₘ ?_; (case k1ₘ => k_asm); (case k2ₘ => k_asm); k_whole); (intros kFₘ kNₘ kSₘ kOₘ); (try dsimp only)))
  k_with "exec While Compare cons nil" => ((fail_if_success k_extra "OFF 55"); refine halt_of ?_)
  k_with "exec For Name Name cons nil" => ((fail_if_success k_extra "OFF 55"); refine halt_of ?_)
  k_with "MY k_inst" => ((fail_if_success k_extra "OFF 55"); first | (refine' inst_tree ?Fₘ ?h1ₘ; (case Fₘ => k_asm); (case h1ₘ => assumption)) | (refine' inst_node ?Fₘ ?h1ₘ ?h2ₘ; (case Fₘ => k_asm); (case h1ₘ => assumption); (case h2ₘ => assumption)))
  k_with "MY rp" => ((fail_if_success k_extra "OFF 55"); (case kpₘ => exact PT.At.sub (by assumption) (Fr.keep (by k_asm))))
  k_with "MY size" => ((fail_if_success k_extra "OFF 55"); (simp only [List.size_toArray, List.length_map, Array.size_push, PySem.sizeLine_eq]; (k_extra "MY om")))
  k_with "call builtin:list.append" => ((fail_if_success k_extra "OFF 55"); (k_here; (with_reducible show wpAny _ _ (call (Value.builtin _) [Value.ref _, _]) _ _ _); k_dflt (refine' append_K ?k1ₘ ?k2ₘ ?k3ₘ ?_ ?zₘ; (case k1ₘ => k_asm); (case k2ₘ => k_asm); (case k3ₘ => k_upd); (case zₘ => k_extra "MY size"); k_whole); intro h'ₘ F'ₘ N'ₘ))
  k_with "subscriptTail Name Slice ref ref" => ((fail_if_success k_extra "OFF 55"); (k_here; k_dflt (refine' krv_lit ?Fₘ ?Nₘ ?lₘ ?kₘ ?eₘ ?_ ?sₘ ?tₘ ?zₘ; (case Fₘ => k_asm); (case Nₘ => k_asm); (case lₘ => exact News.isList (by k_asm) (by k_mem)); (case kₘ => exact IsPart.int _ _); (case eₘ => exact rfl); (case sₘ => with_unfolding_all rfl); (case tₘ => (intro _; with_unfolding_all rfl)); (case zₘ => k_extra "MY size")); (intros D'ₘ h'ₘ; intro F'ₘ N'ₘ l1ₘ); (try k_lt l1ₘ)))
  trivial
/-- one sign that is written as it is -/
structure Safe (x : Str) : Prop where
  amp : x ≠ "&"
  lt : x ≠ "<"
  gt : x ≠ "\""
  ws : (Builtin.Str.occurrences (Str.ofString "\t\n\r") x 0 (Str.ofString "\t\n\r").length 1).isEmpty = true
  one : x.cps.size = 1
  asc : x.cps.all (· < 128) = true
theorem in_str_off {prog : Program} {w : World} {A : Around} {E : Value → Shared → Prop} {s : Shared} {x y : Str} {t u : Tok} {Q : Value → Shared → Prop} (h0 : (Builtin.Str.occurrences x y 0 x.length 1).isEmpty = true) (h : Q (.bool false) s) : wpAny (model prog w) A (compareOp .In (.str y u) (.str x t)) Q E s :=
  PyProof.Rows.in_str (by rw [h0]; exact h)
theorem words_44 : True := by
  k_with "compareOp In str str" => ((fail_if_success k_extra "OFF 45"); (k_dflt refine in_str_off (by assumption) ?_))
  trivial
set_option maxRecDepth 100000 in
set_option maxHeartbeats 8000000 in
theorem value_escape_of : ∀ (w : World) (x : Str) (t : Tok) (hx : Safe x),
    RSpec w 522 1 [.str x t] (fun _ => True) (fun _ r new => r = .str x t ∧ new = []) := by
  have hEpsₑ : EpsOn 0 := ⟨True.intro⟩
  intros w x t
  intro hx
  (first | (injection hx with hx1 hₜ1; (injection hₜ1 with hx2 hₜ2; (injection hₜ2 with hx3 hₜ3; (injection hₜ3 with hx4 hₜ4; (injection hₜ4 with hx5 hx6))))) | rcases hx with ⟨hx1, hx2, hx3, hx4, hx5, hx6⟩)
  (intros dp un gd cn cs a ccd cl outer A₀ base h₀ L m news s p loose mean mg mb Q E; intro B F X N Tp hk9 hd hu pre ret)
  k_extra "MY reader"
  (intros L' h'; intro F' N' B' X' T' lv)
  try dsimp only
  try k_fold
  k_steps
  exact ret _ _ _ _ (by assumption) (by assumption) (by assumption) (by assumption) ⟨rfl, rfl⟩
/-- a short text of signs that are written as they are -/
structure Safes (x : Str) : Prop where
  asc : x.cps.all (· < 128) = true
  all : ∀ c ∈ x.cps.toList, Safe ⟨#[c]⟩
  two : x.cps.toList.length ≤ 2
theorem Safe.s {x : Str} (h : Safe x) : Safes x := by
  obtain ⟨⟨l⟩⟩ := x
  have h1 : l.length = 1 := h.one
  refine ⟨h.asc, fun c hc => ?_, by show l.length ≤ 2; (k_extra "MY om")⟩
  rcases l with _ | ⟨a, _ | ⟨b, l⟩⟩
  · cases hc
  · rw [List.mem_singleton.mp hc]; exact h
  · simp at h1
def sgv (l : List (Nat × Tok)) : List Value := l.map fun p => .str ⟨#[p.1]⟩ p.2
def SgJ (x : Str) (i : Nat) (ys : List Value) : Prop := ∃ l : List (Nat × Tok), l.map (·.1) = x.cps.toList.take i ∧ ys = sgv l
theorem sg_strs : ∀ l : List (Nat × Tok), StrsAre (sgv l) (l.map fun p => (⟨#[p.1]⟩ : Str))
  | [] => .nil
  | p :: l => .cons _ p.2 (sg_strs l)
theorem sg_join {x : Str} {l : List (Nat × Tok)} (h : l.map (·.1) = x.cps.toList) (h2 : x.cps.toList.length ≤ 2) : Txt.join (Str.ofString "") (l.map fun p => (⟨#[p.1]⟩ : Str)) = x := by
  obtain ⟨⟨c⟩⟩ := x
  dsimp only at h h2
  rcases l with _ | ⟨⟨a, ta⟩, _ | ⟨⟨b, tb⟩, _ | ⟨d, l⟩⟩⟩
  · subst h; rfl
  · subst h; rfl
  · subst h; rfl
  · subst h; simp at h2
/-- a text of safe signs is written as it is -/
theorem words_45 : True := by
  k_with "call ref" => ((fail_if_success k_extra "OFF 45"); first | (k_dflt ((with_reducible show wpAny _ _ (call (Value.ref 522) _) _ _ _); k_dflt (refine' RSpec.use2 (value_escape_of _ _ _ ?hkₘ) ?k1ₘ ?k2ₘ ?k3ₘ ?k4ₘ ?k5ₘ ?kKₘ ?kdₘ ?kuₘ ?kpₘ ?_; (case hkₘ => assumption); k_extra "MY rd"; (case kpₘ => exact trivial); k_whole); (intros r9ₘ new9ₘ h9ₘ tk9ₘ; intro F9ₘ N9ₘ S9ₘ O9ₘ p9ₘ); ((injection p9ₘ with p9ₘ p9'ₘ); subst p9ₘ; subst p9'ₘ); simp only [List.nil_append] at N9ₘ; k_extra "MY use")))
  k_with "eval ListComp" => ((fail_if_success k_extra "OFF 45"); refine halt_of ?_)
  trivial
set_option maxRecDepth 100000 in
set_option maxHeartbeats 8000000 in
theorem escaped_value_of : ∀ (w : World) (x : Str) (t : Tok) (hx : Safes x),
    RSpec w 532 2 [.str x t] (fun _ => True) (fun _ r new => ∃ t', r = .str x t') := by
  have hEpsₑ : EpsOn 0 := ⟨True.intro⟩
  intros w x t
  intro hx
  (intros dp un gd cn cs a ccd cl outer A₀ base h₀ L m news s p loose mean mg mb Q E; intro B F X N Tp hk9 hd hu pre ret)
  k_extra "MY reader"
  (intros L' h'; intro F' N' B' X' T' lv)
  try dsimp only
  try k_fold
  k_steps
  unfold Halt
  refine ListComp_S F' rfl rfl (by decide) rfl (by decide) rfl ?_
  k_steps
  rename (Fr _ _ _ _) => F1
  have h2 : x.cps.size ≤ 2 := hx.two
  refine ⟨x, _, [], fun i ys news' => news' = [] ∧ SgJ x i ys, rfl, hx.asc, by rw [PySem.sizeLine_eq]; (k_extra "MY om"), F1, (by assumption), ⟨rfl, ⟨[], rfl, rfl⟩⟩, ?_, ?_⟩
  · clear F1
    ((intros C I D i v ys news₁ h tk9 oC oI oD; intros m₂ E' blk; intro hi); (intro hₜ1; (injection hₜ1 with c hₜ1; (injection hₜ1 with u hₜ2; (injection hₜ2 with hc hₜ3; rcases hₜ3 with rfl)))); (intro hₜ4; (refine And.elim ?_ (hₜ4); (try clear hₜ4); intro hₜ1 hₜ2; rcases hₜ1 with rfl; (injection hₜ2 with l hₜ3; (injection hₜ3 with hl hₜ4; rcases hₜ4 with rfl)))); intro ap F5 N5 hC hm)
    have hcm : x.cps.toList[i]? = some c := by rw [Array.getElem?_toList]; exact hc
    have hsc := hx.all c (List.mem_of_getElem? hcm)
    k_steps
    all_goals first
      | assumption
      | ((rename _ ∈ ([] : List (Addr × Obj)) => hp9); cases hp9)
      | exact ⟨l ++ [(c, u)], by rw [List.map_append, hl, List.take_add_one, hcm]; rfl, by simp [sgv]⟩
  · ((intros D ys k news' h tk9; intro hD0; intro ap); (intro hₜ5; (refine And.elim ?_ (hₜ5); (try clear hₜ5); intro hₜ1 hₜ2; rcases hₜ1 with rfl; (injection hₜ2 with l hₜ3; (injection hₜ3 with hl hₜ4; rcases hₜ4 with rfl)))); intro hlen N5 F5)
    (replace hl := hl; rw [List.take_of_length_le (by simp)] at hl)
    k_steps
    rename (News _ _ _ _) => N6
    rename (Fr _ _ _ _) => F6
    have hln : l.length ≤ 2 := by have q := congrArg List.length hl; (replace q := q; rw [List.length_map] at q); have := hx.two; (k_extra "MY om")
    refine join_listW (ys := l.map fun p => (⟨#[p.1]⟩ : Str)) (News.isList N6 (.head _)) (sg_strs l) (by decide) ?_ ?_
    · rcases l with _ | ⟨a1, _ | ⟨a2, _ | ⟨a3, l⟩⟩⟩
      · simp
      · simp [PySem.Str.length]
      · simp [PySem.Str.length]
      · simp at hln
    · (intros t2 k2)
      rw [sg_join hl hx.two]
      k_steps
      exact ret _ _ _ _ (by assumption) (by assumption) (by assumption) (by assumption) ⟨_, rfl⟩
set_option linter.unusedVariables false
theorem words_46 : True := by
  k_with "OFF 45" => (skip)
  trivial
theorem in_str_on {prog : Program} {w : World} {A : Around} {E : Value → Shared → Prop} {s : Shared} {x y : Str} {t u : Tok} {Q : Value → Shared → Prop} (h0 : (Builtin.Str.occurrences x y 0 x.length 1).isEmpty = false) (h : Q (.bool true) s) : wpAny (model prog w) A (compareOp .In (.str y u) (.str x t)) Q E s :=
  PyProof.Rows.in_str (by rw [h0]; exact h)
theorem words_47 : True := by
  k_with "compareOp In str str" => ((fail_if_success k_extra "OFF 47"); (k_dflt first | refine in_str_off (by decide +kernel) ?_ | refine in_str_on (by decide +kernel) ?_))
  trivial
set_option maxRecDepth 100000 in
set_option maxHeartbeats 8000000 in
theorem prefix_of_0 : ∀ (w : World) (t : Tok),
    RSpec w 539 1 [.str "r" t] (fun _ => True) (fun _ r new => ∃ t', r = .str "" t') := by
  have hEpsₑ : EpsOn 0 := ⟨True.intro⟩
  intros w t
  (intros dp un gd cn cs a ccd cl outer A₀ base h₀ L m news s p loose mean mg mb Q E; intro B F X N Tp hk9 hd hu pre ret)
  k_extra "MY reader"
  (intros L' h'; intro F' N' B' X' T' lv)
  try dsimp only
  try k_fold
  k_steps
  all_goals exact ret _ _ _ _ (by assumption) (by assumption) (by assumption) (by assumption) ⟨_, rfl⟩
set_option maxRecDepth 100000 in
set_option maxHeartbeats 8000000 in
theorem prefix_of_1 : ∀ (w : World) (t : Tok),
    RSpec w 539 1 [.str "e" t] (fun _ => True) (fun _ r new => ∃ t', r = .str "" t') := by
  have hEpsₑ : EpsOn 0 := ⟨True.intro⟩
  intros w t
  (intros dp un gd cn cs a ccd cl outer A₀ base h₀ L m news s p loose mean mg mb Q E; intro B F X N Tp hk9 hd hu pre ret)
  k_extra "MY reader"
  (intros L' h'; intro F' N' B' X' T' lv)
  try dsimp only
  try k_fold
  k_steps
  all_goals exact ret _ _ _ _ (by assumption) (by assumption) (by assumption) (by assumption) ⟨_, rfl⟩
set_option maxRecDepth 100000 in
set_option maxHeartbeats 8000000 in
theorem prefix_of_2 : ∀ (w : World) (t : Tok),
    RSpec w 539 1 [.str "p:e" t] (fun _ => True) (fun _ r new => ∃ t', r = .str "p" t') := by
  have hEpsₑ : EpsOn 0 := ⟨True.intro⟩
  intros w t
  (intros dp un gd cn cs a ccd cl outer A₀ base h₀ L m news s p loose mean mg mb Q E; intro B F X N Tp hk9 hd hu pre ret)
  k_extra "MY reader"
  (intros L' h'; intro F' N' B' X' T' lv)
  try dsimp only
  try k_fold
  k_steps
  all_goals exact ret _ _ _ _ (by assumption) (by assumption) (by assumption) (by assumption) ⟨_, rfl⟩
set_option maxRecDepth 100000 in
set_option maxHeartbeats 8000000 in
theorem prefix_of_3 : ∀ (w : World) (t : Tok),
    RSpec w 539 1 [.str "p:x" t] (fun _ => True) (fun _ r new => ∃ t', r = .str "p" t') := by
  have hEpsₑ : EpsOn 0 := ⟨True.intro⟩
  intros w t
  (intros dp un gd cn cs a ccd cl outer A₀ base h₀ L m news s p loose mean mg mb Q E; intro B F X N Tp hk9 hd hu pre ret)
  k_extra "MY reader"
  (intros L' h'; intro F' N' B' X' T' lv)
  try dsimp only
  try k_fold
  k_steps
  all_goals exact ret _ _ _ _ (by assumption) (by assumption) (by assumption) (by assumption) ⟨_, rfl⟩
set_option maxRecDepth 100000 in
set_option maxHeartbeats 8000000 in
theorem prefix_of_4 : ∀ (w : World) (t : Tok),
    RSpec w 539 1 [.str "p:y" t] (fun _ => True) (fun _ r new => ∃ t', r = .str "p" t') := by
  have hEpsₑ : EpsOn 0 := ⟨True.intro⟩
  intros w t
  (intros dp un gd cn cs a ccd cl outer A₀ base h₀ L m news s p loose mean mg mb Q E; intro B F X N Tp hk9 hd hu pre ret)
  k_extra "MY reader"
  (intros L' h'; intro F' N' B' X' T' lv)
  try dsimp only
  try k_fold
  k_steps
  all_goals exact ret _ _ _ _ (by assumption) (by assumption) (by assumption) (by assumption) ⟨_, rfl⟩
set_option maxRecDepth 100000 in
set_option maxHeartbeats 8000000 in
theorem prefix_of_5 : ∀ (w : World) (t : Tok),
    RSpec w 539 1 [.str "a" t] (fun _ => True) (fun _ r new => ∃ t', r = .str "" t') := by
  have hEpsₑ : EpsOn 0 := ⟨True.intro⟩
  intros w t
  (intros dp un gd cn cs a ccd cl outer A₀ base h₀ L m news s p loose mean mg mb Q E; intro B F X N Tp hk9 hd hu pre ret)
  k_extra "MY reader"
  (intros L' h'; intro F' N' B' X' T' lv)
  try dsimp only
  try k_fold
  k_steps
  all_goals exact ret _ _ _ _ (by assumption) (by assumption) (by assumption) (by assumption) ⟨_, rfl⟩
set_option maxRecDepth 100000 in
set_option maxHeartbeats 8000000 in
theorem prefix_of_6 : ∀ (w : World) (t : Tok),
    RSpec w 539 1 [.str "xml:lang" t] (fun _ => True) (fun _ r new => ∃ t', r = .str "xml" t') := by
  have hEpsₑ : EpsOn 0 := ⟨True.intro⟩
  intros w t
  (intros dp un gd cn cs a ccd cl outer A₀ base h₀ L m news s p loose mean mg mb Q E; intro B F X N Tp hk9 hd hu pre ret)
  k_extra "MY reader"
  (intros L' h'; intro F' N' B' X' T' lv)
  try dsimp only
  try k_fold
  k_steps
  all_goals exact ret _ _ _ _ (by assumption) (by assumption) (by assumption) (by assumption) ⟨_, rfl⟩
set_option linter.unusedVariables false
section
variable {prog : Program} {w : World} {A : Around} {E : Value → Shared → Prop} {s : Shared} {env : Env} {h₀ : Heap} {x : Str} {body : List Stmt} {Q : Flow → Shared → Prop}
theorem for_listT : ∀ {prog : Program} {w : World} {A : Around} {E : Value → Shared → Prop} {s : Shared} {env : Env} {h₀ : Heap} {body : List Stmt} {Q : Flow → Shared → Prop} {target : PySem.Expr} {l : Addr} {vs : List Value} {c : Nat} {m₀ : Str → Option Value} {news : List (Addr × Obj)} (J : Nat → (Str → Option Value) → List (Addr × Obj) → Prop) (hh : A.handled = none) (F : Fr h₀ env.locals s.heap m₀) (N : News h₀ env.locals s.heap news) (hin : ∀ i m news, J i m news → (l, listOf vs.toArray c) ∈ news ∨ h₀.get? l = some (listOf vs.toArray c)) (hj : J 0 m₀ news) (turn : ∀ i v m₁ news₁ h tk I oI, vs[i]? = some v → J i m₁ news₁ → (∀ p ∈ news₁, p.1 ≠ I) → Fr h₀ env.locals h m₁ → News h₀ env.locals h ((I, oI) :: news₁) →
      wpAny (model prog w) A (assign target env v) (fun _ s₃ => wpAny (model prog w) A (execs body env) (TurnQ h₀ env.locals I oI (J (i + 1)) s Q) E s₃) E { s with heap := h, toks := tk }) (done : ∀ m₁ news₁ h tk, J vs.length m₁ news₁ → Fr h₀ env.locals h m₁ → News h₀ env.locals h news₁ → Q .next { s with heap := h, toks := tk }),
    wpAny (model prog w) A (pyIter (.ref l)) (fun it s₂ => TurnsAt prog w A h₀ env target body Q E it s₂) E s := by
  have hEpsₑ : EpsOn 0 := ⟨True.intro⟩
  intros prog w A E s env h₀ body Q target l vs
  intros c m₀ news J
  intro hh
  intro F
  intro N
  intro hin
  intro hj
  intro turn
  intro done
  have at_ : ∀ {i m news} {h : Heap}, J i m news → Fr h₀ env.locals h m → News h₀ env.locals h news → h.get? l = some (listOf vs.toArray c) := fun hJ F N => (hin _ _ _ hJ).elim (fun q => (N _ q).1) fun q => F.keep _ _ q
  have hol := at_ hj F N
  have hls : s.heap.IsList l vs.toArray := ⟨_, hol, rfl, _, rfl⟩
  have hlt : l < s.heap.objs.size := Heap.lt_size hol
  have hne : l ≠ s.heap.objs.size := Nat.ne_of_lt hlt
  have hlL : l ≠ env.locals := by
    rcases hin _ _ _ hj with q | q
    · exact (N _ q).2.1
    · exact Nat.ne_of_lt (Nat.lt_of_lt_of_le (Heap.lt_size q) F.above)
  refine wpAny_pyIter_list hls ?_
  have W := Walks.list (prog := prog) (w := w) hh s.heap.objs.size l hne vs.toArray
  have hlen : vs.toArray.size = vs.length := by simp
  (replace W := W; rw [hlen] at W)
  refine ⟨_, _, _, vs.length, _, _, _, m₀, news, J, rfl, KTurns.ofWalks W (fun i v s Q E st q => letGo_listiter st.1 q), ?_, ?_, ?_, ⟨⟨_, Heap.get?_push_size _ rfl, rfl, rfl⟩, hls.at fun o e => Heap.get?_push_of_some _ e⟩, F.push _, (fun p hp => ⟨Heap.get?_push_of_some _ (N p hp).1, (N p hp).2⟩), hj, ?_, ?_⟩
  · intro hm
    rcases List.mem_cons.mp hm with e | hm
    · exact absurd F.ns.lt (e ▸ Nat.lt_irrefl _)
    · exact hlL (List.mem_singleton.mp hm).symm
  · intro b hb
    rw [List.mem_singleton.mp hb]
    exact next_is_new F
  · intro p hp hI
    exact absurd (Heap.lt_size (N p hp).1) ((List.mem_singleton.mp hI) ▸ Nat.lt_irrefl _)
  · ((intros i v m₁ news₁ hh' tk'; intro own; intro hi hP hJ hoff hown hownget hmem hst; intros F₁ N₁))
    (refine And.elim ?_ (hst); (try clear hst); intro hₜ1 hₜ2; (injection hₜ1 with oi hₜ3; (injection hₜ3 with hoi hₜ4; rcases hₜ4 with _)); rcases hₜ2 with _)
    have hI : (s.heap.objs.size, oi) ∈ own := hmem _ (.head _) (next_is_new F) oi hoi
    have hv : vs[i]? = some v := by simpa using hP
    have hI1 : ∀ p ∈ news₁, p.1 ≠ s.heap.objs.size := fun p hp e => hoff p hp (e ▸ .head _)
    have N₂ : News h₀ env.locals hh' ((s.heap.objs.size, oi) :: news₁) := fun p hp => N₁ p ((List.mem_cons.mp hp).elim (fun e => List.mem_append.mpr (.inl (e ▸ hI))) fun h => List.mem_append.mpr (.inr h))
    have hl₁ : hh'.get? l = some (listOf vs.toArray c) := by
      have q := hin _ _ _ hJ
      rcases q with q | q
      · exact (N₂ _ (.tail _ q)).1
      · exact F₁.keep _ _ q
    refine wpAny_mono (turn i v m₁ news₁ hh' tk' s.heap.objs.size oi hv hJ hI1 F₁ N₂) ?_ fun _ _ e => e
    (intros xz s₃ h₃)
    refine wpAny_mono h₃ ?_ fun _ _ e => e
    (intros f s₂ p)
    have fin : (∃ h' tk' m' news', s₂ = { s with heap := h', toks := tk' } ∧ Fr h₀ env.locals h' m' ∧ News h₀ env.locals h' ((s.heap.objs.size, oi) :: news') ∧ (∀ p ∈ news', p.1 ≠ s.heap.objs.size) ∧ J (i + 1) m' news') →
        LoopStepU h₀ env.locals [s.heap.objs.size] own (J (i + 1)) { s with heap := hh', toks := tk' } .next s₂ := by
      ((intro hₜ5; (injection hₜ5 with h' hₜ1; (injection hₜ1 with tk2 hₜ2; (injection hₜ2 with m' hₜ3; (injection hₜ3 with news' hₜ4; (refine And.elim ?_ (hₜ4); (try clear hₜ4); intro hₜ5 hₜ6; rcases hₜ5 with rfl; (injection hₜ6 with F' hₜ7; (injection hₜ7 with N' hₜ8; (injection hₜ8 with hI2 hJ'))))))))))
      refine ⟨rfl, h', tk2, m', news', rfl, F', fun p hp => ?_, fun p hp hq => hI2 p hp (List.mem_singleton.mp hq), hJ'⟩
      rcases List.mem_append.mp hp with hp | hp
      · have h1 := hown p hp
        have h2 := hownget p hp
        rcases List.mem_cons.mp h1 with e | e
        · have : p = (s.heap.objs.size, oi) := by
            (first | (injection p with a o) | rcases p with ⟨a, o⟩)
            dsimp only at e h2
            subst e
            (replace h2 := h2; rw [hoi] at h2)
            cases h2; rfl
          exact this ▸ N' _ (.head _)
        · have e := List.mem_singleton.mp e
          (first | (injection p with a o) | rcases p with ⟨a, o⟩)
          dsimp only at e h2
          subst e
          (replace h2 := h2; rw [hl₁] at h2)
          cases h2
          refine ⟨?_, hlL, (N₁ _ (List.mem_append_left _ hp)).2.2⟩
          rcases hin _ _ _ hJ' with q | q
          · exact (N' _ (.tail _ q)).1
          · exact F'.keep _ _ q
      · exact N' _ (.tail _ hp)
    cases f with
    | ret v => exact .ret p
    | brk => exact .brk p
    | next => exact .next (fin p)
    | cont => exact .cont (fin p)
  · ((intros h' tk m' news'; intro F' N' _ hJ))
    exact done m' news' h' tk hJ F' N'
theorem for_putsT {target : PySem.Expr} {l : Addr} {vs : List Value} {c : Nat} {M : Str → Option Value} {news : List (Addr × Obj)} (J : Nat → List (Str × Value) → List (Addr × Obj) → Prop)
    (hh : A.handled = none) (F : Fr h₀ env.locals s.heap M) (N : News h₀ env.locals s.heap news) (hin : ∀ i m news, J i m news → (l, listOf vs.toArray c) ∈ news ∨ h₀.get? l = some (listOf vs.toArray c)) (hj : J 0 [] news)
    (turn : ∀ i v l₁ news₁ h tk I oI, vs[i]? = some v → J i l₁ news₁ → (∀ p ∈ news₁, p.1 ≠ I) → Fr h₀ env.locals h (putsL l₁ M) → News h₀ env.locals h ((I, oI) :: news₁) → h₀.get? I = none →
      wpAny (model prog w) A (assign target env v) (fun _ s₃ => wpAny (model prog w) A (execs body env) (TurnQ h₀ env.locals I oI (fun m' news' => ∃ l', m' = putsL l' M ∧ J (i + 1) l' news') s Q) E s₃) E { s with heap := h, toks := tk })
    (done : ∀ l₁ news₁ h tk, J vs.length l₁ news₁ → Fr h₀ env.locals h (putsL l₁ M) → News h₀ env.locals h news₁ → Q .next { s with heap := h, toks := tk }) :
    wpAny (model prog w) A (pyIter (.ref l)) (fun it s₂ => TurnsAt prog w A h₀ env target body Q E it s₂) E s := by
  refine for_listT (J := fun i m' news' => ∃ l', m' = putsL l' M ∧ J i l' news') hh F N (fun i m news ⟨l', _, hJ⟩ => hin i l' news hJ) ⟨[], rfl, hj⟩ ?_ ?_
  · ((intros i v m₁ news₁ h tk I oI; intro hv); (intro hₜ1; (injection hₜ1 with l' hₜ1; (refine And.elim ?_ (hₜ1); (try clear hₜ1); intro hₜ2 hJ; rcases hₜ2 with rfl))); (intros ap F₁ N₁))
    exact turn i v l' news₁ h tk I oI hv hJ ap F₁ N₁ (N₁ _ (.head _)).2.2
  · ((intros m₁ news₁ h tk); (intro hₜ4; (injection hₜ4 with l' hₜ1; (refine And.elim ?_ (hₜ1); (try clear hₜ1); intro hₜ2 hJ; rcases hₜ2 with rfl))); (intros F₁ N₁))
    exact done l' news₁ h tk hJ F₁ N₁
end
set_option linter.unusedVariables false
theorem words_48 : True := by
  k_with "OFF 47" => (skip)
  trivial
/-- what a scope holds -/
def scD : Option Str → List (PyData × PyData)
  | none => [(.str "xml", .str "http://www.w3.org/XML/1998/namespace")]
  | some u => [(.str "xml", .str "http://www.w3.org/XML/1998/namespace"), (.str "p", .str u)]
/-- a scope: the prefix p is bound to c -/
def SO (w : World) (c : Option Str) (o : Obj) : Prop := ∃ kvs, Obj.IsDictOf (PySem.strKind PG w) o kvs ∧ PyProof.V.FlatPairs PyData.str kvs (scD c)
theorem words_49 : True := by
  k_with "exec For Tuple Name cons nil" => ((fail_if_success k_extra "OFF 50"); (k_here; (rename Fr _ _ _ _ => lF'ₘ); (with_unfolding_all refine' For_turns lF'ₘ ?_; k_whole)))
  k_with "MY k_tabat" => ((fail_if_success k_extra "OFF 50"); exact tab_base (by k_asm) (by assumption) (by assumption) (by assumption) (by assumption))
  trivial
set_option maxRecDepth 100000 in
set_option maxHeartbeats 8000000 in
theorem inner_scope_0 : ∀ (w : World) (sc pr : Addr) (oS : Obj) (e : Nat) (hlo : (sc == sysModules) = false) (hW : SO w none oS),
    RSpec w 579 1 [.ref sc, .ref pr] (fun h => h.get? sc = some oS ∧ h.get? pr = some (listOf #[] e)) (fun _ r new => ∃ x o, r = .ref x ∧ (x, o) ∈ new ∧ (x == sysModules) = false ∧ SO w none o) := by
  have hEpsₑ : EpsOn 0 := ⟨True.intro⟩
  intros w sc pr oS e
  intro hlo
  intro hW
  (intros dp un gd cn cs a ccd cl outer A₀ base h₀ L m news s p loose mean mg mb Q E; intro B F X N Tp hk9 hd hu pre ret)
  (injection pre with hsc hpr)
  (injection hW with kvs hₜ1; (injection hₜ1 with wd wf1))
  k_extra "MY reader"
  (intros L' h'; intro F' N' B' X' T' lv)
  try dsimp only
  try k_fold
  k_steps
  unfold Halt
  rename (Fr _ _ _ _) => F1
  rename (News _ _ _ _) => N1
  refine for_listT (vs := []) (fun _ m' news' => m' = _ ∧ news' = _) (by exact rfl) F1 N1 (fun i m' news' h => .inr hpr) ⟨rfl, rfl⟩ (fun i v _ _ _ _ _ _ hv => by simp at hv) ?_
  ((intros m₁ news₁ h tk9); (intro hₜ2; (refine And.elim ?_ (hₜ2); (try clear hₜ2); intro hₜ1 hₜ2; rcases hₜ1 with rfl; rcases hₜ2 with rfl)); intro F2 N2)
  k_steps
  rename Obj.IsDictOf _ _ _ => hd9
  rename PyProof.V.FlatPairs _ _ _ => hf9
  exact ret _ _ _ _ (by assumption) (by assumption) (by assumption) (by assumption) ⟨_, _, rfl, .head _, by assumption, _, hd9, hf9⟩
theorem flat_eq {K : Type} {enc : K → PyData} {kvs : List (K × Value)} {D D' : List (PyData × PyData)} (h : PyProof.V.FlatPairs enc kvs D) (e : D = D') : PyProof.V.FlatPairs enc kvs D' := e ▸ h
theorem exists_O {g h : Heap} {L D : Addr} {o : Obj} {l : List (Addr × Obj)} (N : News g L h ((D, o) :: l)) : ∃ o', o' = o := ⟨_, rfl⟩
theorem unpackB {prog : Program} {w : World} {A : Around} {E : Value → Shared → Prop} {s : Shared} {env : Env} {h₀ : Heap} {L : Addr} {m : Str → Option Value} {news : List (Addr × Obj)} {elts : List PySem.Expr} {k} {pos : Pos} {t : Addr} {vs : List Value} {Q : Unit → Shared → Prop} (F : Fr h₀ L s.heap m) (N : News h₀ L s.heap news) (ho : h₀.get? t = some (tupObj vs))
    (hh : A.handled = none) (hn : (assignEach elts env).length = vs.length) (hstar : (assignEach elts env).findIdx? (·.1) = none)
    (h : ∀ h', Fr h₀ L h' m → News h₀ L h' news → wpAny (model prog w) A (assignInOrder ((assignEach elts env).map (·.2)) vs) Q E { s with heap := h' }) :
    wpAny (model prog w) A (assign (.Tuple elts k pos) env (.ref t)) Q E s :=
  unpackN_ F N ⟨_, F.keep _ _ ho, rfl, _, rfl⟩ hh (by simpa using hn) hstar (by simpa using h)
theorem words_50 : True := by
  k_with "assign Tuple" => ((fail_if_success k_extra "OFF 50"); (k_dflt (refine' unpackB ?Fₘ ?Nₘ ?dₘ ?k1ₘ ?k2ₘ ?k3ₘ ?_; (case Fₘ => k_asm); (case Nₘ => k_asm); (case dₘ => assumption); (case k1ₘ => exact rfl); (case k2ₘ => exact rfl); (case k3ₘ => exact rfl)); intro h'ₘ F'ₘ N'ₘ))
  trivial
set_option maxRecDepth 100000 in
set_option maxHeartbeats 8000000 in
theorem inner_scope_1 : ∀ (w : World) (sc pr t : Addr) (u : Str) (tp tu : Tok) (oS : Obj) (e : Nat) (hlo : (sc == sysModules) = false) (hW : SO w none oS),
    RSpec w 579 1 [.ref sc, .ref pr] (fun h => h.get? sc = some oS ∧ h.get? pr = some (listOf [Value.ref t].toArray e) ∧ h.get? t = some (tupObj [.str "p" tp, .str u tu])) (fun _ r new => ∃ x o, r = .ref x ∧ (x, o) ∈ new ∧ (x == sysModules) = false ∧ SO w (some u) o) := by
  have hEpsₑ : EpsOn 0 := ⟨True.intro⟩
  intros w sc pr t u tp tu oS
  intro e
  intro hlo
  intro hW
  (intros dp un gd cn cs a ccd cl outer A₀ base h₀ L m news s p loose mean mg mb Q E; intro B F X N Tp hk9 hd hu pre ret)
  (injection pre with hsc hₜ1; (injection hₜ1 with hpr htu))
  (injection hW with kvs hₜ1; (injection hₜ1 with wd wf1))
  k_extra "MY reader"
  (intros L' h'; intro F' N' B' X' T' lv)
  try dsimp only
  try k_fold
  k_steps
  unfold Halt
  rename (Fr _ _ _ _) => F1
  rename (News _ _ _ _) => N1
  rename Obj.IsDictOf _ _ _ => hd9
  rename PyProof.V.FlatPairs _ _ _ => hf9
  (injection (exists_D N1) with dd hdd)
  subst hdd
  (injection (exists_O N1) with od hod)
  subst hod
  refine for_putsT (vs := [.ref t]) (fun i l news' => (i = 0 ∧ l = [] ∧ news' = [(dd, od)]) ∨ (i = 1 ∧ ∃ o, l = [(Str.ofString "uri", .str u tu), (Str.ofString "prefix", .str "p" tp)] ∧ news' = [(dd, o)] ∧ SO w (some u) o)) (by exact rfl) F1 N1 (fun i l news' h => .inr hpr) (.inl ⟨rfl, rfl, rfl⟩) ?_ ?_
  · ((intros i v l₁ news₁ h tk9 I oI; intro hv hJ; intro ap; intro F2 N2 hI0))
    have apd := ap
    rcases hJ with ⟨rfl, rfl, rfl⟩ | ⟨rfl, _⟩
    · obtain rfl : Value.ref t = v := by simpa using hv
      have hdI : @Ne Nat dd I := ap _ (.head _)
      clear wd wf1
      k_steps
      rename (Fr _ _ _ _) => F3
      rename (News _ _ _ _) => N3
      rename Obj.IsDictOf _ _ _ => hd8
      rename PyProof.V.FlatPairs _ _ _ => hf8
      have hf7 := flat_eq (D' := scD (some u)) hf8 (by with_unfolding_all rfl)
      refine TurnQ.intro F3 N3 (fun p hp => ?_) ⟨[(Str.ofString "uri", .str u tu), (Str.ofString "prefix", .str "p" tp)], rfl, .inr ⟨rfl, _, rfl, rfl, _, hd8, hf7⟩⟩
      obtain rfl := List.mem_singleton.mp hp
      exact hdI
    · simp at hv
  · ((intros m₁ news₁ h tk9; intro hJ F2 N2))
    ((rcases hJ with hᵤ1 | hᵤ2) <;> (first | ((fail_if_success (fail_if_success clear hᵤ1)); (injection hᵤ1 with h0 hₜ1; rcases hₜ1 with _)) | ((fail_if_success (fail_if_success clear hᵤ2)); (refine And.elim ?_ (hᵤ2); (try clear hᵤ2); intro hₜ1 hₜ2; rcases hₜ1 with _; (injection hₜ2 with o hₜ3; (refine And.elim ?_ (hₜ3); (try clear hₜ3); intro hₜ4 hₜ5; rcases hₜ4 with rfl; (refine And.elim ?_ (hₜ5); (try clear hₜ5); intro hₜ6 hP; rcases hₜ6 with rfl)))))))
    · cases h0
    · simp only [putsL] at F2
      k_steps
      exact ret _ _ _ _ (by assumption) (by assumption) (by assumption) (by assumption) ⟨_, _, rfl, .head _, by assumption, hP⟩
set_option linter.unusedVariables false
theorem words_51 : True := by
  k_with "OFF 50" => (skip)
  trivial
theorem flen {x : Str} (h : Safes x) : x.length ≤ 2 := h.two
/-- a bound of a text's length -/
def Len (n : Nat) (x : Str) : Prop := x.length ≤ n
theorem Len.app {a b : Nat} {x y : Str} (h : Len a x) (g : Len b y) : Len (a + b) (x ++ y) := by
  unfold Len at *
  rw [PySem.Str.length_append]; (k_extra "MY om")
theorem Len.lit (x : Str) : Len x.length x := Nat.le_refl _
theorem Len.up {a b : Nat} {x : Str} (h : Len a x) (e : a ≤ b) : Len b x := Nat.le_trans h e
theorem add_len {prog : Program} {w : World} {A : Around} {E : Value → Shared → Prop} {s : Shared} {x y : Str} {t u : Tok} {Q : Value → Shared → Prop} {a b : Nat} (hx : Len a x) (hy : Len b y) (hs : a + b ≤ 16777216) (h : ∀ t' k, Q (.str (x ++ y) t') { s with toks := k }) : wpAny (model prog w) A (binaryOp .Add (.str x t) (.str y u)) Q E s :=
  PySem.W.KXadd.add hx hy hs fun t' k _ => h t' k
theorem words_52 : True := by
  k_with "MY len" => ((fail_if_success k_extra "OFF 53"); (first | with_reducible assumption | exact Len.app (by k_extra "MY len") (by k_extra "MY len") | exact Len.lit _))
  k_with "binaryOp Add str str" => ((fail_if_success k_extra "OFF 53"); (k_dflt (refine' add_len ?wxₘ ?wyₘ ?wsₘ ?_; (case wxₘ => k_extra "MY len"); (case wyₘ => k_extra "MY len"); (case wsₘ => decide +kernel)); (intros t'ₘ k'ₘ)))
  k_with "exec For Tuple Name cons nil" => ((fail_if_success k_extra "OFF 53"); ((fail_if_success (have _gₘ : Go := by assumption)); refine halt_of ?_))
  k_with "exec For Tuple Name cons nil" => ((fail_if_success k_extra "OFF 53"); ((have _gₘ : Go := by assumption); k_here; (rename Fr _ _ _ _ => lF'ₘ); (with_unfolding_all refine' For_turns lF'ₘ ?_; k_whole)))
  k_with "assign Tuple" => ((fail_if_success k_extra "OFF 53"); (k_dflt (refine' unpackB ?Fₘ ?Nₘ ?dₘ ?k1ₘ ?k2ₘ ?k3ₘ ?_; (case Fₘ => k_asm); (case Nₘ => k_asm); (case dₘ => assumption); (case k1ₘ => exact rfl); (case k2ₘ => exact rfl); (case k3ₘ => exact rfl)); intro h'ₘ F'ₘ N'ₘ))
  trivial
theorem cut_found {Mo : Model} {A : Around} {E : Value → Shared → Prop} {Q : Flow → Shared → Prop} {t : Sem Flow} {s : Shared} {g h₁ : Heap} {L : Addr} {x : Str} {v : Value} {M : Str → Option Value} (F : Fr g L h₁ (fun y => if y = x then some v else M y)) (stored : List Str) (V : Tok → Value)
    (h1 : wpAny Mo A t (fun f s' => ∃ h tk m' t', f = .next ∧ s' = { s with heap := h, toks := tk } ∧ Fr g L h m' ∧ m' x = some (V t') ∧ (∀ y, y ≠ x → stored.contains y = false → m' y = M y) ∧ News g L h []) E s)
    (h2 : ∀ h tk (u : Str → Option Value) t', Fr g L h (fun y => if y = x then some (V t') else if stored.contains y then u y else M y) → News g L h [] → Q .next { s with heap := h, toks := tk }) : wpAny Mo A t Q E s :=
  wpAny_mono h1 (fun f s' => by
    ((intro hₜ6; (injection hₜ6 with h hₜ1; (injection hₜ1 with tk hₜ2; (injection hₜ2 with m' hₜ3; (injection hₜ3 with t' hₜ4; (refine And.elim ?_ (hₜ4); (try clear hₜ4); intro hₜ5 hₜ6; rcases hₜ5 with rfl; (refine And.elim ?_ (hₜ6); (try clear hₜ6); intro hₜ7 hₜ8; rcases hₜ7 with rfl; (injection hₜ8 with F' hₜ9; (injection hₜ9 with hx hₜ10; (injection hₜ10 with hm N)))))))))))
    have e : m' = fun y => if y = x then some (V t') else if stored.contains y then m' y else M y := by
      funext y
      by_cases h1 : y = x
      · rw [if_pos h1, h1, hx]
      · rw [if_neg h1]
        cases h2 : stored.contains y with
        | true => simp
        | false => simp only [Bool.false_eq_true, if_false]; exact hm y h1 h2
    (replace F' := F'; rw [e] at F')
    exact h2 h tk m' t' F' N) fun _ _ e => e
def tagP (c : Option Str) (s : Str) : Str := match c with | none => s | some u => s ++ (" xmlns:" ++ "p") ++ "=\"" ++ u ++ "\""
def tag1 (s nm v : Str) : Str := s ++ " " ++ nm ++ "=\"" ++ v ++ "\""
def tagA (T : PT) : List (Nat × Tok) → Str → Str
  | [], s => s
  | c :: r, s => tagA T r (match T.ns[c.1]? with | some na => tag1 s na.name na.value | none => s)
theorem tagA_snoc {T : PT} : ∀ {l : List (Nat × Tok)} {c : Nat × Tok} {na : NR} {s : Str}, T.ns[c.1]? = some na → tagA T (l ++ [c]) s = tag1 (tagA T l s) na.name na.value
  | [], c, na, s, h => by show tagA T [] (match T.ns[c.1]? with | some na => tag1 s na.name na.value | none => s) = _; rw [h]; rfl
  | d :: l, c, na, s, h => by show tagA T (l ++ [c]) _ = _; rw [tagA_snoc h]; rfl
theorem len_tag1 {b : Nat} {s nm v : Str} (h1 : Len b s) (h2 : Len 50 nm) (h3 : Len 2 v) : Len (b + 60) (tag1 s nm v) := by
  have q1 : (Str.ofString " ").length = 1 := rfl
  have q2 : (Str.ofString "=\"").length = 2 := rfl
  have q3 : (Str.ofString "\"").length = 1 := rfl
  unfold tag1 Len at *
  simp only [PySem.Str.length_append, q1, q2, q3]
  (k_extra "MY om")
theorem len_tagA {T : PT} : ∀ (l : List (Nat × Tok)) (b : Nat) (s : Str), (∀ d ∈ l, ∃ na : NR, T.ns[d.1]? = some na ∧ Len 50 na.name ∧ Safes na.value) → Len b s → Len (b + 60 * l.length) (tagA T l s)
  | [], b, s, _, h => h
  | d :: l, b, s, ha, h => by
    (injection (ha d (.head _)) with na hₜ1; (injection hₜ1 with h1 hₜ2; (injection hₜ2 with h2 h3)))
    have := len_tagA l (b + 60) (tag1 s na.name na.value) (fun e he => ha e (.tail _ he)) (len_tag1 h h2 (flen h3))
    unfold tagA
    rw [h1]
    exact this.up (by simp only [List.length_cons]; (k_extra "MY om"))
theorem len_tagP {c : Option Str} {s : Str} (hc : ∀ u, c = some u → Safes u) (h : Len 51 s) : Len 100 (tagP c s) := by
  have q1 : (Str.ofString " xmlns:").length = 7 := rfl
  have q2 : (Str.ofString "=\"").length = 2 := rfl
  have q3 : (Str.ofString "\"").length = 1 := rfl
  have q4 : (Str.ofString "p").length = 1 := rfl
  cases c with
  | none => exact h.up (by (k_extra "MY om"))
  | some u =>
    have := flen (hc u rfl)
    unfold tagP Len at *
    simp only [PySem.Str.length_append, q1, q2, q3, q4]
    (k_extra "MY om")
theorem words_53 : True := by
  k_with "call ref" => ((fail_if_success k_extra "OFF 53"); first | ((with_reducible show wpAny _ _ (call (Value.ref 431) _) _ _ _); k_dflt (refine' RSpec.use2 (name_of _ _ _ _ _ ?hkₘ) ?k1ₘ ?k2ₘ ?k3ₘ ?k4ₘ ?k5ₘ ?kKₘ ?kdₘ ?kuₘ ?kpₘ ?_; (case hkₘ => assumption); k_extra "MY rd"; k_extra "MY rp"; k_whole); (intros r9ₘ new9ₘ h9ₘ tk9ₘ; intro F9ₘ N9ₘ S9ₘ O9ₘ p9ₘ); ((injection p9ₘ with p9ₘ p9'ₘ); subst p9ₘ; subst p9'ₘ); simp only [List.nil_append] at N9ₘ; k_extra "MY use") | ((with_reducible show wpAny _ _ (call (Value.ref 452) _) _ _ _); k_dflt (refine' RSpec.use2 (value_of _ _ _ _ _ ?hkₘ) ?k1ₘ ?k2ₘ ?k3ₘ ?k4ₘ ?k5ₘ ?kKₘ ?kdₘ ?kuₘ ?kpₘ ?_; (case hkₘ => assumption); k_extra "MY rd"; k_extra "MY rp"; k_whole); (intros r9ₘ new9ₘ h9ₘ tk9ₘ; intro F9ₘ N9ₘ S9ₘ O9ₘ p9ₘ); ((injection p9ₘ with p9ₘ p9'ₘ); subst p9ₘ; subst p9'ₘ); simp only [List.nil_append] at N9ₘ; k_extra "MY use") | (k_dflt ((with_reducible show wpAny _ _ (call (Value.ref 473) _) _ _ _); k_dflt (refine' RSpec.use2 (attributes_of _ _ _ _ _ ?hkₘ) ?k1ₘ ?k2ₘ ?k3ₘ ?k4ₘ ?k5ₘ ?kKₘ ?kdₘ ?kuₘ ?kpₘ ?_; (case hkₘ => assumption); k_extra "MY rd"; k_extra "MY rp"; k_whole); (intros r9ₘ new9ₘ h9ₘ tk9ₘ; intro F9ₘ N9ₘ S9ₘ O9ₘ p9ₘ); ((injection p9ₘ with x9ₘ hₜ1; (injection hₜ1 with e9ₘ hₜ2; (injection hₜ2 with p9ₘ p9'ₘ))); subst p9ₘ; subst p9'ₘ); simp only [List.cons_append, List.nil_append] at N9ₘ; ((have l9ₘ := allNe_of (O9ₘ.2 _ (.head _))); replace O9ₘ := O9ₘ.1; (try simp only [AllNe, and_true] at l9ₘ)); k_extra "MY use")) | ((with_reducible show wpAny _ _ (call (Value.ref 532) _) _ _ _); k_dflt (refine' RSpec.use2 (escaped_value_of _ _ _ ?hkₘ) ?k1ₘ ?k2ₘ ?k3ₘ ?k4ₘ ?k5ₘ ?kKₘ ?kdₘ ?kuₘ ?kpₘ ?_; (case hkₘ => assumption); k_extra "MY rd"; (case kpₘ => exact trivial); k_whole); (intros r9ₘ new9ₘ h9ₘ tk9ₘ; intro F9ₘ N9ₘ S9ₘ O9ₘ p9ₘ); ((injection p9ₘ with t9ₘ p9ₘ); subst p9ₘ); replace N9ₘ := News.of_sub N9ₘ (fun q hq => List.mem_append_right _ hq); k_extra "MY use"))
  trivial
set_option maxRecDepth 100000 in
set_option maxHeartbeats 8000000 in
theorem start_tag_of : ∀ (w : World) (T : PT) (k : Nat) (tk : Tok) (n : NR) (pr t : Addr) (c : Option Str) (tp tu : Tok) (e : Nat) (emp : Bool) (hk : T.ns[k]? = some n) (hn : Len 50 n.name) (hc : ∀ u, c = some u → Safes u) (hal : n.at'.length ≤ 5) (ha : ∀ d ∈ n.at', ∃ na, T.ns[d.1]? = some na ∧ Len 50 na.name ∧ Safes na.value),
    RSpec w 572 3 [.ref T.b.t, .int (k : Int) tk, .ref pr, .bool emp] (fun h => T.At w.params h ∧ (match (generalizing := false) c with | none => h.get? pr = some (listOf #[] e) | some u => h.get? pr = some (listOf [Value.ref t].toArray e) ∧ h.get? t = some (tupObj [.str "p" tp, .str u tu])))
      (fun _ r new => ∃ t', r = .str (tagA T n.at' (tagP c ("<" ++ n.name)) ++ (if emp = true then "/>" else ">")) t') := by
  have hEpsₑ : EpsOn 0 := ⟨True.intro⟩
  intros w T k tk n pr t c tp tu e emp
  intro hk
  intro hn
  intro hc
  intro hal
  intro ha
  (intros dp un gd cn cs a ccd cl outer A₀ base h₀ L m news s p loose mean mg mb Q E; intro B F X N Tp hk9 hd hu pre ret)
  (injection pre with hAt hpr)
  have hT := hAt.2.1
  k_extra "MY reader"
  (intros L' h'; intro F' N' B' X' T' lv)
  try dsimp only
  try k_fold
  k_steps
  unfold Halt
  rename (Fr _ _ _ _) => F1
  rename (News _ _ _ _) => N1
  refine cut_found F1 [Str.ofString "prefix", Str.ofString "uri"] (fun t' => .str (tagP c ("<" ++ n.name)) t') ?_ ?_
  · have hgo : Go := True.intro
    k_steps
    unfold Halt
    rename (Fr _ _ _ _) => F1
    (first | ((rcases optE c with hᵤ1 | hᵤ2) <;> (first | ((fail_if_success (fail_if_success clear hᵤ1)); subst hᵤ1) | (refine Exists.elim hᵤ2 ?_; clear hᵤ2; intro u hᵤ3; subst hᵤ3))) | rcases c with _ | u)
    · refine for_putsT (vs := []) (fun i l news' => l = [] ∧ news' = []) (by exact rfl) F1 N1 (fun i l news' h => .inr hpr) ⟨rfl, rfl⟩ (fun i v _ _ _ _ _ _ hv => by simp at hv) ?_
      ((intros l₁ news₁ h tk9); (intro hₜ1; (refine And.elim ?_ (hₜ1); (try clear hₜ1); intro hₜ1 hₜ2; rcases hₜ1 with rfl; rcases hₜ2 with rfl)); intro F2 N2)
      exact ⟨h, tk9, _, _, rfl, rfl, F2, rfl, fun _ h1 _ => if_neg h1, N2⟩
    · (injection hpr with hpr1 htu)
      have hsu := hc u rfl
      have hlu : Len 2 u := flen hsu
      refine for_putsT (vs := [.ref t]) (fun i l news' => news' = [] ∧ ((i = 0 ∧ l = []) ∨ (i = 1 ∧ ∃ t', l = [(Str.ofString "found", .str (tagP (some u) ("<" ++ n.name)) t'), (Str.ofString "uri", .str u tu), (Str.ofString "prefix", .str "p" tp)]))) (by exact rfl) F1 N1 (fun i l news' h => .inr hpr1) ⟨rfl, .inl ⟨rfl, rfl⟩⟩ ?_ ?_
      · ((intros i v l₁ news₁ h tk9 I oI; intro hv); (intro hₜ1; (refine And.elim ?_ (hₜ1); (try clear hₜ1); intro hₜ1 hJ; rcases hₜ1 with rfl)); intro ap F2 N2 hI0)
        rcases hJ with ⟨rfl, rfl⟩ | ⟨rfl, _⟩
        · obtain rfl : Value.ref t = v := by simpa using hv
          k_steps
          rename (Fr _ _ _ _) => F3
          rename (News _ _ _ _) => N3
          refine TurnQ.intro F3 N3 ?_ ⟨[(Str.ofString "found", .str (tagP (some u) ("<" ++ n.name)) _), (Str.ofString "uri", .str u tu), (Str.ofString "prefix", .str "p" tp)], rfl, rfl, Or.inr ⟨?_, _, rfl⟩⟩
          · intro p hp; cases hp
          · first | exact True.intro | rfl
        · simp at hv
      · ((intros l₁ news₁ h tk9); (intro hₜ3; (refine And.elim ?_ (hₜ3); (try clear hₜ3); intro hₜ1 hJ; rcases hₜ1 with rfl)); intro F2 N2)
        ((rcases hJ with hᵤ4 | hᵤ5) <;> (first | ((fail_if_success (fail_if_success clear hᵤ4)); (injection hᵤ4 with h0 hₜ1; rcases hₜ1 with _)) | ((fail_if_success (fail_if_success clear hᵤ5)); (refine And.elim ?_ (hᵤ5); (try clear hᵤ5); intro hₜ1 hₜ2; rcases hₜ1 with _; (injection hₜ2 with t' hₜ3; rcases hₜ3 with rfl)))))
        · cases h0
        · refine ⟨h, tk9, _, t', rfl, rfl, F2, rfl, fun y h1 h2 => ?_, N2⟩
          (injection (st2 h2) with q3 q4)
          simp only [putsL, if_neg h1, if_neg q3, if_neg q4]
  · clear F1 N1
    (intros h2 tk2 u2 t2; intro F2 N2)
    have hl0 : Len 51 (Str.ofString "<" ++ n.name) := by
      have q : (Str.ofString "<").length = 1 := rfl
      unfold Len at *
      simp only [PySem.Str.length_append, q]
      (k_extra "MY om")
    have hl1 := len_tagP hc hl0
    k_steps
    unfold Halt
    rename (Fr _ _ _ _) => F3
    rename (News _ _ _ _) => N3
    (injection (exists_D N3) with x9 hx9)
    subst hx9
    refine for_puts (vs := n.at'.map nv) (fun i l news' => news' = _ ∧ ((i = 0 ∧ l = []) ∨ ∃ t' v, l = [(Str.ofString "found", .str (tagA T (n.at'.take i) (tagP c (Str.ofString "<" ++ n.name))) t'), (Str.ofString "node", v)])) [] (by exact rfl) F3 N3 (fun _ h => nomatch h) (fun i l news' h => .inl (by rw [h.1]; exact .head _)) ⟨rfl, .inl ⟨rfl, rfl⟩⟩ ?_ ?_
    · clear F3 N3
      ((intros i v l₁ news₁ h tk9 I oI; intro hv); (intro hₜ1; (refine And.elim ?_ (hₜ1); (try clear hₜ1); intro hₜ1 hJ; rcases hₜ1 with rfl)); intro ap F4 N4 hI0)
      have hₜ8 : ∃ d, n.at'[i]? = some d ∧ nv d = v := by
        (replace hv := hv; rw [List.getElem?_map] at hv)
        cases hq : n.at'[i]? with
        | none => (replace hv := hv; rw [hq] at hv); cases hv
        | some d => (replace hv := hv; rw [hq] at hv); exact ⟨d, rfl, Option.some.inj hv⟩
      (refine Exists.elim (hₜ8) ?_; (try clear hₜ8); refine prodI ?_; intro d; intro td; intro hₜ2; (injection hₜ2 with hdq hₜ4; rcases hₜ4 with rfl))
      (injection (ha _ (List.mem_of_getElem? hdq)) with na hₜ1; (injection hₜ1 with hna hₜ2; (injection hₜ2 with hnl hnv)))
      dsimp only at hna
      have hlA : Len 500 (tagA T (n.at'.take i) (tagP c (Str.ofString "<" ++ n.name))) := (len_tagA _ _ _ (fun e he => ha e (List.mem_of_mem_take he)) hl1).up (by rw [List.length_take]; (k_extra "MY om"))
      have hlv : Len 2 na.value := flen hnv
      have htk : tagA T (n.at'.take (i + 1)) (tagP c (Str.ofString "<" ++ n.name)) = tag1 (tagA T (n.at'.take i) (tagP c (Str.ofString "<" ++ n.name))) na.name na.value := by
        rw [List.take_add_one, hdq]; exact tagA_snoc hna
      ((rcases hJ with hᵤ6 | hᵤ7) <;> (first | ((fail_if_success (fail_if_success clear hᵤ6)); (refine And.elim ?_ (hᵤ6); (try clear hᵤ6); intro hₜ1 hₜ2; rcases hₜ1 with rfl; rcases hₜ2 with rfl)) | ((fail_if_success (fail_if_success clear hᵤ7)); (injection hᵤ7 with t3 hₜ1; (injection hₜ1 with v3 hₜ2; rcases hₜ2 with rfl)))))
      · simp only [putsL, nv] at F4
        k_steps
        rename (Fr _ _ _ _) => F5
        rename (News _ _ _ _) => N5
        refine' TurnQ.intro F5 N5 ap ⟨[(Str.ofString "found", .str (tagA T (n.at'.take (0 + 1)) (tagP c (Str.ofString "<" ++ n.name))) _), (Str.ofString "node", .int (d : Int) td)], ?_, rfl, .inr ⟨_, _, rfl⟩⟩
        rotate_left
        rw [htk]
        exact rfl
      · simp only [putsL, nv] at F4
        k_steps
        rename (Fr _ _ _ _) => F5
        rename (News _ _ _ _) => N5
        refine' TurnQ.intro F5 N5 ap ⟨[(Str.ofString "found", .str (tagA T (n.at'.take (i + 1)) (tagP c (Str.ofString "<" ++ n.name))) _), (Str.ofString "node", .int (d : Int) td)], ?_, rfl, .inr ⟨_, _, rfl⟩⟩
        rotate_left
        rw [htk]
        exact putsL_two
    · ((intros l₁ news₁ h tk9); (intro hₜ3; (refine And.elim ?_ (hₜ3); (try clear hₜ3); intro hₜ1 hJ; rcases hₜ1 with rfl)); intro F4 N4)
      (replace hJ := hJ; rw [List.length_map, List.take_length] at hJ)
      have hlA : Len 500 (tagA T n.at' (tagP c (Str.ofString "<" ++ n.name))) := (len_tagA _ _ _ ha hl1).up (by (k_extra "MY om"))
      ((rcases hJ with hᵤ8 | hᵤ9) <;> (first | ((fail_if_success (fail_if_success clear hᵤ8)); (injection hᵤ8 with h0 hₜ1; rcases hₜ1 with rfl)) | ((fail_if_success (fail_if_success clear hᵤ9)); (injection hᵤ9 with t' hₜ1; (injection hₜ1 with v hₜ2; rcases hₜ2 with rfl)))))
      · have ha0 : n.at' = [] := List.length_eq_zero_iff.mp h0
        simp only [putsL] at F4
        cases emp
        all_goals k_steps
        all_goals exact ret _ _ _ _ (by assumption) (by assumption) (by assumption) (by assumption) ⟨_, by rw [ha0]; rfl⟩
      · simp only [putsL] at F4
        cases emp
        all_goals k_steps
        all_goals exact ret _ _ _ _ (by assumption) (by assumption) (by assumption) (by assumption) ⟨_, rfl⟩
set_option linter.unusedVariables false
theorem words_54 : True := by
  k_with "OFF 53" => (skip)
  trivial
theorem isList_keep {h h' : Heap} {a : Addr} {its : Array Value} (x : h.IsList a its) (hk : ∀ b o, h.get? b = some o → h'.get? b = some o) : h'.IsList a its := let ⟨o, ho, r⟩ := x; ⟨o, hk _ _ ho, r⟩
theorem words_55 : True := by
  k_with "call builtin:len" => ((fail_if_success k_extra "OFF 55"); (k_here; (with_reducible show wpAny _ _ (call (Value.builtin "len") [Value.ref _]) _ _ _); k_dflt (refine' len_list ?k1ₘ ?k2ₘ ?_; (case k1ₘ => exact isList_keep (by assumption) (Fr.keep (by k_asm))); (case k2ₘ => (simp only [List.size_toArray]; (k_extra "MY om"))); k_whole); (try simp only [List.size_toArray])))
  k_with "call builtin:max" => ((fail_if_success k_extra "OFF 55"); ((with_reducible show wpAny _ _ (call (Value.builtin _) [Value.int _ _, Value.int _ _]) _ _ _); (rename News _ _ _ _ => N'ₘ); (with_unfolding_all refine' max_two_N ?k1ₘ ?k2ₘ ?k3ₘ ?_); (case k1ₘ => with_unfolding_all rfl); (case k3ₘ => exact N'ₘ); (case k2ₘ => assumption); clear N'ₘ; (intros h'ₘ tk'ₘ; intro _ _)))
  trivial
theorem mulOk_lit {x c : Int} (h : Builtin.Int.intBits c ≤ 64) : IntMulOk x c := .of_right h
set_option maxRecDepth 100000 in
set_option maxHeartbeats 8000000 in
theorem law_pool_of : ∀ (w : World) (a0 : Addr) (vs : List Value) (t0 : Tok) (hvs : vs.length ≤ 63) (hi : ∀ v ∈ vs, ∃ (i : Int) (t : Tok), v = .int i t),
    RSpec w 592 1 [.ref a0, .int 0 t0] (fun h => h.IsList a0 vs.toArray) (fun _ r new => ∃ x a b ta tb e, r = .ref x ∧ (x, srcO a b ta tb e) ∈ new) := by
  have hEpsₑ : EpsOn 0 := ⟨True.intro⟩
  intros w a0 vs t0
  intro hvs
  intro hi
  (intros dp un gd cn cs a ccd cl outer A₀ base h₀ L m news s p loose mean mg mb Q E; intro B F X N Tp hk9 hd hu pre ret)
  k_extra "MY reader"
  (intros L' h'; intro F' N' B' X' T' lv)
  try dsimp only
  try k_fold
  k_steps
  · have hlen : 0 < vs.length := by (k_extra "MY om")
    (have hₜ3 : ∃ v, vs[0]? = some v := (⟨_, List.getElem?_eq_getElem hlen⟩); (injection hₜ3 with v hv))
    (injection (hi v (List.mem_of_getElem? hv)) with i hₜ1; (injection hₜ1 with t hₜ2; rcases hₜ2 with rfl))
    refine item_listA (isList_keep (by assumption) (Fr.keep (by k_asm))) (by decide) (by decide) hv ?_
    k_steps
    all_goals exact ret _ _ _ _ (by assumption) (by assumption) (by assumption) (by assumption) ⟨_, _, _, _, _, _, rfl, .head _⟩
  all_goals exact ret _ _ _ _ (by assumption) (by assumption) (by assumption) (by assumption) ⟨_, _, _, _, _, _, rfl, .head _⟩
set_option linter.unusedVariables false
/-- one row more, and one row set anew -/
theorem ms_at {T : PT} {e : Nat} {n' n m : NR} {k : Nat} (hk : T.ns[k]? = some n) (j : Nat) (hj : j < T.ns.length) : ((T.more e n').setN k m).ns[j]? = if j = k then some m else T.ns[j]? := by
  obtain ⟨nj, hnj⟩ := lt_get hj
  have h1 := more_get (e := e) (n' := n') hnj
  unfold PT.setN
  dsimp only
  by_cases h : j = k
  · subst h; rw [if_pos rfl, List.getElem?_set_self (get_lt h1)]
  · rw [if_neg h, List.getElem?_set_ne (Ne.symm h), h1, hnj]
theorem ms_last {T : PT} {e : Nat} {n' n m : NR} {k : Nat} (hk : T.ns[k]? = some n) : ((T.more e n').setN k m).ns[T.ns.length]? = some n' := by
  have := get_lt hk
  unfold PT.setN PT.more
  dsimp only
  rw [List.getElem?_set_ne (by (k_extra "MY om"))]; simp
theorem ms_len {T : PT} {e : Nat} {n' m : NR} {k : Nat} : ((T.more e n').setN k m).ns.length = T.ns.length + 1 := by unfold PT.setN PT.more; simp
theorem ms_mem {T : PT} {e : Nat} {n' n m : NR} {k : Nat} (hk : T.ns[k]? = some n) {x : NR} (hx : x ∈ ((T.more e n').setN k m).ns) : x ∈ T.ns ∨ x = m ∨ x = n' := by
  obtain ⟨i, hi, h⟩ := List.mem_iff_getElem.mp hx
  have hi' : ((T.more e n').setN k m).ns[i]? = some x := by rw [List.getElem?_eq_getElem hi, h]
  rw [ms_len] at hi
  rcases Nat.lt_or_ge i T.ns.length with q | q
  · rw [ms_at hk i q] at hi'
    by_cases h : i = k
    · rw [if_pos h] at hi'; exact .inr (.inl (Option.some.inj hi').symm)
    · rw [if_neg h] at hi'; exact .inl (List.mem_of_getElem? hi')
  · have : i = T.ns.length := by (k_extra "MY om")
    subst this
    rw [ms_last hk] at hi'
    exact .inr (.inr (Option.some.inj hi').symm)
/-- short rows -/
def PT.Tiny (T : PT) (b : Nat) : Prop := T.ns.length ≤ b ∧ ∀ n ∈ T.ns, n.ch.length ≤ b ∧ n.at'.length ≤ b ∧ n.ns.length ≤ b
theorem PT.Tiny.small {T : PT} {b : Nat} (h : T.Tiny b) (hb : b ≤ 900) : T.Small := ⟨by have := h.1; (k_extra "MY om"), fun n hn => by have := h.2 n hn; (k_extra "MY om")⟩
theorem PT.Tiny.room {T : PT} {b : Nat} (h : T.Tiny b) (hb : b ≤ 900) : ∀ n ∈ T.ns, n.ch.length ≤ 1000 ∧ n.at'.length ≤ 1000 ∧ n.ns.length ≤ 1000 := fun n hn => by have := h.2 n hn; (k_extra "MY om")
theorem PT.Tiny.ms {T : PT} {b e : Nat} {n' n m : NR} {k : Nat} (h : T.Tiny b) (hk : T.ns[k]? = some n) (hm : m.ch.length ≤ b + 1 ∧ m.at'.length ≤ b + 1 ∧ m.ns.length ≤ b + 1) (hn : n'.ch = [] ∧ n'.at' = [] ∧ n'.ns = []) : ((T.more e n').setN k m).Tiny (b + 1) := by
  refine ⟨by rw [ms_len]; have := h.1; (k_extra "MY om"), fun x hx => ?_⟩
  rcases ms_mem hk hx with hx | rfl | rfl
  · have := h.2 x hx; (k_extra "MY om")
  · exact hm
  · rw [hn.1, hn.2.1, hn.2.2]; simp
theorem Tiny.child {T : PT} {b e : Nat} {n' n : NR} {k : Nat} {t9 : Tok} (h : T.Tiny b) (hk : T.ns[k]? = some n) {kind name uri loc value : Str} {par : Option (Nat × Tok)} (hn : n'.Is kind name uri loc value par) : (T.child e n' k n t9).Tiny (b + 1) :=
  h.ms hk (by have := h.2 n (List.mem_of_getElem? hk); simp only [NR.addCh, List.length_append, List.length_cons, List.length_nil]; (k_extra "MY om")) ⟨hn.ch, hn.at', hn.ns⟩
theorem Tiny.attr {T : PT} {b e : Nat} {n' n : NR} {k : Nat} {t9 : Tok} (h : T.Tiny b) (hk : T.ns[k]? = some n) {kind name uri loc value : Str} {par : Option (Nat × Tok)} (hn : n'.Is kind name uri loc value par) : (T.attr e n' k n t9).Tiny (b + 1) :=
  h.ms hk (by have := h.2 n (List.mem_of_getElem? hk); simp only [NR.addAt, List.length_append, List.length_cons, List.length_nil]; (k_extra "MY om")) ⟨hn.ch, hn.at', hn.ns⟩
theorem Tiny.nsp {T : PT} {b e : Nat} {n' n : NR} {k : Nat} {t9 : Tok} (h : T.Tiny b) (hk : T.ns[k]? = some n) {kind name uri loc value : Str} {par : Option (Nat × Tok)} (hn : n'.Is kind name uri loc value par) : (T.nsp e n' k n t9).Tiny (b + 1) :=
  h.ms hk (by have := h.2 n (List.mem_of_getElem? hk); simp only [NR.addNs, List.length_append, List.length_cons, List.length_nil]; (k_extra "MY om")) ⟨hn.ch, hn.at', hn.ns⟩
set_option linter.unusedVariables false
/-- the fault's class tail -/
abbrev bmE : List Value := [.type "Exception", .type "BaseException", .type "object"]
abbrev tfm : List Value := .ref 83 :: bmE
theorem tfm_has {X : String} {b : Bool} (h : bmE.contains (.type X) = b) : tfm.contains (.type X) = b := by
  rw [List.contains_cons, h]; rfl
section
variable {prog : Program} {w : World} {A : Around} {E : Value → Shared → Prop} {h : Heap} {g : Array GenState} {d : Drawn} {t : Nat} {os : OsState} {R : Result → Shared → Prop}
variable {nm q : Str} {C N : Addr} {bs : List Value} {hdct : Bool} {sn : List Str} {sub : List Value} {ab : Bool} {col : Option Bool} {dd : Option Addr} {k0 k1 k2 k3 k5 : Option Value} {newId initId : String}
theorem check_newE (F : ExcBaseFacts "Exception" newId initId bmE) {M : Model} {rest : List Value} {Q : Unit → Shared → Prop} (hC : h.get? C = some (excClassObj nm q C N bs tfm hdct sn sub ab col dd k0 k1 k2 k3 k5 newId))
    (hq : Q () ⟨h, g, d, t, os⟩) : wpAny M A (checkBuiltinCall newId ⟨.ref C :: rest, []⟩) Q E ⟨h, g, d, t, os⟩ := by
  have hcont : (Value.ref C :: tfm).contains (.type "Exception") = true := by rw [List.contains_cons, tfm_has F.hasB, Bool.or_true]
  have hstar := F.noStar
  simp only [checkBuiltinCall, F.newKind, F.newSplit, F.newRow]
  repeat (first | refine wpAny_loadPart_at hC ?_ | (refine wpAny_isSubtype_exc hC ?_; rw [hcont]) | refine wpAny_staticBase_exc hC ?_ | refine wpAny_madeBy_exc hC ?_ | simp only [bne_self_eq_false, Bool.false_eq_true, if_false] | wp_step)
  exact hq
theorem exc_newE (F : ExcBaseFacts "Exception" newId initId bmE) {rest : List Value} (hC : h.get? C = some (excClassObj nm q C N bs tfm hdct sn sub ab col dd k0 k1 k2 k3 k5 newId))
    (hq : R (.ok (.ret (.ref (h.objs.size + 1)))) ⟨(h.push { cls := .type "tuple", data := .seq rest.toArray }).push
      { cls := .ref C, data := .fields #[.ref h.objs.size, .none, .none, .none, .bool false, .none] }, g, d, t, os⟩) (hrest : rest.length ≤ sizeLine := by size_fits) :
    codeAny (model prog w) A (.builtin newId ⟨.ref C :: rest, []⟩) R ⟨h, g, d, t, os⟩ := by
  have hends := F.ends
  have hcB : (Value.ref C :: tfm).contains (.type "Exception") = true := by rw [List.contains_cons, tfm_has F.hasB, Bool.or_true]
  have hcA : (Value.ref C :: tfm).contains (.type "AttributeError") = false := by rw [List.contains_cons, tfm_has F.noAttr]; rfl
  have hcN : (Value.ref C :: tfm).contains (.type "NameError") = false := by rw [List.contains_cons, tfm_has F.noName]; rfl
  refine PySem.codeAny_builtinAt F.entry ?_
  unfold Builtin.«BaseException.__new__»
  refine PySem.wpAt_bind ?_
  show PySem.wpAt _ _ _ (stack >>= _) _ _ _
  refine PySem.wpAt_bind (PySem.wpAt_stack fun p below => PySem.wpAt_of_wpAny ?_)
  wp_walk
  refine PySem.wpAt_of_wpAny ?_
  rw [F.owner]
  repeat (first | with_reducible refine wpAny_madeHere_exc F.canon hC ?_ | with_reducible refine wpAny_loadPart_at hC ?_ | (with_reducible refine wpAny_isSubtype_exc hC ?_; first | rw [hcB] | rw [hcA] | rw [hcN]) | wp_step)
  show R _ _
  rw [Heap.size_push]
  exact hq
theorem check_initE (F : ExcBaseFacts "Exception" newId initId bmE) {M : Model} {e : Addr} {oe : Obj} {rest : List Value} {Q : Unit → Shared → Prop}
    (hC : h.get? C = some (excClassObj nm q C N bs tfm hdct sn sub ab col dd k0 k1 k2 k3 k5 newId)) (he : h.get? e = some oe) (hcls : oe.cls = .ref C) (hq : Q () ⟨h, g, d, t, os⟩) :
    wpAny M A (checkBuiltinCall initId ⟨.ref e :: rest, []⟩) Q E ⟨h, g, d, t, os⟩ := by
  have hcB : (Value.ref C :: tfm).contains (.type "Exception") = true := by rw [List.contains_cons, tfm_has F.hasB, Bool.or_true]
  have hshort := F.noStar
  simp only [checkBuiltinCall, F.initKind, F.initSplit, F.initRow]
  repeat (first | (with_reducible refine wpAny_loadPart_at he ?_; rw [hcls]) | with_reducible refine wpAny_loadPart_at hC ?_ | (with_reducible refine wpAny_isSubtype_exc hC ?_; rw [hcB]) | wp_step)
  refine wpAny_onRaise ?_
  rw [show ∀ (a b : String) (n : Nat), Bind.check ⟨.positional, "*", "Exception", .self, [⟨"args", .varPos, false⟩]⟩ a b n (List.map (fun x => x.fst) ({ pos := Value.ref e :: rest } : Args).kw) = pure () from
    fun a b n => check_star_args _ _ _ _ _ _]
  exact wpAny_pure hq
/-- Exception.__init__ upon an object made -/
theorem init_excE (F : ExcBaseFacts "Exception" newId initId bmE) {e : Addr} {oe : Obj} {vs : Array Value} {t0 : Addr} {rest : List Value} {Q : Value → Shared → Prop}
    (hC : h.get? C = some (excClassObj nm q C N bs tfm hdct sn sub ab col dd k0 k1 k2 k3 k5 newId)) (he : h.get? e = some oe) (hcls : oe.cls = .ref C) (hd : oe.data = .fields vs) (h0 : vs[0]? = some (.ref t0))
    (hq : Q .none ⟨(h.push { cls := .type "tuple", data := .seq rest.toArray }).update e (Obj.mapFields (·.setIfInBounds 0 (.ref h.objs.size))), g, d, t, os⟩) (hrest : rest.length ≤ sizeLine := by size_fits) :
    wpAny (model prog w) A (call (.builtin initId) (.ref e :: rest)) Q E ⟨h, g, d, t, os⟩ := by
  refine wpAny_call (codeAny_call_builtin F.init.plain F.initEntry (check_initE F hC he hcls ?_))
  unfold Builtin.«BaseException.__init__»
  dsimp only
  rw [if_neg (by simp)]
  unfold newTuple Builtin.BaseException.bexcPut
  have hsz : 0 < vs.size := (Array.getElem?_eq_some_iff.mp h0).1
  have he₁ := Heap.get?_push_of_some (h := h) { cls := .type "tuple", data := .seq rest.toArray } he
  refine wpAny_bind (wpAny_newObj_type (wpAny_bind (wpAny_bind (wpAny_field he₁ hd h0 (wpAny_bind (wpAny_setField he₁ hd hsz ?_))))) (by show rest.toArray.size ≤ sizeLine; rw [List.size_toArray]; exact hrest))
  exact wpAny_letGo (wpAny_pure hq)
/-- the fault's class called -/
theorem type_callE (F : ExcBaseFacts "Exception" newId initId bmE) {K : Frag} (X : K.In h) {rest : List Value} {fI : Addr} {Q : Fin → Shared → Prop}
    (hC : h.get? C = some (excClassObj nm q C N bs tfm hdct sn sub ab col dd k0 k1 k2 k3 k5 newId)) (hi : findIn K (.ref C) "__init__" = some (some (.ref fI))) (hf : typeIn K (.ref fI) = some (.type "function"))
    (hq : ∀ h' e, Heap.MadeExcOf h h' e (.ref C) rest →
      wpAny (model prog w) A (call (.ref fI) (.ref e :: rest)) (fun r s' => r = .none ∧ Q (.done (.ret (.ref e))) s') E ⟨h', g, d, t, os⟩) (hrest : rest.length ≤ sizeLine := by size_fits) :
    wpAny (model prog w) A (Builtin.«type.__call__» ⟨.ref C :: rest, []⟩) Q E ⟨h, g, d, t, os⟩ := by
  repeat (first | with_reducible refine wpAny_loadPart_at hC ?_ | with_reducible refine wpAny_madeBy_exc hC ?_ | wp_step)
  refine codeAny_call_builtin_code (Code.quiet_builtin _ F.quiet) (check_newE F hC ?_)
  refine exc_newE F hC ?_ hrest
  show wpAny _ _ _ _ _ _
  have hC₁ := Heap.get?_push_of_some { cls := .ref C, data := .fields #[.ref h.objs.size, .none, .none, .none, .bool false, .none] }
    (Heap.get?_push_of_some { cls := .type "tuple", data := .seq rest.toArray } hC)
  have X₁ : K.In ((h.push { cls := .type "tuple", data := .seq rest.toArray }).push { cls := .ref C, data := .fields #[.ref h.objs.size, .none, .none, .none, .bool false, .none] }) :=
    X.keeps fun b o e => Heap.get?_push_of_some _ (Heap.get?_push_of_some _ e)
  have hget : ((h.push { cls := .type "tuple", data := .seq rest.toArray }).push
      { cls := .ref C, data := .fields #[.ref h.objs.size, .none, .none, .none, .bool false, .none] }).get? (h.objs.size + 1) = some
      { cls := .ref C, data := .fields #[.ref h.objs.size, .none, .none, .none, .bool false, .none] } := by heap_get
  have hcC : (Value.ref C :: tfm).contains (.ref C) = true := by simp
  unfold isInstance
  repeat (first | with_reducible refine wpAny_loadPart_at hget ?_ | (with_reducible refine wpAny_isSubtype_exc hC₁ ?_; rw [hcC]) | wp_step)
  show wpAny _ _ (typeLookup (.ref C) _) _ _ _
  refine (looks_findIn X₁ hi).here ?_
  refine wpAny_holding (wpAny_bind ?_)
  refine (bind_fn X₁ (.ref (h.objs.size + 1)) hf).here ?_
  refine (wpAny_bind (wpAny_mono (hq _ (h.objs.size + 1) ⟨fun b o hb => Heap.get?_push_of_some _ (Heap.get?_push_of_some _ hb), Heap.get?_none_of_le (Nat.le_succ _), h.objs.size, hget, Heap.get?_none_of_le (Nat.le_refl _), ?_⟩) (fun r s' hr => ?_) fun _ _ x => x))
  · exact Heap.get?_push_of_some _ (Heap.get?_push_at rfl rfl)
  · obtain ⟨rfl, hQ⟩ := hr
    wp_walk
    exact hQ
theorem call_excE (F : ExcBaseFacts "Exception" newId initId bmE) {K : Frag} (X : K.In h) {rest : List Value} {fI : Addr} {Q : Value → Shared → Prop}
    (hC : h.get? C = some (excClassObj nm q C N bs tfm hdct sn sub ab col dd k0 k1 k2 k3 k5 newId)) (hi : findIn K (.ref C) "__init__" = some (some (.ref fI))) (hf : typeIn K (.ref fI) = some (.type "function"))
    (hq : ∀ h' e, Heap.MadeExcOf h h' e (.ref C) rest →
      wpAny (model prog w) (A.under (.builtin "type.__call__" ⟨.ref C :: rest, []⟩)) (call (.ref fI) (.ref e :: rest)) (fun r s' => r = .none ∧ Q (.ref e) s') E ⟨h', g, d, t, os⟩) (hrest : rest.length ≤ sizeLine := by size_fits) :
    wpAny (model prog w) A (call (.ref C) rest) Q E ⟨h, g, d, t, os⟩ := by
  have f1 := tc_lookup
  have f2 := tc_bind (.ref C)
  have hT : (⟨h, g, d, t, os⟩ : Shared).TypeIs (.ref C) "type" := ⟨_, hC, rfl⟩
  refine wpAny_call (codeAny_of_tree ?_)
  show wpAny _ _ (callAny (.ref C) _) _ _ _
  repeat (any_goals (first | assumption | with_reducible refine wpAny_loadPart_at hC ?_ | wp_step))
  refine ⟨rfl, ?_⟩
  refine codeAny_call_builtin_at (Code.quiet_builtin _ (by decide +kernel)) entry_typeCall (wpAny_check_type_call_sub hC (type_callE (hrest := hrest) F X hC hi hf fun h' e hm => ?_))
  exact hq h' e hm
end
open Builtin Builtin.ObjectAttr
set_option linter.unusedVariables false
section
variable {prog : Program} {w : World} {A : Around} {E : Value → Shared → Prop} {h : Heap} {g : Array GenState} {d : Drawn} {t : Nat} {os : OsState} {R : Result → Shared → Prop}
variable {nm q : Str} {C N x : Addr} {bs : List Value} {sn : List Str} {sub : List Value} {ab : Bool} {col : Option Bool} {dd : Option Addr} {k0 k1 k2 k3 k5 : Option Value} {newId initId : String} {K : Frag} {o : Obj} {name : Str} {v : Value}
/-- the first attribute of a fault -/
theorem store_excE {tk : Tok} {Q : Fin → Shared → Prop} (X : K.In h) (hC : h.get? C = some (excClassObj nm q C N bs tfm true sn sub ab col dd k0 k1 k2 k3 k5 newId))
    (ha : findIn K (.ref C) name = some none) (hx : h.get? x = some o) (hc : o.cls = .ref C) (hnc : ∀ c, o.data ≠ .cls c) (hdn : o.dict = none) (hfz : ∀ D, ({ cls := o.cls, dict := some D, data := o.data, slots := o.slots } : Obj).isFreed = false)
    (hq : ∀ h' tk', (∀ b ob, b ≠ x → h.get? b = some ob → h'.get? b = some ob) → (∃ D, h'.get? x = some { cls := o.cls, dict := some D, data := o.data, slots := o.slots }) → Q (.done (.ret .none)) ⟨h', g, d, tk', os⟩) :
    wpAny (model prog w) A (Builtin.«object.__setattr__» ⟨[.ref x, .str name tk, v], []⟩) Q E ⟨h, g, d, t, os⟩ := by
  have hpass := PySem.F.store_Exception.passes (.ref x)
  unfold Builtin.«object.__setattr__»
  repeat (first | rw [refuse_eq] | (rw [refuseLoop_ref, refuseLoop_ref, hpass]) | (with_reducible refine wpAny_loadPart_at hx ?_; rw [hc]) | with_reducible refine wpAny_mroOf_exc hC ?_ | (with_reducible refine (looks_findIn X ha).here ?_) | wp_step)
  rw [hdn, if_neg (by simp [typeHasDict])]
  split
  · rename_i hcd
    cases hcd
  split
  · rename_i c hcd
    exact absurd hcd (hnc c)
  · have hx₁ : (h.push { cls := .type "dict", data := .dict #[] }).get? x = some o := Heap.get?_push_of_some _ hx
    have hxs : x ≠ h.objs.size := Nat.ne_of_lt (Heap.lt_size hx)
    refine wpAny_bind (wpAny_alloc' ?_)
    refine wpAny_bind (wpAny_update' hx₁ ?_)
    refine wpAny_pure ?_
    have hgd : ((h.push { cls := .type "dict", data := .dict #[] }).update x fun o => { cls := o.cls, dict := some h.objs.size, data := o.data, slots := o.slots }).get? h.objs.size
        = some { cls := .type "dict", data := .dict #[] } :=
      (Heap.get?_update_ne _ _ _ _ hxs.symm).trans (Heap.get?_push_at rfl rfl)
    have hnd : ((h.push { cls := .type "dict", data := .dict #[] }).update x fun o => { cls := o.cls, dict := some h.objs.size, data := o.data, slots := o.slots }).Ns h.objs.size (fun _ => none) :=
      ⟨_, #[], _, hgd, rfl, fun e he => absurd he (by simp), fun _ => rfl⟩
    show wpAny _ _ (storeInDict h.objs.size (.str name tk) name v) _ _ _
    unfold storeInDict newKeyGuard
    refine wpAny_bind (wpAny_pure (wpAny_bind (wpAny_nsSet1 (Heap.Ns1.of_empty hnd) fun h' hn' hs => ?_)))
    (injection (hn'.count (Within.cons name v Within.nil)) with oD hₜ1; (injection hₜ1 with esD hₜ2; (injection hₜ2 with epD hₜ3; (injection hₜ3 with hoD hₜ4; (injection hₜ4 with hdD hcD)))))
    refine wpAny_bind (wpAny_lookBehind hoD (by rw [hdD]; exact pastItsLine_dict (Nat.le_trans hcD (by rw [List.length_cons, List.length_nil, sizeLine_eq]; (k_extra "MY om")))) ?_)
    wp_walk
    have hx' : h'.get? x = some { cls := o.cls, dict := some h.objs.size, data := o.data, slots := o.slots } := (hs.2 x hxs).trans (Heap.get?_update_self _ hx₁ (hfz _))
    refine hq h' _ (fun b ob hbx hb => ?_) ⟨_, hx'⟩
    exact (hs.2 b (Nat.ne_of_lt (Heap.lt_size hb))).trans ((Heap.get?_update_ne _ _ _ _ hbx).trans (Heap.get?_push_of_some _ hb))
theorem set_excE {Q : Unit → Shared → Prop} (X : K.In h) (hC : h.get? C = some (excClassObj nm q C N bs tfm true sn sub ab col dd k0 k1 k2 k3 k5 newId))
    (hs : findIn K (.ref C) "__setattr__" = some (some (.builtin "object.__setattr__"))) (ha : findIn K (.ref C) name = some none) (hx : h.get? x = some o) (hc : o.cls = .ref C) (hno : notCls o = true) (hnc : ∀ c, o.data ≠ .cls c) (hdn : o.dict = none)
    (hfz : ∀ D, ({ cls := o.cls, dict := some D, data := o.data, slots := o.slots } : Obj).isFreed = false)
    (hq : ∀ h' tk', (∀ b ob, b ≠ x → h.get? b = some ob → h'.get? b = some ob) → (∃ D, h'.get? x = some { cls := o.cls, dict := some D, data := o.data, slots := o.slots }) → Q () ⟨h', g, d, tk', os⟩) :
    wpAny (model prog w) A (setAttr (.ref x) name v) Q E ⟨h, g, d, t, os⟩ := by
  have SF := PySem.F.store_object
  have I : InstAt h x o C none := ⟨hx, hc, hno, by rw [hdn]; trivial⟩
  refine set_plain (s := ⟨h, g, d, t, os⟩) X I hs ?_
  have hcC : (Value.ref C :: tfm).contains (.type "object") = true := by simp
  refine codeAny_call_builtin SF.slot.plain SF.entry (@check_slot (model prog w) _ _ _ "object.__setattr__" "object" "__setattr__" (.ref x) [.str name t, v] [] _ SF.kind SF.split ?_ (SF.args (.ref x) (.str name t) v) ?_)
  · refine I.type.andThen ?_
    (intro A'; intros E' Q' s'; intro hk; intro hq')
    (first | (injection s' with h2 hₜ1; (injection hₜ1 with g2 hₜ2; (injection hₜ2 with d2 hₜ3; (injection hₜ3 with t2 os2)))) | rcases s' with ⟨h2, g2, d2, t2, os2⟩)
    exact wpAny_isSubtype_exc (hk _ _ hC) (by rw [hcC]; exact hq')
  · exact store_excE X hC ha hx hc hnc hdn hfz fun h' tk' a b => hq h' tk' a b
end
theorem meta_Exc : typeOf (.type "Exception") = pure (.type "type") := by kernel_rfl
abbrev excO (t : Addr) (dx : Option Addr) : Obj := ⟨.ref 108, dx, .fields #[.ref t, .none, .none, .none, .bool false, .none], #[]⟩
abbrev tf108 : Obj := excClassObj "TreeFault" "TreeFault" 108 107 [.ref 83] tfm true [] [] false none none (some (.ref 99)) none (some (.str "TreeFault" 316)) (some (.str "TreeFault" 324)) (some (.bool true)) "Exception.__new__"
theorem Fr.but {g h h' : Heap} {L e : Addr} {m : Str → Option Value} (F : Fr g L h m) (hL : e ≠ L) (hg : g.get? e = none) (hk : ∀ b o, b ≠ e → h.get? b = some o → h'.get? b = some o) : Fr g L h' m := by
  (injection (F.ns) with o hₜ1; (injection hₜ1 with es hₜ2; (injection hₜ2 with ep hₜ3; (injection hₜ3 with e1 r))))
  refine ⟨⟨o, es, ep, hk _ _ (Ne.symm hL) e1, r⟩, fun b ob hb => hk _ _ (fun z => ?_) (F.keep _ _ hb), F.above⟩
  (replace hb := hb; rw [z, hg] at hb); cases hb
theorem init_excK {prog : Program} {w : World} {A : Around} {E : Value → Shared → Prop} {s : Shared} {K : Frag} {g : Heap} {L e t0 : Addr} {m : Str → Option Value} {v : Value} {Q : Value → Shared → Prop} (F : Fr g L s.heap m) (X : K.In g) (hC : K.lookup 108 = some tf108) (N : News g L s.heap [(e, excO t0 none)])
    (h : ∀ h' T, Fr g L h' m → News g L h' [(e, excO T none)] → Q .none { s with heap := h' }) : wpAny (model prog w) A (call (.builtin "Exception.__init__") [.ref e, v]) Q E s := by
  (injection (N _ (.head _)) with he hₜ1; (injection hₜ1 with hL hg))
  (first | (injection s with hh hₜ1; (injection hₜ1 with gn hₜ2; (injection hₜ2 with d hₜ3; (injection hₜ3 with t os)))) | rcases s with ⟨hh, gn, d, t, os⟩)
  dsimp only at he hL hg
  refine init_excE (rest := [v]) PySem.F.excBase_Exception (X _ _ hC |> F.keep _ _) he rfl rfl rfl ?_ (by size_fits)
  have hb : ∀ b o, b ≠ e → hh.get? b = some o → ((hh.push { cls := .type "tuple", data := .seq [v].toArray }).update e (Obj.mapFields (·.setIfInBounds 0 (.ref hh.objs.size)))).get? b = some o := fun b o hne q =>
    (Heap.get?_update_other _ _ (Ne.symm hne)).trans (Heap.get?_push_of_some _ q)
  refine h _ hh.objs.size (Fr.but F hL hg hb) fun q hq => ?_
  obtain rfl := List.mem_singleton.mp hq
  refine ⟨?_, hL, hg⟩
  exact Heap.get?_update_self _ (Heap.get?_push_of_some _ he) rfl
theorem set_excK {prog : Program} {w : World} {A : Around} {E : Value → Shared → Prop} {s : Shared} {K : Frag} {g : Heap} {L e t0 : Addr} {m : Str → Option Value} {name : Str} {v : Value} {Q : Unit → Shared → Prop} (F : Fr g L s.heap m) (X : K.In g) (hC : K.lookup 108 = some tf108) (N : News g L s.heap [(e, excO t0 none)])
    (hs : findIn K (.ref 108) "__setattr__" = some (some (.builtin "object.__setattr__"))) (ha : findIn K (.ref 108) name = some none)
    (h : ∀ h' D tk', Fr g L h' m → News g L h' [(e, excO t0 (some D))] → Q () { s with heap := h', toks := tk' }) : wpAny (model prog w) A (setAttr (.ref e) name v) Q E s := by
  (injection (N _ (.head _)) with he hₜ1; (injection hₜ1 with hL hg))
  (first | (injection s with hh hₜ1; (injection hₜ1 with gn hₜ2; (injection hₜ2 with d hₜ3; (injection hₜ3 with t os)))) | rcases s with ⟨hh, gn, d, t, os⟩)
  dsimp only at he hL hg
  refine set_excE (X.keeps F.keep) (X _ _ hC |> F.keep _ _) hs ha he rfl rfl (fun c q => by cases q) rfl (fun D => rfl) ?_
  (intros h' tk'; intro hk hD)
  (injection hD with D hD)
  refine h h' D tk' (Fr.but F hL hg hk) fun q hq => ?_
  obtain rfl := List.mem_singleton.mp hq
  exact ⟨hD, hL, hg⟩
theorem words_56 : True := by
  k_with "OFF 55" => (skip)
  k_with "MY enterI" => ((fail_if_success k_extra "OFF 56"); (refine wpAny_call ?_; with_unfolding_all (refine' code_def ?k1ₘ ?k2ₘ ?k3ₘ ?k4ₘ ?k5ₘ ?kAₘ ?kFₘ ?kKₘ ?k6ₘ ?k7ₘ ?k8ₘ ?k9ₘ ?kBₘ ?_ ?c2ₘ ?c3ₘ ?c4ₘ ?c5ₘ; (case kAₘ => exact rfl); (case kFₘ => exact rfl); (case kKₘ => assumption); (case k1ₘ => k_asm); (case k2ₘ => k_asm); (case k3ₘ => k_asm); (case k4ₘ => k_asm); (case k5ₘ => k_asm); (case k6ₘ => k_is); (case k7ₘ => k_is); (case k8ₘ => ((try dsimp only [ktrTop]); (try simp only [depth_under_make, depth_under_kw, depth_in1, depth_deeper, depth_caller]); (k_extra "MY om"))); (case k9ₘ => exact BindsTo.of_eq rfl); (case c5ₘ => decide); (case kBₘ => exact locs rfl); (case c2ₘ => exact rfl); (case c3ₘ => exact rfl); (case c4ₘ => exact rfl); k_whole)))
  k_with "getMethod type:Exception" => ((fail_if_success k_extra "OFF 56"); (k_here; refine' method_type ?Fₘ ?Xₘ ?mₘ (by decide +kernel) ?eₘ ?hₘ ?_; (case Fₘ => k_asm); (case Xₘ => k_asm); (case mₘ => exact meta_Exc); (case eₘ => k_dflt k_is); (case hₘ => k_handed)))
  k_with "call builtin:Exception.__init__" => ((fail_if_success k_extra "OFF 56"); (k_here; k_dflt (refine' init_excK ?Fₘ ?Xₘ ?cₘ ?Nₘ ?_; (case Fₘ => k_asm); (case Xₘ => k_asm); (case cₘ => k_is); (case Nₘ => assumption); k_whole); intro h'ₘ T'ₘ F'ₘ N'ₘ; (try k_sweep)))
  k_with "setAttr ref" => ((fail_if_success k_extra "OFF 56"); (k_here; k_dflt (refine' set_excK ?Fₘ ?Xₘ ?cₘ ?Nₘ ?sₘ ?aₘ ?_; (case Fₘ => k_asm); (case Xₘ => k_asm); (case cₘ => k_is); (case Nₘ => assumption); (case sₘ => k_is); (case aₘ => k_is); k_whole); (intros h'ₘ D'ₘ tk'ₘ; intro F'ₘ N'ₘ); (try k_sweep)))
  trivial
set_option maxRecDepth 100000 in
set_option maxHeartbeats 8000000 in
theorem raise_of : ∀ (w : World) {dp un : Nat} {gd : Option (List Code)} {cn : Str} {cs : Scope} {a : Addr} {ccd : Value} {cl : List (Str × Addr)} {outer : List Env} {A₀ : Around} {base h₀ : Heap} {L : Addr} {m : Str → Option Value} {news : List (Addr × Obj)} {s : Shared} {p : Program} {loose : List Str} {mean : ExcName → Option Value} {mg mb : Str → Option Value} {Q E : Value → Shared → Prop} {msg : Str} {tk : Tok} (B : Below A₀ base outer h₀) (F : Fr h₀ L s.heap m) (X : (hd.heap_39 w.params).In h₀) (N : News h₀ L s.heap news) (Tp : Top p loose mean mg mb h₀) (hk9 : cs.kind = .function) (hdp : dp + 3 < recursionLimit) (hu : un + 24 < cLine) (ret : ∀ e T D h' tk', Fr h₀ L h' m → News h₀ L h' [(e, excO T (some D))] → Q (.ref e) { s with heap := h', toks := tk' }),
    wpAny (model PG w) (ktrTop dp un gd cn cs L a ccd cl outer) (call (.ref 108) [.str msg tk]) Q E s := by
  have hEpsₑ : EpsOn 0 := ⟨True.intro⟩
  intros w dp un gd cn cs a ccd cl outer A₀ base
  intros h₀ L m news s p
  intro loose
  intro mean
  intros mg mb Q E msg tk
  intro B
  intro F
  intro X
  intro N
  intro Tp
  intro hk9
  intro hdp
  intro hu
  intro ret
  (have hₜ1 : ∃ h g d t os, s = Shared.mk h g d t os := (⟨_, _, _, _, _, rfl⟩); (injection hₜ1 with h hₜ1; (injection hₜ1 with g hₜ2; (injection hₜ2 with d hₜ3; (injection hₜ3 with t hₜ4; (injection hₜ4 with os hₜ5; rcases hₜ5 with rfl))))))
  have Xh := X.keeps F.keep
  have h108 : (hd.heap_39 w.params).lookup 108 = some tf108 := by k_is
  refine call_excE PySem.F.excBase_Exception Xh (Xh _ _ h108) (by k_is) (by k_is) ?_ (by size_fits)
  (intros h' e; intro hm)
  (injection (hm.there) with t0 hₜ1; (injection hₜ1 with he hₜ2; (injection hₜ2 with ht0 htt)))
  have F1 : Fr h₀ L h' m := ⟨F.ns.keeps hm.keeps, fun b o q => hm.keeps _ _ (F.keep _ _ q), F.above⟩
  have N1 : News h₀ L h' [(e, ⟨.ref 108, none, .fields #[.ref t0, .none, .none, .none, .bool false, .none], #[]⟩)] := by
    intro q hq
    obtain rfl := List.mem_singleton.mp hq
    have hn := hm.new
    refine ⟨he, fun z => ?_, ?_⟩
    · (injection (F.ns) with oL hₜ1; (first | (refine And.elim ?_ (hₜ1); (try clear hₜ1); intro hₜ2 hₜ3; rcases hₜ2 with _; (refine And.elim ?_ (hₜ3); (try clear hₜ3); intro hₜ4 hₜ5; rcases hₜ4 with _; (injection hₜ5 with hL hₜ6; rcases hₜ6 with _))) | rcases hₜ1 with ⟨_, _, hL, _⟩))
      (replace hL := hL; rw [← (show e = L from z), hn] at hL); cases hL
    · cases q0 : h₀.get? e with
      | none => rfl
      | some o0 => have := F.keep _ _ q0; (replace this := this; rw [hn] at this); cases this
  clear hm h108 Xh htt ht0
  k_extra "MY enterI"
  (intros g1 L1 h1; intro F3 F2 N2 B2 X2 T2)
  try dsimp only
  try k_fold
  k_steps
  exact ret _ _ _ _ _ (by assumption) (by assumption)
set_option linter.unusedVariables false
/-- what is told of a fault's own fields: it stays as its traceback is set -/
def Told (P : Value → Array Value → Prop) : Prop := ∀ c vs x, P c vs → P c (vs.setIfInBounds 1 x)
/-- a fault with a traceback; fl: the frame it is noted at -/
def TrP (P : Value → Array Value → Prop) (base : Heap) (e : Addr) (fl : Value) (h : Heap) : Prop :=
  ∃ oe vs T oT ts, h.get? e = some oe ∧ P oe.cls vs ∧ oe.data = .fields vs ∧ vs[1]? = some (.ref T) ∧ base.get? T = none ∧ T ≠ e ∧ h.get? T = some oT ∧ oT.data = .fields ts ∧ ts[3]? = some fl
/-- a fault under way -/
def FlyP (P : Value → Array Value → Prop) (base : Heap) (l : List Env) (e : Addr) (fl : Value) (h : Heap) : Prop := base.StaysIn h ∧ base.get? e = none ∧ h.FunFrames base l ∧ TrP P base e fl h
abbrev Upto (h h' : Heap) : Prop := h.UpToSlots h'
section
variable {M : Model} {A : Around} {E : Value → Shared → Prop} {s : Shared} {P : Value → Array Value → Prop} {base : Heap} {env : Env} {outer : List Env} {L e : Addr} {Q : Unit → Shared → Prop}
/-- one entry more ahead of a fault's traceback -/
theorem entryP (hP : Told P) {oe : Obj} {vs : Array Value} {head : Value} {hadNext : Bool} (hfr : A.frames = some (env :: outer)) (hl : s.heap.FunFrames base (env :: outer)) (hf : env.frame = some L) (he : s.heap.get? e = some oe) (hkb : base.StaysIn s.heap) (hen : base.get? e = none)
    (hp : P oe.cls vs) (hd : oe.data = .fields vs) (hsz : 1 < vs.size) (h : ∀ h', FlyP P base (env :: outer) e (rawInt L) h' → Upto s.heap h' → Q () { s with heap := h' }) :
    wpAny M A (do let a ← frameOf env; let pl ← entryPlaceOf L hadNext; let b ← EntryCells.newEntry head a .none (rawInt L) .none pl; setField (.ref e) 1 b) Q E s := by
  have nofr : e ∉ (env :: outer).filterMap (·.frame) := fun hm => by
    obtain ⟨_, o, ho, hnf⟩ := hl.mem hm
    rw [he] at ho; cases ho; exact hnf vs hd
  refine wpAny_bind (wpAny_frameOf_fun hfr hl hf fun h₁ hs₁ => wpAny_bind (wpAny_entryPlaceOf fun pl hpl => ?_))
  unfold EntryCells.newEntry newFields
  refine wpAny_bind (wpAny_newObj_type ?_ (hpl.sizeOk5 _ _ _ _ _))
  have e1 : h₁.get? e = some oe := (hs₁.2.1 e nofr).trans he
  have b1 : base.StaysIn h₁ := fun b o q => (hs₁.2.1 b fun hm => by rw [(hl.mem hm).1] at q; cases q).trans (hkb b o q)
  generalize hoT : ({ cls := .type "traceback", dict := none, data := .fields ([head, .ref L, .none, rawInt L, .none] ++ (if pl.isEmpty then List.replicate 6 Value.none else pl)).toArray } : Obj) = oT
  have dT : ∃ ts, oT.data = .fields ts ∧ ts[3]? = some (rawInt L) := ⟨_, by rw [← hoT], by first | (simp; done) | (rcases hpl with rfl | ⟨_, _, _, _, _, _, _, rfl⟩ <;> simp)⟩
  have fT : oT.isFreed = false := by rw [← hoT]; rfl
  obtain ⟨ts, dT1, dT2⟩ := dT
  have e2 := Heap.get?_push_of_some (h := h₁) oT e1
  have hTe : h₁.objs.size ≠ e := Nat.ne_of_gt (Heap.lt_size e1)
  refine wpAny_setField e2 hd hsz (h _ ?_ ?_)
  all_goals have d3 := Obj.data_mapFields hd (·.setIfInBounds 1 (Value.ref h₁.objs.size))
  all_goals have rest : ∀ b o, b ≠ e → h₁.get? b = some o → ((h₁.push oT).update e (Obj.mapFields (·.setIfInBounds 1 (Value.ref h₁.objs.size)))).get? b = some o := fun b o hb q => (Heap.get?_update_other _ _ (Ne.symm hb)).trans (Heap.get?_push_of_some _ q)
  all_goals have norec : ∀ b o, s.heap.get? b = some o → (∀ vs, o.data ≠ .fields vs) → b ≠ e := fun b o hb hnf q => by rw [q, he] at hb; cases hb; exact hnf vs hd
  · refine ⟨fun b o q => rest b o (fun z => by rw [z, hen] at q; cases q) (b1 b o q), hen, hl.of_keeps fun b o hb hnf => ?_, ?_⟩
    · obtain ⟨sl, hs⟩ := hs₁.2.2 b o hb
      exact ⟨_, rest b _ (norec b o hb hnf) hs, rfl⟩
    · refine ⟨_, _, h₁.objs.size, oT, ts, Heap.get?_update_self _ e2 (Obj.isFreed_of_fields d3), ?_, d3, by simp [hsz], b1.fresh, hTe, ?_, dT1, dT2⟩
      · rw [Obj.cls_mapFields]; exact hP _ _ _ hp
      · exact (Heap.get?_update_other _ _ (Ne.symm hTe)).trans (Heap.get?_push_size h₁ fT)
  · intro b o hb hnf
    obtain ⟨sl, hs⟩ := hs₁.2.2 b o hb
    exact ⟨sl, rest b _ (norec b o hb hnf) hs⟩
/-- the note of the frame is taken away -/
theorem unfly (hkb : base.StaysIn s.heap) {l : List Env} {fl : Value} (H : FlyP P base l e fl s.heap) (h : ∀ h', FlyP P base l e .none h' → Upto s.heap h' → Q () { s with heap := h' }) : wpAny M A (setFlight (.ref e) none) Q E s := by
  obtain ⟨k1, k2, hl, oe, vs, T, oT, ts, he, hp, hd, h1, hnT, hTe, hT, hdT, h3⟩ := H
  have sz3 : 3 < ts.size := (Array.getElem?_eq_some_iff.mp h3).1
  have other : ∀ b, b ≠ T → (s.heap.update T (Obj.mapFields (·.setIfInBounds 3 ((none : Option Addr).elim Value.none fun f => rawInt f)))).get? b = s.heap.get? b := fun b hb => Heap.get?_update_other _ _ (Ne.symm hb)
  have norec : ∀ b o, s.heap.get? b = some o → (∀ vs, o.data ≠ .fields vs) → b ≠ T := fun b o hb hnf q => by rw [q, hT] at hb; cases hb; exact hnf ts hdT
  unfold setFlight
  refine wpAny_bind (wpAny_field he hd h1 ?_)
  rw [if_pos (show (Value.ref T != Value.none) = true from by simp)]
  refine wpAny_setField hT hdT sz3 (h _ ⟨fun b o q => (other b fun z => by rw [z, hnT] at q; cases q).trans (hkb b o q), k2, hl.of_keeps fun b o hb hnf => ⟨o, (other b (norec b o hb hnf)).trans hb, rfl⟩, ?_⟩ fun b o hb hnf => ⟨o.slots, (other b (norec b o hb hnf)).trans hb⟩)
  exact ⟨oe, vs, T, _, _, (other e (Ne.symm hTe)).trans he, hp, hd, h1, hnT, hTe, Heap.get?_update_self _ hT (Obj.isFreed_of_fields (Obj.data_mapFields hdT _)), Obj.data_mapFields hdT _, by simp [sz3]⟩
/-- a frame that a fault passes is noted -/
theorem noteP (hP : Told P) (hfr : A.frames = some (env :: outer)) (hf : env.frame = some L) (H : FlyP P base (env :: outer) e .none s.heap)
    (h : ∀ h', FlyP P base (env :: outer) e (rawInt L) h' → Upto s.heap h' → Q () { s with heap := h' }) : wpAny M A (noteFrame (.ref e) env) Q E s := by
  obtain ⟨k1, k2, hl, oe, vs, T, oT, ts, he, hp, hd, h1, hnT, hTe, hT, hdT, h3⟩ := H
  have other : ∀ b, b ≠ T → (s.heap.update T (Obj.mapFields (·.setIfInBounds 3 Value.none))).get? b = s.heap.get? b := fun b hb => Heap.get?_update_other _ _ (Ne.symm hb)
  have norec : ∀ b o, s.heap.get? b = some o → (∀ vs, o.data ≠ .fields vs) → b ≠ T := fun b o hb hnf q => by rw [q, hT] at hb; cases hb; exact hnf ts hdT
  unfold noteFrame
  simp only [hf]
  refine wpAny_bind (wpAny_field he hd h1 ?_)
  rw [if_pos (show (Value.ref T != Value.none) = true from by simp)]
  refine wpAny_bind (wpAny_field hT hdT h3 ?_)
  rw [if_neg (show ¬ ((Value.none == rawInt L) = true) from by simp [rawInt])]
  refine wpAny_bind (wpAny_setField hT hdT (Array.getElem?_eq_some_iff.mp h3).1 ?_)
  refine entryP (base := base) (outer := outer) hP hfr (hl.of_keeps fun b o hb hnf => ⟨o, (other b (norec b o hb hnf)).trans hb, rfl⟩) hf ((other e (Ne.symm hTe)).trans he) (fun b o q => (other b fun z => by rw [z, hnT] at q; cases q).trans (k1 b o q)) k2 hp hd (Array.getElem?_eq_some_iff.mp h1).1 fun h' H' up => h h' H' fun b o hb hnf => up b o ((other b (norec b o hb hnf)).trans hb) hnf
/-- a fault leaves the frame that raised it -/
theorem leaveP0 (hP : Told P) {oe : Obj} {vs : Array Value} (hfr : A.frames = some (env :: outer)) (hl : s.heap.FunFrames base (env :: outer)) (hf : env.frame = some L) (he : s.heap.get? e = some oe) (hkb : base.StaysIn s.heap) (hen : base.get? e = none) (hp : P oe.cls vs) (hd : oe.data = .fields vs) (h1 : vs[1]? = some .none)
    (h : ∀ h', FlyP P base (env :: outer) e .none h' → Upto s.heap h' → Q () { s with heap := h' }) : wpAny M A (leaving env (.ref e)) Q E s := by
  unfold leaving
  refine wpAny_bind ?_
  unfold noteFrame
  simp only [hf]
  refine wpAny_bind (wpAny_field he hd h1 ?_)
  rw [if_neg (by decide)]
  refine entryP hP hfr hl hf he hkb hen hp hd (Array.getElem?_eq_some_iff.mp h1).1 fun h' H' up => unfly H'.1 H' fun h'' H'' up' => h h'' H'' fun b o hb hnf => ?_
  obtain ⟨sl, hs⟩ := up b o hb hnf
  exact up' b { o with slots := sl } hs hnf
/-- a fault leaves a frame on its way -/
theorem leaveP (hP : Told P) (hfr : A.frames = some (env :: outer)) (hf : env.frame = some L) (H : FlyP P base (env :: outer) e .none s.heap)
    (h : ∀ h', FlyP P base outer e .none h' → Upto s.heap h' → Q () { s with heap := h' }) : wpAny M A (leaving env (.ref e)) Q E s := by
  unfold leaving
  refine wpAny_bind (noteP hP hfr hf H fun h' H' up => unfly H'.1 H' fun h'' H'' up' => h h'' ⟨H''.1, H''.2.1, H''.2.2.1.2.2, H''.2.2.2⟩ fun b o hb hnf => ?_)
  obtain ⟨sl, hs⟩ := up b o hb hnf
  exact up' b { o with slots := sl } hs hnf
end
set_option linter.unusedVariables false
/-- the fault's class, and no context -/
def PX (c : Value) (vs : Array Value) : Prop := c = .ref 108 ∧ vs[2]? = some .none
theorem told_PX : Told PX := fun c vs x h => ⟨h.1, by rw [Array.getElem?_setIfInBounds_ne (by decide)]; exact h.2⟩
/-- a fault that flies: what stood in G stands, but for the frames -/
def RaisedX (G base : Heap) (l : List Env) (e : Addr) (h : Heap) : Prop :=
  ∃ B, base.StaysIn B ∧ (∀ b o, G.get? b = some o → b ∉ l.filterMap (·.frame) → B.get? b = some o) ∧ FlyP PX B l e .none h ∧ G.UpToSlots h
theorem fr_none {g h : Heap} {L : Addr} {m : Str → Option Value} (F : Fr g L h m) : g.get? L = none := by
  cases q : g.get? L with
  | none => rfl
  | some o => exact absurd (Nat.lt_of_lt_of_le (Heap.lt_size q) F.above) (Nat.lt_irrefl _)
theorem frames_push {base g h : Heap} {A : Around} {outer : List Env} {L : Addr} {m : Str → Option Value} {env : Env} (K : Below A base outer g) (F : Fr g L h m) (hf : env.frame = some L) (hk : env.scope.kind = .function) : h.FunFrames base (env :: outer) := by
  have hnew : base.get? L = none := by
    cases hq : base.get? L with
    | none => rfl
    | some o => have := K.stays L o hq; rw [fr_none F] at this; cases this
  exact .cons (by rw [hk]; decide) hf F.ns hnew (K.frames.of_keeps fun b o e _ => ⟨o, F.keep b o e, rfl⟩)
section
variable {M : Model} {A : Around} {E : Value → Shared → Prop} {s' : Shared} {base g G : Heap} {outer : List Env} {L e T : Addr} {dx : Option Addr} {m : Str → Option Value} {env : Env} {Q : Unit → Shared → Prop}
theorem raise_leave (K : Below A base outer g) (F : Fr g L s'.heap m) (N : News g L s'.heap [(e, excO T dx)]) (hf : env.frame = some L) (hk : env.scope.kind = .function)
    (hQ : ∀ h', RaisedX g base outer e h' → Q () { s' with heap := h' }) : wpAny M (A.deeper env) (leaving env (.ref e)) Q E s' := by
  have FF := frames_push K F hf hk
  obtain ⟨he, hL, hg⟩ := N _ (.head _)
  dsimp only at he hL hg
  have hbe : base.get? e = none := fresh_of_stays K.stays hg
  have hin : ∀ env' ∈ (env :: outer), ∀ b, env'.frame = some b → b ∈ e :: (env :: outer).filterMap (·.frame) := fun env' he' b hb => .tail _ (List.mem_filterMap.mpr ⟨env', he', hb⟩)
  refine leaveP0 (P := PX) told_PX (base := hideAll s'.heap (e :: (env :: outer).filterMap (·.frame))) (Around.frames_deeper K.stack) (funFrames_hide FF hin) hf he (fun b o q => of_hideAll _ q) (hideAll_none _ (.head _)) ⟨rfl, rfl⟩ rfl rfl fun h' hL' k4 => ?_
  obtain ⟨k1, k5, ⟨_, _, k2⟩, k3⟩ := hL'
  refine hQ h' ⟨_, fun b o q => hideAll_get _ (F.keep _ _ (K.stays b o q)) (fun hm => ?_), fun b o q hn => hideAll_get _ (F.keep _ _ q) (fun hm => ?_), ⟨k1, k5, k2, k3⟩, (Heap.UpToSlots.of_keeps F.keep).trans k4⟩
  · rcases List.mem_cons.mp hm with hm | hm
    · rw [hm, hbe] at q; cases q
    · rw [(FF.mem hm).1] at q; cases q
  · rcases List.mem_cons.mp hm with hm | hm
    · rw [hm, hg] at q; cases q
    · rw [List.filterMap_cons, hf] at hm
      rcases List.mem_cons.mp hm with hm | hm
      · rw [hm, fr_none F] at q; cases q
      · exact hn hm
theorem raise_on (K : Below A base outer g) (F : Fr g L G m) (R : RaisedX G base (env :: outer) e s'.heap) (hf : env.frame = some L)
    (hQ : ∀ h', RaisedX g base outer e h' → Q () { s' with heap := h' }) : wpAny M (A.deeper env) (leaving env (.ref e)) Q E s' := by
  obtain ⟨B, h1, h2, hfl, hup⟩ := R
  refine leaveP told_PX (Around.frames_deeper K.stack) hf hfl fun h' x1 x2 => hQ h' ⟨B, h1, fun b o q hn => h2 b o (F.keep _ _ q) fun hm => ?_, x1, (Heap.UpToSlots.of_keeps F.keep).trans (hup.trans x2)⟩
  rw [List.filterMap_cons, hf] at hm
  rcases List.mem_cons.mp hm with hm | hm
  · rw [hm, fr_none F] at q; cases q
  · exact hn hm
end
/-- the raise statement with a fault that was made by its own __init__ -/
theorem raiseStmt_exc {M : Model} {A : Around} {E : Value → Shared → Prop} {env : Env} {s : Shared} {x : Sem Value} {Q : Flow → Shared → Prop} (hh : A.handled = none)
    (h : wpAny M A x (fun v s₁ => ∃ e T dx, v = .ref e ∧ s₁.heap.get? 108 = some tf108 ∧ s₁.heap.get? e = some (excO T dx) ∧ E (.ref e) s₁) E s) :
    wpAny M A (raiseStmt env (some x) none) Q E s := by
  have hcB : (Value.ref 108 :: tfm).contains (.type "BaseException") = true := by decide
  unfold raiseStmt
  refine wpAny_bind (wpAny_mono h (fun v s₁ h₁ => ?_) fun _ _ x => x)
  obtain ⟨e, T, dx, rfl, hC, he, hE⟩ := h₁
  obtain ⟨hp, g, d, tk, os⟩ := s₁
  repeat (first | with_reducible refine wpAny_loadPart_at he ?_ | with_reducible refine wpAny_loadPart_at hC ?_ | (with_reducible refine wpAny_isSubtype_exc hC ?_; rw [hcB]) | wp_step)
  exact wpAny_raiseNew_none hh hE
theorem Raise_exc {M : Model} {A : Around} {E : Value → Shared → Prop} {env : Env} {s : Shared} {f : PySem.Expr} {args : List PySem.Expr} {cpos pos : Pos} {Q : Flow → Shared → Prop} (hh : A.handled = none)
    (h : wpAny M A (eval (.Call f args [] cpos) env) (fun v s₁ => ∃ e T dx, v = .ref e ∧ s₁.heap.get? 108 = some tf108 ∧ s₁.heap.get? e = some (excO T dx) ∧ E (.ref e) s₁) E s) :
    wpAny M A (exec (.Raise (some (.Call f args [] cpos)) none pos) env) Q E s := by
  rw [arm_exec_Raise]
  rw [arm_evalOpt_some, show evalOpt none env = none from rfl]
  dsimp only [Option.map]
  refine wpAny_bind (wpAny_standAt (raiseStmt_exc hh (wpAny_bind (wpAny_mono h (fun v s₁ h₁ => wpAny_bind (wpAny_standAt (wpAny_pure h₁))) fun _ _ x => x))))
/-- a call that reads, or raises a fault -/
def ESpec (w : World) (f : Addr) (dep : Nat) (vs : List Value) (pre : Heap → Prop) (post : Heap → Value → List (Addr × Obj) → Prop) (bad : Prop) : Prop :=
  ∀ (dp un : Nat) (gd : Option (List Code)) (cn : Str) (cs : Scope) (a : Addr) (ccd : Value) (cl : List (Str × Addr)) (outer : List Env) (A₀ : Around) (base h₀ : Heap) (L : Addr) (m : Str → Option Value) (news : List (Addr × Obj)) (s : Shared)
    (p : Program) (loose : List Str) (mean : ExcName → Option Value) (mg mb : Str → Option Value) (Q E : Value → Shared → Prop),
    Below A₀ base outer h₀ → Fr h₀ L s.heap m → (hd.heap_39 w.params).In h₀ → News h₀ L s.heap news → Top p loose mean mg mb h₀ → cs.kind = .function → dp + dep < recursionLimit → un + 8 * dep < cLine → pre s.heap →
    (∀ r new h' tk', Fr h₀ L h' m → News h₀ L h' (new ++ news) → Sub s.heap h' → (∀ q ∈ new, s.heap.get? q.1 = none) → post h' r new → Q r { s with heap := h', toks := tk' }) →
    (∀ e h' tk', bad → RaisedX s.heap base (envX cn cs L a ccd cl :: outer) e h' → E (.ref e) { s with heap := h', toks := tk' }) →
    wpAny (model PG w) (ktrTop dp un gd cn cs L a ccd cl outer) (call (.ref f) vs) Q E s
theorem ESpec.use {w : World} {f : Addr} {dep : Nat} {vs : List Value} {pre : Heap → Prop} {post : Heap → Value → List (Addr × Obj) → Prop} {bad : Prop} (S : ESpec w f dep vs pre post bad)
    {dp un : Nat} {gd : Option (List Code)} {cn : Str} {cs : Scope} {a : Addr} {ccd : Value} {cl : List (Str × Addr)} {outer : List Env} {A₀ : Around} {base h₀ : Heap} {L : Addr} {m : Str → Option Value} {news : List (Addr × Obj)} {s : Shared}
    {p : Program} {loose : List Str} {mean : ExcName → Option Value} {mg mb : Str → Option Value} {Q E : Value → Shared → Prop}
    (B : Below A₀ base outer h₀) (F : Fr h₀ L s.heap m) (X : (hd.heap_39 w.params).In h₀) (N : News h₀ L s.heap news) (T : Top p loose mean mg mb h₀) (hk : cs.kind = .function) (hd : dp + dep < recursionLimit) (hu : un + 8 * dep < cLine) (hp : pre s.heap)
    (ret : ∀ r new h' tk', Fr h₀ L h' m → News h₀ L h' (new ++ news) → Sub s.heap h' → ((∀ q ∈ new, s.heap.get? q.1 = none) ∧ ∀ q ∈ new, ∀ p ∈ news, p.1 ≠ q.1) → post h' r new → Q r { s with heap := h', toks := tk' })
    (bad' : ∀ e h' tk', bad → RaisedX s.heap base (envX cn cs L a ccd cl :: outer) e h' → E (.ref e) { s with heap := h', toks := tk' }) :
    wpAny (model PG w) (ktrTop dp un gd cn cs L a ccd cl outer) (call (.ref f) vs) Q E s :=
  S _ _ _ _ _ _ _ _ _ _ _ _ _ _ _ _ _ _ _ _ _ _ _ B F X N T hk hd hu hp (fun r new h' tk' a1 a2 a3 a4 => ret r new h' tk' a1 a2 a3 ⟨a4, fun q hq p hp e => by
    have h2 := (N p hp).1
    rw [e, a4 q hq] at h2; cases h2⟩) bad'
section
open PyProof.V PySem.Spec
set_option linter.unusedVariables false
section
variable {w : World} {A : Around} {E : Value → Shared → Prop} {s : Shared} {h₀ : Heap} {L sc d : Addr} {m : Str → Option Value} {news : List (Addr × Obj)} {o oS : Obj} {c cur : Option Str}
theorem scD_len (c : Option Str) : (scD c).length ≤ 2 := by cases c <;> simp [scD]
theorem tabSO (N : News h₀ L s.heap news) (hm : (d, o) ∈ news) (lo : (d == sysModules) = false) (S : SO w c o) : TabAt (PySem.strKind PG w) PyData.str s.heap d (scD c) := by
  obtain ⟨kvs, h1, h2⟩ := S
  exact TabAt.ofObj lo (N _ hm).1 h1 h2
theorem dict_SO {Q : Value → Shared → Prop} (F : Fr h₀ L s.heap m) (N : News h₀ L s.heap news) (hb : h₀.NoLimit) (lo : (sc == sysModules) = false) (ho : s.heap.get? sc = some oS) (S : SO w c oS)
    (k : ∀ d h' o, Fr h₀ L h' m → News h₀ L h' ((d, o) :: news) → (∀ p ∈ news, p.1 < d) → (d == sysModules) = false → SO w c o → Q (.ref d) { s with heap := h' }) :
    wpAny (model PG w) A (call (.type "dict") [.ref sc]) Q E s := by
  obtain ⟨kvs, h1, h2⟩ := S
  exact kt_dict_K F N hb (TabAt.ofObj lo ho h1 h2) (Nat.le_trans (scD_len c) (by rw [PySem.sizeLine_eq]; (k_extra "MY om"))) fun d h' o kvs' F' N' l1 lo' hd hf => k d h' o F' N' l1 lo' ⟨kvs', hd, hf⟩
theorem putSO (u : Str) : putD (.str "p") (.str u) (scD c) = scD (some u) := by
  cases c <;> with_unfolding_all rfl
theorem set_SO {u : Str} {tp tu : Tok} {g : Obj → List (Addr × Obj)} {Q : Unit → Shared → Prop} (F : Fr h₀ L s.heap m) (N : News h₀ L s.heap news) (U : UpdF d o news g) (S : SO w c o)
    (h : ∀ h' o', Fr h₀ L h' m → News h₀ L h' (g o') → SO w (some u) o' → Q () { s with heap := h', toks := s.toks + 1 }) :
    wpAny (model PG w) A (setItem (.ref d) (.str "p" tp) (.str u tu)) Q E s := by
  obtain ⟨kvs, h1, h2⟩ := S
  refine setItem_K (k := Str.ofString "p") (dv := .str u) PyProof.V.same_str (strKind_is _ _ _ _) (.str _ _) F N U h1 h2 (fun h' o' F' N' hd hf => h h' o' F' N' ⟨_, hd, ?_⟩) (Nat.le_trans (scD_len c) (by rw [PySem.sizeLine_eq]; (k_extra "MY om")))
  rw [putSO] at hf
  exact hf
theorem get_SO {x r : Str} {tx td : Tok} {Q : Value → Shared → Prop} (N : News h₀ L s.heap news) (hm : (d, o) ∈ news) (lo : (d == sysModules) = false) (S : SO w c o) (hr : (lookup (.str x) (scD c)).getD (.str "") = .str r)
    (h : ∀ t, Q (.str r t) { s with toks := s.toks + 1 }) : wpAny (model PG w) A (call (.builtin "dict.get") [.ref d, .str x tx, .str "" td]) Q E s := by
  refine call_get2_tab (k := x) PyProof.V.same_str (strKind_is _ _ _ _) (tabSO N hm lo S) (.str "" td) fun v hv => ?_
  rw [hr] at hv
  have hv' := hv s.heap
  cases hv'
  exact h _
theorem lk_no : (lookup (.str "") (scD c)).getD (.str "") = .str "" := by cases c <;> with_unfolding_all rfl
theorem lk_xml : (lookup (.str "xml") (scD c)).getD (.str "") = .str "http://www.w3.org/XML/1998/namespace" := by cases c <;> with_unfolding_all rfl
theorem lk_p : (lookup (.str "p") (scD c)).getD (.str "") = .str (c.getD "") := by cases c <;> with_unfolding_all rfl
end
end
set_option linter.unusedVariables false
theorem words_57 : True := by
  k_with "OFF 56" => (skip)
  k_with "MY reader" => ((fail_if_success k_extra "OFF 62"); (refine wpAny_call ?_; with_unfolding_all (refine' code_reader ?k1ₘ ?k2ₘ ?k3ₘ ?k4ₘ ?k5ₘ ?kAₘ ?kFₘ ?kKₘ ?k6ₘ ?k7ₘ ?k8ₘ ?k9ₘ ?kBₘ ?_ ?c2ₘ ?c3ₘ ?c4ₘ ?c5ₘ; (case kAₘ => exact rfl); (case kFₘ => exact rfl); (case kKₘ => assumption); (case k1ₘ => k_asm); (case k2ₘ => k_asm); (case k3ₘ => k_asm); (case k4ₘ => k_asm); (case k5ₘ => k_asm); (case k6ₘ => k_is); (case k7ₘ => k_is); (case k8ₘ => ((try dsimp only [ktrTop]); (k_extra "MY om"))); (case k9ₘ => exact BindsTo.of_eq rfl); (case c5ₘ => decide); (case kBₘ => exact locs rfl); (case c2ₘ => exact rfl); (case c3ₘ => exact rfl); (case c4ₘ => exact rfl); k_whole)))
  k_with "LeaveK" => ((fail_if_success k_extra "OFF 62"); ((rename (∀ _ _ _ _ _, Fr _ _ _ _ → News _ _ _ _ → _ → LeaveK _ _ _ _ _ _ _) => lv9ₘ); k_dflt (refine' lv9ₘ _ _ _ _ _ ?k1ₘ ?k2ₘ ?_; (case k1ₘ => k_asm); (case k2ₘ => k_asm); k_whole); (intros kFₘ kNₘ kSₘ kOₘ); (try dsimp only)))
  k_with "exec While Compare cons nil" => ((fail_if_success k_extra "OFF 62"); refine halt_of ?_)
  k_with "exec For Name Name cons nil" => ((fail_if_success k_extra "OFF 62"); refine halt_of ?_)
  k_with "Halt" => (fail "halt")
  k_with "MY k_inst" => ((fail_if_success k_extra "OFF 62"); first | (refine' inst_tree ?Fₘ ?h1ₘ; (case Fₘ => k_asm); (case h1ₘ => assumption)) | (refine' inst_node ?Fₘ ?h1ₘ ?h2ₘ; (case Fₘ => k_asm); (case h1ₘ => assumption); (case h2ₘ => assumption)))
  k_with "MY k_handed" => (exact handed_par _)
  k_with "MY use" => (((try dsimp only); (try k_fold)))
  k_with "MY rd" => (((case k1ₘ => k_asm); (case k2ₘ => k_asm); (case k3ₘ => k_asm); (case k4ₘ => k_asm); (case k5ₘ => k_asm); (case kKₘ => first | exact rfl | assumption); (case kdₘ => ((try dsimp only [ktrTop, Around.deeper]); (k_extra "MY om"))); (case kuₘ => ((try dsimp only [ktrTop, Around.deeper]); (k_extra "MY om")))))
  k_with "MY rp" => ((fail_if_success k_extra "OFF 62"); (case kpₘ => exact PT.At.sub (by assumption) (Fr.keep (by k_asm))))
  k_with "MY size" => ((fail_if_success k_extra "OFF 62"); (simp only [List.size_toArray, List.length_map, Array.size_push, PySem.sizeLine_eq]; (k_extra "MY om")))
  k_with "call builtin:list.append" => ((fail_if_success k_extra "OFF 62"); (k_here; (with_reducible show wpAny _ _ (call (Value.builtin _) [Value.ref _, _]) _ _ _); k_dflt (refine' append_K ?k1ₘ ?k2ₘ ?k3ₘ ?_ ?zₘ; (case k1ₘ => k_asm); (case k2ₘ => k_asm); (case k3ₘ => k_upd); (case zₘ => k_extra "MY size"); k_whole); intro h'ₘ F'ₘ N'ₘ))
  k_with "subscriptTail Name Slice ref ref" => ((fail_if_success k_extra "OFF 62"); (k_here; k_dflt (refine' krv_lit ?Fₘ ?Nₘ ?lₘ ?kₘ ?eₘ ?_ ?sₘ ?tₘ ?zₘ; (case Fₘ => k_asm); (case Nₘ => k_asm); (case lₘ => exact News.isList (by k_asm) (by k_mem)); (case kₘ => exact IsPart.int _ _); (case eₘ => exact rfl); (case sₘ => with_unfolding_all rfl); (case tₘ => (intro _; with_unfolding_all rfl)); (case zₘ => k_extra "MY size")); (intros D'ₘ h'ₘ; intro F'ₘ N'ₘ l1ₘ); (try k_lt l1ₘ)))
  k_with "exec For Name Call cons nil" => ((k_here; (rename Fr _ _ _ _ => lF'ₘ); (with_unfolding_all refine' For_invVF lF'ₘ ?k1ₘ ?k2ₘ ?_; (case k1ₘ => exact rfl); (case k2ₘ => exact rfl); k_whole)))
  k_with "exec For Name Attribute cons nil" => ((k_here; (rename Fr _ _ _ _ => lF'ₘ); (with_unfolding_all refine' For_invVF lF'ₘ ?k1ₘ ?k2ₘ ?_; (case k1ₘ => exact rfl); (case k2ₘ => exact rfl); k_whole)))
  k_with "exec For Name Subscript cons nil" => ((k_here; (rename Fr _ _ _ _ => lF'ₘ); (with_unfolding_all refine' For_invVF lF'ₘ ?k1ₘ ?k2ₘ ?_; (case k1ₘ => exact rfl); (case k2ₘ => exact rfl); k_whole)))
  k_with "MY readerC" => ((fail_if_success k_extra "OFF 60"); (refine wpAny_call ?_; with_unfolding_all (refine' code_readerC ?k1ₘ ?k2ₘ ?k3ₘ ?k4ₘ ?k5ₘ ?kAₘ ?kFₘ ?kKₘ ?k6ₘ ?k7ₘ ?k8ₘ ?k9ₘ ?kBₘ ?kDₘ ?_ ?c2ₘ ?c3ₘ ?c4ₘ; (case kAₘ => exact rfl); (case kFₘ => exact rfl); (case kKₘ => assumption); (case k1ₘ => k_asm); (case k2ₘ => k_asm); (case k3ₘ => k_asm); (case k4ₘ => k_asm); (case k5ₘ => k_asm); (case k6ₘ => k_is); (case k7ₘ => k_is); (case k8ₘ => ((try dsimp only [ktrTop]); (k_extra "MY om"))); (case k9ₘ => exact BindsTo.of_eq rfl); (case kBₘ => exact rfl); (case kDₘ => decide +kernel); (case c2ₘ => exact rfl); (case c3ₘ => exact rfl); (case c4ₘ => exact rfl); k_whole)))
  k_with "MY in" => ((fail_if_success k_extra "OFF 62"); first | assumption | with_reducible exact List.mem_cons_self | exact List.mem_append_left _ (by assumption) | (with_reducible refine List.mem_cons_of_mem _ ?_; k_extra "MY in") | (with_reducible refine List.mem_append_right _ ?_; k_extra "MY in"))
  k_with "eval Name" => ((fail_if_success k_extra "OFF 62"); (k_dflt (first | (refine' LCgL.ld_own ?Nₘ ?mₘ ?Cₘ ?xₘ ?_; (case Nₘ => k_asm); (case mₘ => k_extra "MY in"); (case Cₘ => assumption); (case xₘ => assumption)) | (refine' lcf_cell ?Nₘ ?cₘ ?mₘ ?dₘ ?_ ?aₘ ?bₘ; (case aₘ => rfl); (case bₘ => rfl); (case Nₘ => k_asm); (case cₘ => rfl); (case mₘ => k_extra "MY in"); (case dₘ => assumption); k_whole) | (refine' lcf_free ?Nₘ ?cₘ ?mₘ ?dₘ ?_ ?aₘ ?bₘ; (case aₘ => rfl); (case bₘ => rfl); (case Nₘ => k_asm); (case cₘ => rfl); (case mₘ => k_extra "MY in"); (case dₘ => assumption); k_whole) | (refine' nameX_C ?Nₘ ?cₘ ?mₘ ?dₘ ?_ ?aₘ ?bₘ; (case aₘ => rfl); (case bₘ => rfl); (case Nₘ => k_asm); (case cₘ => rfl); (case mₘ => k_extra "MY in"); (case dₘ => assumption); k_whole))))
  k_with "exec Assign cons ListComp" => ((fail_if_success k_extra "OFF 62"); refine halt_of ?_)
  k_with "exec For Tuple Name cons nil" => ((fail_if_success k_extra "OFF 60"); (k_here; (rename Fr _ _ _ _ => lF'ₘ); (with_unfolding_all refine' For_turns lF'ₘ ?_; k_whole)))
  k_with "MY k_all" => (assumption)
  k_with "call type:dict" => ((fail_if_success k_extra "OFF 60"); (k_here; k_dflt (refine' dict_SO ?Fₘ ?Nₘ ?bₘ ?loₘ ?hoₘ ?Sₘ ?_; (case Fₘ => k_asm); (case Nₘ => k_asm); (case bₘ => exact Top.nolimit (by k_asm)); (case loₘ => assumption); (case hoₘ => exact Fr.keep (by k_asm) _ _ (by assumption)); (case Sₘ => assumption)); (intros d'ₘ h'ₘ o'ₘ; intro F'ₘ N'ₘ l1ₘ; intro lo'ₘ; intro S'ₘ); (try k_lt l1ₘ)))
  k_with "setItem ref str" => ((fail_if_success k_extra "OFF 60"); (k_here; k_dflt (refine' set_SO ?Fₘ ?Nₘ ?Uₘ ?Sₘ ?_; (case Fₘ => k_asm); (case Nₘ => k_asm); (case Uₘ => k_updF); (case Sₘ => assumption)); (intros h'ₘ o'ₘ; intro F'ₘ N'ₘ S'ₘ); (try dsimp only at N'ₘ)))
  k_with "getMethod ref" => ((fail_if_success k_extra "OFF 60"); (k_here; (with_reducible show wpAny _ _ (getMethod (Value.ref _) (Str.ofString "get") _) _ _ _); k_dflt (refine getMethod_strTab_get (tabSO (by k_asm) (by k_extra "MY in") (by assumption) (by assumption)) ?_)))
  k_with "call builtin:dict.get" => ((fail_if_success k_extra "OFF 60"); (k_here; k_dflt (refine get_SO (by k_asm) (by k_extra "MY in") (by assumption) (by assumption) (by first | exact lk_no | exact lk_xml | exact lk_p) ?_); intro t'ₘ))
  k_with "eval Name" => ((fail_if_success k_extra "OFF 67"); k_here; name_kind "local"; k_dflt (refine' nameX_L ?k1ₘ ?k2ₘ ?_ ?k3ₘ ?k4ₘ; (case k1ₘ => k_asm); (case k3ₘ => rfl); (case k4ₘ => rfl); (case k2ₘ => rfl); k_whole))
  trivial
/-- some names of a frame are of no account -/
abbrev mix (st : List Str) (u M : Str → Option Value) : Str → Option Value := fun y => if st.contains y = true then u y else M y
theorem mix_self {st : List Str} {M : Str → Option Value} : mix st M M = M := by funext y; simp
theorem mix_two {st : List Str} {u M : Str → Option Value} {x1 x2 : Str} {a b : Option Value} (h1 : st.contains x1 = true) (h2 : st.contains x2 = true) :
    (fun y => if y = x1 then a else if y = x2 then b else if st.contains y = true then u y else M y) = mix st (fun y => if y = x1 then a else if y = x2 then b else u y) M := by
  funext y
  by_cases q1 : y = x1
  · subst q1; simp only [mix, if_pos h1, if_true]
  · by_cases q2 : y = x2
    · subst q2; simp only [mix, if_pos h2, if_true]
    · simp only [mix, if_neg q1, if_neg q2]
theorem mix_three {st : List Str} {u M : Str → Option Value} {x1 x2 x3 : Str} {a b c : Option Value} (h1 : st.contains x1 = true) (h2 : st.contains x2 = true) (h3 : st.contains x3 = true) :
    (fun y => if y = x1 then a else if y = x2 then b else if y = x3 then c else if st.contains y = true then u y else M y) = mix st (fun y => if y = x1 then a else if y = x2 then b else if y = x3 then c else u y) M := by
  funext y
  by_cases q1 : y = x1
  · subst q1; simp only [mix, if_pos h1, if_true]
  · by_cases q2 : y = x2
    · subst q2; simp only [mix, if_pos h2, if_true]
    · by_cases q3 : y = x3
      · subst q3; simp only [mix, if_pos h3, if_true]
      · simp only [mix, if_neg q1, if_neg q2, if_neg q3]
theorem unpackN {prog : Program} {w : World} {A : Around} {E : Value → Shared → Prop} {s : Shared} {env : Env} {h₀ : Heap} {L : Addr} {m : Str → Option Value} {news : List (Addr × Obj)} {elts : List PySem.Expr} {k} {pos : Pos} {t : Addr} {vs : List Value} {Q : Unit → Shared → Prop} (F : Fr h₀ L s.heap m) (N : News h₀ L s.heap news) (ho : (t, tupObj vs) ∈ news)
    (hh : A.handled = none) (hn : (assignEach elts env).length = vs.length) (hstar : (assignEach elts env).findIdx? (·.1) = none)
    (h : ∀ h', Fr h₀ L h' m → News h₀ L h' news → wpAny (model prog w) A (assignInOrder ((assignEach elts env).map (·.2)) vs) Q E { s with heap := h' }) :
    wpAny (model prog w) A (assign (.Tuple elts k pos) env (.ref t)) Q E s :=
  unpackN_ F N ⟨_, (N _ ho).1, rfl, _, rfl⟩ hh (by simpa using hn) hstar (by simpa using h)
theorem words_58 : True := by
  k_with "assign Tuple" => ((fail_if_success k_extra "OFF 60"); (k_dflt (refine' unpackN ?Fₘ ?Nₘ ?dₘ ?k1ₘ ?k2ₘ ?k3ₘ ?_; (case Fₘ => k_asm); (case Nₘ => k_asm); (case dₘ => k_extra "MY in"); (case k1ₘ => exact rfl); (case k2ₘ => exact rfl); (case k3ₘ => exact rfl)); intro h'ₘ F'ₘ N'ₘ))
  trivial
theorem ne_str_diff {prog : Program} {w : World} {A : Around} {E : Value → Shared → Prop} {s : Shared} {x y : Str} {t u : Tok} {Q : Value → Shared → Prop} (e : x ≠ y) (h : Q (.bool true) s) : wpAny (model prog w) A (compareOp .NotEq (.str x t) (.str y u)) Q E s :=
  PyProof.Rows.ne_str (by have e9 : (x == y) = false := beq_eq_false_iff_ne.mpr e; simpa [bne, e9] using h)
theorem words_59 : True := by
  k_with "compareOp NotEq str str" => ((fail_if_success k_extra "OFF 60"); (k_dflt refine ne_str_diff (by assumption) ?_))
  trivial
/-- the prefix of a name, as the program finds it -/
def PfxIs (w : World) (nm pf : Str) : Prop := ∀ t : Tok, RSpec w 539 1 [.str nm t] (fun _ => True) (fun _ r new => ∃ t', r = .str pf t')
theorem pfx_use {w : World} {nm pf : Str} (h : PfxIs w nm pf) (t : Tok) : RSpec w 539 1 [.str nm t] (fun _ => True) (fun _ r new => ∃ t', r = .str pf t') := h t
/-- what a name wants: nothing, the prefix p for u, the prefix xml -/
inductive Wt | no | pre (u : Str) | xml
theorem neWt : Nonempty Wt := ⟨.no⟩
theorem neFW : Nonempty (Nat → Wt) := ⟨fun _ => .no⟩
theorem wtE (x : Wt) : x = .no ∨ x = .xml ∨ ∃ u, x = .pre u := by cases x with | no => exact .inl rfl | xml => exact .inr (.inl rfl) | pre u => exact .inr (.inr ⟨u, rfl⟩)
def Wt.pf : Wt → Str | .no => "" | .pre _ => "p" | .xml => "xml"
def Wt.uri : Wt → Str | .no => "" | .pre u => u | .xml => ""
/-- the names told so far: what p stands for, whether p is held, the declaration found -/
abbrev DS := Option Str × Bool × Option Str
def dstep (s : DS) : Wt → Option DS
  | .no => some s
  | .xml => some s
  | .pre u => if s.1 = some u then some (s.1, true, s.2.2) else if s.2.1 = true then none else some (some u, true, some u)
def dfold : DS → List Wt → Option DS
  | s, [] => some s
  | s, v :: r => (dstep s v).bind fun s' => dfold s' r
def ownC (own c : Option Str) : Option Str := match own with | some o => some o | none => c
def dstart (own c : Option Str) : DS := (ownC own c, own.isSome, own)
/-- a list of pairs of texts as it lies -/
structure TE2 where
  a : Addr
  x : Str
  tx : Tok
  y : Str
  ty : Tok
theorem neTE2 : Nonempty TE2 := ⟨⟨0, "", 0, "", 0⟩⟩
def TE2.ob (e : TE2) : Addr × Obj := (e.a, tupObj [.str e.x e.tx, .str e.y e.ty])
def tes (l : List TE2) : List (Addr × Obj) := l.map TE2.ob
def ters (l : List TE2) : List Value := l.map fun e => .ref e.a
def tps (l : List TE2) : List (Str × Str) := l.map fun e => (e.x, e.y)
def ownL (c : Option Str) : List (Str × Str) := match c with | none => [] | some u => [("p", u)]
/-- an element's names as they are wanted -/
structure Wants (w : World) (T : PT) (k : Nat) (n : NR) (own : Option Str) (K : Nat → Wt) : Prop where
  hk : T.ns[k]? = some n
  p0 : PfxIs w n.name (K k).pf
  u0 : n.uri = (K k).uri
  al : n.at'.length ≤ 5
  at_ : ∀ d ∈ n.at', ∃ na, T.ns[d.1]? = some na ∧ PfxIs w na.name (K d.1).pf ∧ na.uri = (K d.1).uri ∧ K d.1 ≠ .no
  ns : (n.ns = [] ∧ own = none) ∨ ∃ d nn o, n.ns = [d] ∧ T.ns[d.1]? = some nn ∧ nn.name = "p" ∧ nn.value = o ∧ own = some o
  ne : ∀ j u, K j = .pre u → u ≠ "" ∧ PyData.strOk u = true
theorem tes_snoc (F : List TE2) (e : TE2) : tes (F ++ [e]) = tes F ++ [e.ob] := by simp [tes]
theorem ters_snoc (F : List TE2) (e : TE2) : ters (F ++ [e]) = ters F ++ [.ref e.a] := by simp [ters]
theorem tps_snoc (F : List TE2) (e : TE2) : tps (F ++ [e]) = tps F ++ [(e.x, e.y)] := by simp [tps]
theorem tps_len {F : List TE2} {l : List (Str × Str)} (h : tps F = l) : (ters F).length = l.length := by rw [← h]; simp [tps, ters]
theorem ters_get {F : List TE2} {i : Nat} {v : Value} (h : (ters F)[i]? = some v) : ∃ e, F[i]? = some e ∧ Value.ref e.a = v := by
  unfold ters at h
  (replace h := h; rw [List.getElem?_map] at h)
  cases q : F[i]? with
  | none => (replace h := h; rw [q] at h); cases h
  | some e => (replace h := h; rw [q] at h); exact ⟨e, rfl, Option.some.inj h⟩
theorem tes_mem {F : List TE2} {e : TE2} (h : e ∈ F) : (e.a, tupObj [.str e.x e.tx, .str e.y e.ty]) ∈ tes F := List.mem_map_of_mem (f := TE2.ob) h
theorem ne_all {d : Addr} {l : List (Addr × Obj)} (h : AllNe d l) : ∀ p ∈ l, p.1 ≠ d := by
  induction l with
  | nil => intro p hp; cases hp
  | cons a r ih =>
    intro p hp
    (injection h with h1 h2)
    rcases List.mem_cons.mp hp with e | q
    · rw [e]; exact h1
    · exact ih h2 p q
abbrev Off (a : Addr) (l : List (Addr × Obj)) : Prop := ∀ p ∈ l, p.1 ≠ a
/-- the ledger ahead of the second loop -/
theorem loop2 {g h : Heap} {L xa wl t0 kd D : Addr} {ox ok od : Obj} {x y : Str} {tx ty : Tok} {R : List (Addr × Obj)} (N : News g L h ((xa, ox) :: (wl, listOf #[Value.ref t0] 0) :: (t0, tupObj [.str x tx, .str y ty]) :: (kd, ok) :: (D, od) :: R))
    (hx : ∀ p ∈ ((wl, listOf #[Value.ref t0] 0) :: (t0, tupObj [.str x tx, .str y ty]) :: (kd, ok) :: (D, od) :: R), p.1 ≠ xa) (h1 : ∀ p ∈ (t0, tupObj [.str x tx, .str y ty]) :: (kd, ok) :: (D, od) :: R, p.1 < wl) (h2 : ∀ p ∈ (kd, ok) :: (D, od) :: R, p.1 < t0) (h3 : Off kd ((D, od) :: R)) (h4 : Off D R) :
    ∃ (R2 : List (Addr × Obj)) (xa' wl' : Addr) (e : TE2), xa' = xa ∧ wl' = wl ∧ e.a = t0 ∧ e.x = x ∧ e.y = y ∧ News g L h ((wl', listOf (ters [e]).toArray 0) :: (tes [e] ++ ((kd, ok) :: (D, od) :: R2))) ∧ (xa', ox) ∈ R2 ∧ (∀ q ∈ R, q ∈ R2) ∧
      Off wl' (tes [e] ++ ((kd, ok) :: (D, od) :: R2)) ∧ Off kd ((wl', listOf (ters [e]).toArray 0) :: (D, od) :: (tes [e] ++ R2)) ∧ Off D ((wl', listOf (ters [e]).toArray 0) :: (tes [e] ++ R2)) := by
  refine ⟨(xa, ox) :: R, xa, wl, ⟨t0, x, tx, y, ty⟩, rfl, rfl, rfl, rfl, rfl, News.of_sub N fun q hq => ?_, .head _, fun q hq => .tail _ hq, ?_, ?_, ?_⟩
  · simp only [tes, ters, TE2.ob, List.map_cons, List.map_nil, List.cons_append, List.nil_append, List.mem_cons] at hq ⊢
    rcases hq with h | h | h | h | h | h <;> simp [h]
  all_goals
    intro p hp
    simp only [tes, ters, TE2.ob, List.map_cons, List.map_nil, List.cons_append, List.nil_append, List.mem_cons] at hp
  · rcases hp with h | h | h | h | h
    · rw [h]; exact Nat.ne_of_lt (h1 _ (.head _))
    · rw [h]; exact Nat.ne_of_lt (h1 (kd, ok) (.tail _ (.head _)))
    · rw [h]; exact Nat.ne_of_lt (h1 (D, od) (.tail _ (.tail _ (.head _))))
    · rw [h]; exact (hx (wl, _) (.head _)).symm
    · exact Nat.ne_of_lt (h1 p (.tail _ (.tail _ (.tail _ h))))
  · rcases hp with h | h | h | h | h
    · rw [h]; exact (Nat.ne_of_lt (h1 (kd, ok) (.tail _ (.head _)))).symm
    · rw [h]; exact h3 (D, od) (.head _)
    · rw [h]; exact (Nat.ne_of_lt (h2 (kd, ok) (.head _))).symm
    · rw [h]; exact (hx (kd, ok) (.tail _ (.tail _ (.head _)))).symm
    · exact h3 p (.tail _ h)
  · rcases hp with h | h | h | h
    · rw [h]; exact (Nat.ne_of_lt (h1 (D, od) (.tail _ (.tail _ (.head _))))).symm
    · rw [h]; exact (Nat.ne_of_lt (h2 (D, od) (.tail _ (.head _)))).symm
    · rw [h]; exact (hx (D, od) (.tail _ (.tail _ (.tail _ (.head _))))).symm
    · exact h4 p h
theorem loop2_turn {g h : Heap} {L I wl t t2 kd D : Addr} {oI o2 ow' ok od : Obj} {x y : Str} {tx ty : Tok} {V : List TE2} {cw : Nat} {R2 : List (Addr × Obj)}
    (N : News g L h ((t, tupObj [.str x tx, .str y ty]) :: (t2, o2) :: (I, oI) :: (wl, listOf ((ters V).toArray.push (.ref t)) cw) :: (tes V ++ ((kd, ok) :: (D, od) :: R2))))
    (hl : @LT.lt Nat _ t2 t ∧ @LT.lt Nat _ I t ∧ @LT.lt Nat _ wl t ∧ AllLt t (tes V ++ ((kd, ok) :: (D, od) :: R2))) (ap : Off I ((wl, ow') :: (tes V ++ ((kd, ok) :: (D, od) :: R2)))) (hw1 : Off wl (tes V ++ ((kd, ok) :: (D, od) :: R2))) (hw2 : Off kd (tes V)) (hw3 : Off D (tes V)) :
    ∃ e : TE2, e.x = x ∧ e.y = y ∧ News g L h ((I, oI) :: (wl, listOf (ters (V ++ [e])).toArray cw) :: (tes (V ++ [e]) ++ ((kd, ok) :: (D, od) :: R2))) ∧ Off I ((wl, listOf (ters (V ++ [e])).toArray cw) :: (tes (V ++ [e]) ++ ((kd, ok) :: (D, od) :: R2))) ∧
      Off wl (tes (V ++ [e]) ++ ((kd, ok) :: (D, od) :: R2)) ∧ Off kd (tes (V ++ [e])) ∧ Off D (tes (V ++ [e])) := by
  (refine And.elim ?_ (hl); (try clear hl); intro hₜ1 hₜ2; rcases hₜ1 with _; (injection hₜ2 with hI hₜ3; (injection hₜ3 with hw hr)))
  have hr' := fun p hp => tb_ltOf hr p hp
  have hk : kd < t := hr' (kd, ok) (List.mem_append_right _ (.head _))
  have hD : D < t := hr' (D, od) (List.mem_append_right _ (.tail _ (.head _)))
  refine ⟨⟨t, x, tx, y, ty⟩, rfl, rfl, News.of_sub N fun q hq => ?_, fun p hp => ?_, fun p hp => ?_, fun p hp => ?_, fun p hp => ?_⟩
  · (replace hq := hq; rw [ters_snoc, tes_snoc] at hq)
    simp only [List.push_toArray, TE2.ob, List.mem_cons, List.mem_append, List.not_mem_nil, or_false] at hq ⊢
    rcases hq with h | h | (h | h) | h | h | h <;> simp [h]
  all_goals
    (replace hp := hp; rw [tes_snoc] at hp)
    simp only [TE2.ob, List.mem_cons, List.mem_append, List.not_mem_nil, or_false] at hp
  · rcases hp with h | (h | h) | h
    · rw [h]; exact ap (wl, ow') (.head _)
    · exact ap p (.tail _ (List.mem_append_left _ h))
    · rw [h]; exact (Nat.ne_of_lt hI).symm
    · exact ap p (.tail _ (List.mem_append_right _ (by simpa using h)))
  · rcases hp with (h | h) | h
    · exact hw1 p (List.mem_append_left _ h)
    · rw [h]; exact (Nat.ne_of_lt hw).symm
    · exact hw1 p (List.mem_append_right _ (by simpa using h))
  · rcases hp with h | h
    · exact hw2 p h
    · rw [h]; exact (Nat.ne_of_lt hk).symm
  · rcases hp with h | h
    · exact hw3 p h
    · rw [h]; exact (Nat.ne_of_lt hD).symm
/-- the ledger ahead of the third loop -/
theorem loop3 {g h : Heap} {L H wl kd D : Addr} {oh lw lw' od' ok od : Obj} {V V0 : List TE2} {R2 : List (Addr × Obj)} (N : News g L h ((H, oh) :: (wl, lw) :: (tes V ++ ((kd, ok) :: (D, od) :: R2))))
    (hH : Off H ((wl, lw) :: (tes V ++ ((kd, ok) :: (D, od) :: R2)))) (hw1 : Off wl (tes V ++ ((kd, ok) :: (D, od) :: R2))) (hw2 : Off kd (tes V)) (hw3 : Off D (tes V)) (ak : Off kd ((wl, lw') :: (D, od') :: (tes V0 ++ R2))) (ad : Off D ((wl, lw') :: (tes V0 ++ R2))) :
    ∃ R3, News g L h ((kd, ok) :: (D, od) :: (H, oh) :: R3) ∧ Off kd R3 ∧ Off D R3 ∧ Off H R3 ∧ @Ne Nat kd D ∧ @Ne Nat kd H ∧ @Ne Nat D H ∧ (wl, lw) ∈ R3 ∧ (∀ q ∈ tes V, q ∈ R3) ∧ ∀ q ∈ R2, q ∈ R3 := by
  refine ⟨(wl, lw) :: (tes V ++ R2), News.of_sub N fun q hq => ?_, fun p hp => ?_, fun p hp => ?_, fun p hp => ?_, (ak (D, od') (.tail _ (.head _))).symm, hH (kd, ok) (.tail _ (List.mem_append_right _ (.head _))), hH (D, od) (.tail _ (List.mem_append_right _ (.tail _ (.head _)))), .head _, fun q hq => .tail _ (List.mem_append_left _ hq), fun q hq => .tail _ (List.mem_append_right _ hq)⟩
  · simp only [List.mem_cons, List.mem_append] at hq ⊢
    rcases hq with h | h | h | h | h | h <;> simp [h]
  all_goals simp only [List.mem_cons, List.mem_append] at hp
  · rcases hp with h | h | h
    · rw [h]; exact ak (wl, lw') (.head _)
    · exact hw2 p h
    · exact ak p (.tail _ (.tail _ (List.mem_append_right _ h)))
  · rcases hp with h | h | h
    · rw [h]; exact ad (wl, lw') (.head _)
    · exact hw3 p h
    · exact ad p (.tail _ (List.mem_append_right _ h))
  · rcases hp with h | h | h
    · rw [h]; exact hH (wl, lw) (.head _)
    · exact hH p (.tail _ (List.mem_append_left _ h))
    · exact hH p (.tail _ (List.mem_append_right _ (.tail _ (.tail _ h))))
theorem loop3_add {g h : Heap} {L I H kd D t t1 t2 : Addr} {oI o1 o2 od oh : Obj} {x y : Str} {tx ty : Tok} {cg : Nat} {R4 : List (Addr × Obj)}
    (N : News g L h ((t, tupObj [.str x tx, .str y ty]) :: (t2, o2) :: (t1, o1) :: (I, oI) :: (kd, od) :: (D, listOf #[Value.ref t] cg) :: (H, oh) :: R4)) (hl : @LT.lt Nat _ t2 t ∧ @LT.lt Nat _ t1 t ∧ @LT.lt Nat _ I t ∧ @LT.lt Nat _ kd t ∧ @LT.lt Nat _ D t ∧ @LT.lt Nat _ H t ∧ AllLt t R4)
    (c1 : Off kd R4) (c2 : Off D R4) (c3 : Off H R4) (hI : Off I R4) :
    ∃ (e : TE2) (R : List (Addr × Obj)), e.x = x ∧ e.y = y ∧ News g L h ((I, oI) :: (kd, od) :: (D, listOf (ters [e]).toArray cg) :: (H, oh) :: R) ∧ Off kd R ∧ Off D R ∧ Off H R ∧ Off I R ∧ (∀ q ∈ tes [e], q ∈ R) ∧ ∀ q ∈ R4, q ∈ R := by
  (refine And.elim ?_ (hl); (try clear hl); intro hₜ1 hₜ2; rcases hₜ1 with _; (refine And.elim ?_ (hₜ2); (try clear hₜ2); intro hₜ3 hₜ4; rcases hₜ3 with _; (injection hₜ4 with h1 hₜ5; (injection hₜ5 with h2 hₜ6; (injection hₜ6 with h3 hₜ7; (injection hₜ7 with h4 hₜ8; rcases hₜ8 with _))))))
  refine ⟨⟨t, x, tx, y, ty⟩, (t, tupObj [.str x tx, .str y ty]) :: R4, rfl, rfl, News.of_sub N fun q hq => ?_, fun p hp => ?_, fun p hp => ?_, fun p hp => ?_, fun p hp => ?_, fun q hq => ?_, fun q hq => .tail _ hq⟩
  · simp only [ters, List.map_cons, List.map_nil, List.mem_cons] at hq ⊢
    rcases hq with h | h | h | h | h | h <;> simp [h]
  · rcases List.mem_cons.mp hp with h | h
    · rw [h]; exact (Nat.ne_of_lt h2).symm
    · exact c1 p h
  · rcases List.mem_cons.mp hp with h | h
    · rw [h]; exact (Nat.ne_of_lt h3).symm
    · exact c2 p h
  · rcases List.mem_cons.mp hp with h | h
    · rw [h]; exact (Nat.ne_of_lt h4).symm
    · exact c3 p h
  · rcases List.mem_cons.mp hp with h | h
    · rw [h]; exact (Nat.ne_of_lt h1).symm
    · exact hI p h
  · rw [List.mem_singleton.mp hq]; exact .head _
theorem tps_get {V : List TE2} {l : List Wt} {i : Nat} {e : TE2} (h : tps V = l.map fun v => (v.pf, v.uri)) (he : V[i]? = some e) : ∃ v, l[i]? = some v ∧ e.x = v.pf ∧ e.y = v.uri := by
  have h1 : (tps V)[i]? = some (e.x, e.y) := by simp [tps, he]
  (replace h1 := h1; rw [h, List.getElem?_map] at h1)
  cases q : l[i]? with
  | none => (replace h1 := h1; rw [q] at h1); cases h1
  | some v =>
    (replace h1 := h1; rw [q] at h1)
    (injection (Prod.mk.inj (Option.some.inj h1)) with a b)
    exact ⟨v, rfl, a.symm, b.symm⟩
theorem strs_snoc {vs : List Value} {ys : List Str} {x : Str} {t : Tok} (h : StrsAre vs ys) : StrsAre (vs ++ [.str x t]) (ys ++ [x]) := by
  induction h with
  | nil => exact .cons x t .nil
  | cons y u _ ih => exact .cons y u ih
theorem any_snoc {l : List Str} {x p : Str} {b : Bool} (h : l.any (· == p) = b) : (l ++ [x]).any (· == p) = (b || (x == p)) := by simp [h]
theorem dfold_take : ∀ {l : List Wt} {s : DS} {i : Nat} {st : DS} {v : Wt}, dfold s (l.take i) = some st → l[i]? = some v → dfold s (l.take (i + 1)) = dstep st v
  | [], _, _, _, _, _, h => by simp at h
  | a :: l, s, 0, st, v, h, hv => by
    have e : a = v := by simpa using hv
    have e2 : s = st := by simpa [dfold] using h
    subst e; subst e2
    show (dstep s a).bind (fun s' => dfold s' (l.take 0)) = _
    cases dstep s a <;> simp [dfold]
  | a :: l, s, i + 1, st, v, h, hv => by
    simp only [List.take_succ_cons, dfold] at h ⊢
    cases q : dstep s a with
    | none => (replace h := h; rw [q] at h); cases h
    | some s' => (replace h := h; rw [q] at h); exact dfold_take (l := l) h (by simpa using hv)
theorem dfold_bad : ∀ {l : List Wt} {s : DS} {i : Nat}, dfold s (l.take i) = none → dfold s l = none
  | [], s, i, h => by simp [dfold] at h
  | a :: l, s, 0, h => by simp [dfold] at h
  | a :: l, s, i + 1, h => by
    simp only [List.take_succ_cons, dfold] at h ⊢
    cases q : dstep s a with
    | none => rfl
    | some s' => (replace h := h; rw [q] at h); exact dfold_bad (l := l) h
section
variable {w : World} {A : Around} {h₀ : Heap} {L : Addr} {m : Str → Option Value} {env : Env}
/-- a list of pairs of texts, one for each place of a row -/
theorem comp_tups : ∀ {w : World} {A : Around} {h₀ : Heap} {L : Addr} {m : Str → Option Value} {env : Env} {scope : Scope} {cl : List (Str × Addr)} {x : Str} {elt : PySem.Expr} {done : Nat → Addr → List Value → Nat → List (Addr × Obj) → (Nat → List Value → List (Addr × Obj) → Prop) → Shared → Heap → Nat → Prop} {s₁ : Shared} {l c : Addr} {cs : List (Nat × Tok)} {fx fy : Nat → Str} {news : List (Addr × Obj)} (F : Fr h₀ L s₁.heap m) (N : News h₀ L s₁.heap news) (hm : (l, listOf (cs.map nv).toArray c) ∈ news) (hz : cs.length ≤ 1000) (turn : ∀ (v : Nat × Tok) C I D oC oI oD m₂ h tk news' E', v ∈ cs → Fr h₀ L h m → News h₀ L h ((C, oC) :: (I, oI) :: (D, oD) :: (news' ++ news)) → LCg.NsObj oC m₂ → m₂ x = some (nv v) →
      wpAny (model PG w) A (eval elt (compEnvC scope cl C env)) (fun y s₃ => ∃ h' tk' t tx ty, y = .ref t ∧ s₃ = { s₁ with heap := h', toks := tk' } ∧ Fr h₀ L h' m ∧ News h₀ L h' ((t, tupObj [.str (fx v.1) tx, .str (fy v.1) ty]) :: (C, oC) :: (I, oI) :: (D, oD) :: (news' ++ news)) ∧
        ∀ p ∈ ((C, oC) :: (I, oI) :: (D, oD) :: (news' ++ news) : List (Addr × Obj)), p.1 < t) E' { s₁ with heap := h, toks := tk }) (fin : ∀ J D F k h' tk, tps F = cs.map (fun v => (fx v.1, fy v.1)) → (∀ p ∈ tes F ++ news, p.1 ≠ D) → News h₀ L h' ((D, listOf (ters F).toArray k) :: (tes F ++ news)) → done cs.length D (ters F) k (tes F ++ news) J s₁ h' tk),
    CompAtL PG w A h₀ L m env scope cl x elt done (.ref l) s₁ := by
  have hEpsₑ : EpsOn 0 := ⟨True.intro⟩
  intros w A h₀ L m env scope cl x elt done s₁
  intros l c cs fx fy news
  intro F
  intro N
  intro hm
  intro hz
  intro turn
  intro fin
  refine ⟨l, cs.map nv, c, news, fun i ys news' => ∃ F, tps F = (cs.take i).map (fun v => (fx v.1, fy v.1)) ∧ ys = ters F ∧ news' = tes F ++ news, rfl, ?_, F, N, ?_, ?_, ?_, ?_⟩
  · rw [List.length_map, PySem.sizeLine_eq]; (k_extra "MY om")
  · ((intros i ys news'); (intro hₜ1; (injection hₜ1 with F hₜ1; (refine And.elim ?_ (hₜ1); (try clear hₜ1); intro hₜ2 hₜ3; rcases hₜ2 with _; (refine And.elim ?_ (hₜ3); (try clear hₜ3); intro hₜ4 hₜ5; rcases hₜ4 with _; rcases hₜ5 with rfl)))))
    exact .inl (List.mem_append_right _ hm)
  · exact ⟨[], rfl, rfl, rfl⟩
  · ((intros C I D i v ys news₁ h tk oC oI oD; intros m₂ E' blk; intro hv); (intro hₜ6; (injection hₜ6 with F hₜ1; (injection hₜ1 with hps hₜ2; (refine And.elim ?_ (hₜ2); (try clear hₜ2); intro hₜ3 hₜ4; rcases hₜ3 with rfl; rcases hₜ4 with rfl)))); intro ap F' N' hC hx)
    have hₜ7 : ∃ c', cs[i]? = some c' ∧ nv c' = v := by
      (replace hv := hv; rw [List.getElem?_map] at hv)
      cases hq : cs[i]? with
      | none => (replace hv := hv; rw [hq] at hv); cases hv
      | some c' => (replace hv := hv; rw [hq] at hv); exact ⟨c', rfl, Option.some.inj hv⟩
    (injection hₜ7 with c' hₜ1; (injection hₜ1 with hc' hₜ2; rcases hₜ2 with rfl))
    refine wpAny_mono (turn c' C I D oC oI oD m₂ h tk (tes F) E' (List.mem_of_getElem? hc') F' N' hC hx) ?_ fun _ _ e => e
    (intros y s₃)
    ((intro hₜ5; (injection hₜ5 with h' hₜ1; (injection hₜ1 with tk' hₜ2; (injection hₜ2 with t hₜ3; (injection hₜ3 with tx hₜ4; (injection hₜ4 with ty hₜ5; (refine And.elim ?_ (hₜ5); (try clear hₜ5); intro hₜ6 hₜ7; rcases hₜ6 with rfl; (refine And.elim ?_ (hₜ7); (try clear hₜ7); intro hₜ8 hₜ9; rcases hₜ8 with rfl; (injection hₜ9 with F'' hₜ10; (injection hₜ10 with N'' hlt)))))))))))
    refine ⟨h', tk', tes (F ++ [⟨t, fx c'.1, tx, fy c'.1, ty⟩]) ++ news, rfl, F'', News.of_sub N'' fun q hq => ?_, fun p hp => ?_, F ++ [⟨t, fx c'.1, tx, fy c'.1, ty⟩], ?_, by rw [ters_snoc], rfl⟩
    · (replace hq := hq; rw [tes_snoc] at hq)
      simp only [List.mem_cons, List.mem_append, List.not_mem_nil, or_false] at hq ⊢
      rcases hq with h | h | h | (h | h) | h
      · exact .inr (.inl h)
      · exact .inr (.inr (.inl h))
      · exact .inr (.inr (.inr (.inl h)))
      · exact .inr (.inr (.inr (.inr (.inl h))))
      · exact .inl h
      · exact .inr (.inr (.inr (.inr (.inr h))))
    · (replace hp := hp; rw [tes_snoc] at hp)
      simp only [List.mem_append, List.mem_singleton] at hp
      rcases hp with (h | h) | h
      · exact ap p (List.mem_append_left _ h)
      · rw [h]
        exact ⟨(Nat.ne_of_lt (hlt (C, oC) (.head _))).symm, (Nat.ne_of_lt (hlt (I, oI) (.tail _ (.head _)))).symm, (Nat.ne_of_lt (hlt (D, oD) (.tail _ (.tail _ (.head _))))).symm⟩
      · exact ap p (List.mem_append_right _ h)
    · rw [tps_snoc, hps, List.take_add_one, hc']; simp
  · ((intros D ys k news' h' tk; intro hD0 hne); (intro hₜ11; (injection hₜ11 with F hₜ1; (injection hₜ1 with hps hₜ2; (refine And.elim ?_ (hₜ2); (try clear hₜ2); intro hₜ3 hₜ4; rcases hₜ3 with rfl; rcases hₜ4 with rfl)))); intro hlen N')
    (replace hps := hps; rw [List.length_map, List.take_length] at hps)
    have := fin (fun i ys news' => ∃ F, tps F = (cs.take i).map (fun v => (fx v.1, fy v.1)) ∧ ys = ters F ∧ news' = tes F ++ news) D F k h' tk hps hne N'
    rw [List.length_map]
    exact this
/-- the first texts of a list of pairs -/
theorem comp_heads : ∀ {w : World} {A : Around} {h₀ : Heap} {L : Addr} {m : Str → Option Value} {env : Env} {scope : Scope} {cl : List (Str × Addr)} {x : Str} {elt : PySem.Expr} {done : Nat → Addr → List Value → Nat → List (Addr × Obj) → (Nat → List Value → List (Addr × Obj) → Prop) → Shared → Heap → Nat → Prop} {s₁ : Shared} {l c : Addr} {V : List TE2} {news : List (Addr × Obj)} (F : Fr h₀ L s₁.heap m) (N : News h₀ L s₁.heap news) (hm : (l, listOf (ters V).toArray c) ∈ news) (hz : V.length ≤ 1000) (turn : ∀ (e : TE2) C I D oC oI oD m₂ h tk E', e ∈ V → Fr h₀ L h m → News h₀ L h ((C, oC) :: (I, oI) :: (D, oD) :: news) → LCg.NsObj oC m₂ → m₂ x = some (.ref e.a) →
      wpAny (model PG w) A (eval elt (compEnvC scope cl C env)) (fun y s₃ => ∃ h' tk', y = .str e.x e.tx ∧ s₃ = { s₁ with heap := h', toks := tk' } ∧ Fr h₀ L h' m ∧ News h₀ L h' ((C, oC) :: (I, oI) :: (D, oD) :: news)) E' { s₁ with heap := h, toks := tk }) (fin : ∀ J D k h' tk, Off D news → News h₀ L h' ((D, listOf (V.map fun e => Value.str e.x e.tx).toArray k) :: news) → done V.length D (V.map fun e => Value.str e.x e.tx) k news J s₁ h' tk),
    CompAtL PG w A h₀ L m env scope cl x elt done (.ref l) s₁ := by
  have hEpsₑ : EpsOn 0 := ⟨True.intro⟩
  intros w A h₀ L m env scope cl x elt done s₁
  intros l c V news
  intro F
  intro N
  intro hm
  intro hz
  intro turn
  intro fin
  have hl : (ters V).length = V.length := by simp [ters]
  refine ⟨l, ters V, c, news, fun i ys news' => news' = news ∧ ys = (V.take i).map fun e => Value.str e.x e.tx, rfl, ?_, F, N, ?_, ⟨rfl, rfl⟩, ?_, ?_⟩
  · rw [hl, PySem.sizeLine_eq]; (k_extra "MY om")
  · ((intros i ys news'); (intro hₜ5; (refine And.elim ?_ (hₜ5); (try clear hₜ5); intro hₜ1 hₜ2; rcases hₜ1 with rfl; rcases hₜ2 with _)))
    exact .inl hm
  · ((intros C I D i v ys news₁ h tk oC oI oD; intros m₂ E' blk; intro hv); (intro hₜ3; (refine And.elim ?_ (hₜ3); (try clear hₜ3); intro hₜ1 hₜ2; rcases hₜ1 with rfl; rcases hₜ2 with rfl)); intro ap F' N' hC hx)
    (injection (ters_get hv) with e hₜ1; (injection hₜ1 with he hₜ2; rcases hₜ2 with rfl))
    refine wpAny_mono (turn e C I D oC oI oD m₂ h tk E' (List.mem_of_getElem? he) F' N' hC hx) ?_ fun _ _ e => e
    (intros y s₃)
    ((intro hₜ3; (injection hₜ3 with h' hₜ1; (injection hₜ1 with tk' hₜ2; (refine And.elim ?_ (hₜ2); (try clear hₜ2); intro hₜ3 hₜ4; rcases hₜ3 with rfl; (refine And.elim ?_ (hₜ4); (try clear hₜ4); intro hₜ5 hₜ6; rcases hₜ5 with rfl; (injection hₜ6 with F'' N'')))))))
    refine ⟨h', tk', _, rfl, F'', N'', ap, rfl, ?_⟩
    rw [List.take_add_one, he]; simp
  · ((intros D ys k news' h' tk; intro hD0 hne); (intro hₜ7; (refine And.elim ?_ (hₜ7); (try clear hₜ7); intro hₜ1 hₜ2; rcases hₜ1 with rfl; rcases hₜ2 with rfl)); intro hlen N')
    (replace N' := N'; rw [hl, List.take_length] at N' ⊢)
    exact fin _ D k h' tk hne N'
end
theorem strs_heads : ∀ V : List TE2, StrsAre (V.map fun e => Value.str e.x e.tx) (V.map (·.x))
  | [] => .nil
  | e :: V => .cons e.x e.tx (strs_heads V)
theorem in_held {w : World} {A : Around} {E : Value → Shared → Prop} {s : Shared} {l : Addr} {vs : List Value} {ys : List Str} {k : Str} {t : Tok} {b : Bool} {Q : Value → Shared → Prop} (hl : s.heap.IsList l vs.toArray) (hi : StrsAre vs ys) (hb : ys.any (· == k) = b)
    (h : Q (.bool b) s) : wpAny (model PG w) A (compareOp .In (.str k t) (.ref l)) Q E s := in_list_strs hl hi (by rw [hb]; exact h)
theorem item_pair {w : World} {A : Around} {E : Value → Shared → Prop} {s : Shared} {value slice : PySem.Expr} {h₀ : Heap} {L t : Addr} {news : List (Addr × Obj)} {x y : Value} {u : Tok} {Q : Value → Shared → Prop} (N : News h₀ L s.heap news) (ht : (t, tupObj [x, y]) ∈ news) (h : Q x s)
    (hs : subscripted slice false (.ref t) (.int 0 u) = operate [.ref t, .int 0 u] (getItem (.ref t) (.int 0 u)) := by with_unfolding_all rfl) : wpAny (model PG w) A (subscriptTail value slice (.ref t) (.int 0 u)) Q E s :=
  item_tupleT (l := [x, y]) (j := 0) ⟨_, (N _ ht).1, rfl, _, rfl⟩ (by decide) (by decide) (by rfl) rfl h hs
theorem ne_pair {w : World} {A : Around} {E : Value → Shared → Prop} {s : Shared} {h₀ : Heap} {L a b : Addr} {news : List (Addr × Obj)} {x1 y1 x2 y2 : Str} {t1 t2 t3 t4 : Tok} {Q : Value → Shared → Prop} (N : News h₀ L s.heap news)
    (ha : (a, tupObj [.str x1 t1, .str y1 t2]) ∈ news) (hb : (b, tupObj [.str x2 t3, .str y2 t4]) ∈ news) (h1 : PyData.strOk x1 = true) (h2 : PyData.strOk y1 = true) (h3 : PyData.strOk x2 = true) (h4 : PyData.strOk y2 = true) (hu : A.units + 64 < cLine)
    (h : Q (.bool (!(x1 == x2 && y1 == y2))) s) : wpAny (model PG w) A (compareOp .NotEq (.ref a) (.ref b)) Q E s := by
  have sh : ∀ x y : Str, PyData.strOk x = true → PyData.strOk y = true → PySem.SeqAt.shaped (.tuple [.str x, .str y]) = true := fun x y q1 q2 => by
    simp [PySem.SeqAt.shaped, PyData.canLay0, PyData.canLayAll0, q1, q2, PyData.depth, PyData.depthAll]
  refine ne_dataH (da := .tuple [.str x1, .str y1]) (db := .tuple [.str x2, .str y2]) (.tuple (N _ ha).1 rfl rfl (.cons (.str _ _) (.cons (.str _ _) .nil))) (.tuple (N _ hb).1 rfl rfl (.cons (.str _ _) (.cons (.str _ _) .nil))) (sh _ _ h1 h2) (sh _ _ h3 h4) hu ?_
  have e : PyData.eqv (.tuple [.str x1, .str y1]) (.tuple [.str x2, .str y2]) = (x1 == x2 && y1 == y2) := by simp [PyData.eqv, PyData.eqvAll]
  rw [e]; exact h
theorem ne_pair_xml {w : World} {A : Around} {E : Value → Shared → Prop} {s : Shared} {h₀ : Heap} {L a b : Addr} {news : List (Addr × Obj)} {t1 t2 t3 t4 : Tok} {Q : Value → Shared → Prop} (N : News h₀ L s.heap news)
    (ha : (a, tupObj [.str "xml" t1, .str "" t2]) ∈ news) (hb : (b, tupObj [.str "xml" t3, .str "" t4]) ∈ news) (hu : A.units + 64 < cLine)
    (h : Q (.bool false) s) : wpAny (model PG w) A (compareOp .NotEq (.ref a) (.ref b)) Q E s :=
  ne_pair N ha hb (by decide +kernel) (by decide +kernel) (by decide +kernel) (by decide +kernel) hu h
theorem ne_pair_p {w : World} {A : Around} {E : Value → Shared → Prop} {s : Shared} {h₀ : Heap} {L a b : Addr} {news : List (Addr × Obj)} {u : Str} {t1 t2 t3 t4 : Tok} {Q : Value → Shared → Prop} (N : News h₀ L s.heap news)
    (ha : (a, tupObj [.str "p" t1, .str u t2]) ∈ news) (hb : (b, tupObj [.str "xml" t3, .str "" t4]) ∈ news) (ho : PyData.strOk u = true) (hu : A.units + 64 < cLine)
    (h : Q (.bool true) s) : wpAny (model PG w) A (compareOp .NotEq (.ref a) (.ref b)) Q E s :=
  ne_pair N ha hb (by decide +kernel) ho (by decide +kernel) (by decide +kernel) hu h
theorem words_60 : True := by
  k_with "compareOp NotEq ref ref" => ((fail_if_success k_extra "OFF 60"); (k_dflt first | refine ne_pair_xml (by k_asm) (by k_extra "MY in") (by k_extra "MY in") (by (try dsimp only [ktrTop, Around.deeper]); (k_extra "MY om")) ?_ | refine ne_pair_p (by k_asm) (by k_extra "MY in") (by k_extra "MY in") (by assumption) (by (try dsimp only [ktrTop, Around.deeper]); (k_extra "MY om")) ?_))
  k_with "subscriptTail Name Constant ref int" => ((fail_if_success k_extra "OFF 60"); (k_dflt (refine' item_pair ?Nₘ ?mₘ ?_ ?sₘ; (case Nₘ => k_asm); (case mₘ => k_extra "MY in"); (case sₘ => with_unfolding_all rfl))))
  k_with "compareOp In str ref" => ((fail_if_success k_extra "OFF 60"); (k_dflt (refine' in_held ?lₘ ?iₘ ?bₘ ?_; (case lₘ => exact News.isList (by k_asm) (by k_extra "MY in")); (case iₘ => assumption); (case bₘ => assumption))))
  k_with "compareOp NotEq str str" => ((fail_if_success k_extra "OFF 62"); (k_dflt refine ne_str_same (by assumption) ?_))
  k_with "compareOp Eq str str" => ((fail_if_success k_extra "OFF 60"); (k_dflt refine eq_str_off (by assumption) ?_))
  k_with "exec Raise some none" => ((fail_if_success k_extra "OFF 60"); (k_here; k_dflt (refine Raise_exc rfl ?_)))
  k_with "call ref" => ((fail_if_success k_extra "OFF 60"); first | ((with_reducible show wpAny _ _ (call (Value.ref 108) _) _ _ _); k_dflt (refine' raise_of _ ?Bₘ ?Fₘ ?Xₘ ?Nₘ ?Tₘ ?kKₘ ?kdₘ ?kuₘ ?_; (case Bₘ => k_asm); (case Fₘ => k_asm); (case Xₘ => k_asm); (case Nₘ => k_asm); (case Tₘ => k_asm); (case kKₘ => exact rfl); (case kdₘ => ((try dsimp only [ktrTop, Around.deeper]); (k_extra "MY om"))); (case kuₘ => ((try dsimp only [ktrTop, Around.deeper]); (k_extra "MY om")))); (intro e9ₘ; intro T9ₘ; intros D9ₘ h9ₘ tk9ₘ; intro F9ₘ N9ₘ); refine halt_of ?_) | ((with_reducible show wpAny _ _ (call (Value.ref 431) _) _ _ _); k_dflt (refine' RSpec.use2 (name_of _ _ _ _ _ ?hkₘ) ?k1ₘ ?k2ₘ ?k3ₘ ?k4ₘ ?k5ₘ ?kKₘ ?kdₘ ?kuₘ ?kpₘ ?_; (case hkₘ => assumption); k_extra "MY rd"; k_extra "MY rp"; k_whole); (intros r9ₘ new9ₘ h9ₘ tk9ₘ; intro F9ₘ N9ₘ S9ₘ O9ₘ p9ₘ); ((injection p9ₘ with p9ₘ p9'ₘ); subst p9ₘ; subst p9'ₘ); simp only [List.nil_append] at N9ₘ; k_extra "MY use") | ((with_reducible show wpAny _ _ (call (Value.ref 452) _) _ _ _); k_dflt (refine' RSpec.use2 (value_of _ _ _ _ _ ?hkₘ) ?k1ₘ ?k2ₘ ?k3ₘ ?k4ₘ ?k5ₘ ?kKₘ ?kdₘ ?kuₘ ?kpₘ ?_; (case hkₘ => assumption); k_extra "MY rd"; k_extra "MY rp"; k_whole); (intros r9ₘ new9ₘ h9ₘ tk9ₘ; intro F9ₘ N9ₘ S9ₘ O9ₘ p9ₘ); ((injection p9ₘ with p9ₘ p9'ₘ); subst p9ₘ; subst p9'ₘ); simp only [List.nil_append] at N9ₘ; k_extra "MY use") | ((with_reducible show wpAny _ _ (call (Value.ref 438) _) _ _ _); k_dflt (refine' RSpec.use2 (uri_of _ _ _ _ _ ?hkₘ) ?k1ₘ ?k2ₘ ?k3ₘ ?k4ₘ ?k5ₘ ?kKₘ ?kdₘ ?kuₘ ?kpₘ ?_; (case hkₘ => assumption); k_extra "MY rd"; k_extra "MY rp"; k_whole); (intros r9ₘ new9ₘ h9ₘ tk9ₘ; intro F9ₘ N9ₘ S9ₘ O9ₘ p9ₘ); ((injection p9ₘ with p9ₘ p9'ₘ); subst p9ₘ; subst p9'ₘ); simp only [List.nil_append] at N9ₘ; k_extra "MY use") | (k_dflt ((with_reducible show wpAny _ _ (call (Value.ref 473) _) _ _ _); k_dflt (refine' RSpec.use2 (attributes_of _ _ _ _ _ ?hkₘ) ?k1ₘ ?k2ₘ ?k3ₘ ?k4ₘ ?k5ₘ ?kKₘ ?kdₘ ?kuₘ ?kpₘ ?_; (case hkₘ => assumption); k_extra "MY rd"; k_extra "MY rp"; k_whole); (intros r9ₘ new9ₘ h9ₘ tk9ₘ; intro F9ₘ N9ₘ S9ₘ O9ₘ p9ₘ); ((injection p9ₘ with x9ₘ hₜ1; (injection hₜ1 with e9ₘ hₜ2; (injection hₜ2 with p9ₘ p9'ₘ))); subst p9ₘ; subst p9'ₘ); simp only [List.cons_append, List.nil_append] at N9ₘ; ((have l9ₘ := allNe_of (O9ₘ.2 _ (.head _))); replace O9ₘ := O9ₘ.1; (try simp only [AllNe, and_true] at l9ₘ)); k_extra "MY use")) | (k_dflt ((with_reducible show wpAny _ _ (call (Value.ref 480) _) _ _ _); k_dflt (refine' RSpec.use2 (namespaces_of _ _ _ _ _ ?hkₘ) ?k1ₘ ?k2ₘ ?k3ₘ ?k4ₘ ?k5ₘ ?kKₘ ?kdₘ ?kuₘ ?kpₘ ?_; (case hkₘ => assumption); k_extra "MY rd"; k_extra "MY rp"; k_whole); (intros r9ₘ new9ₘ h9ₘ tk9ₘ; intro F9ₘ N9ₘ S9ₘ O9ₘ p9ₘ); ((injection p9ₘ with x9ₘ hₜ1; (injection hₜ1 with e9ₘ hₜ2; (injection hₜ2 with p9ₘ p9'ₘ))); subst p9ₘ; subst p9'ₘ); simp only [List.cons_append, List.nil_append] at N9ₘ; ((have l9ₘ := allNe_of (O9ₘ.2 _ (.head _))); replace O9ₘ := O9ₘ.1; (try simp only [AllNe, and_true] at l9ₘ)); k_extra "MY use")) | (k_dflt ((with_reducible show wpAny _ _ (call (Value.ref 539) _) _ _ _); k_dflt (refine' RSpec.use2 (pfx_use ?hkₘ _) ?k1ₘ ?k2ₘ ?k3ₘ ?k4ₘ ?k5ₘ ?kKₘ ?kdₘ ?kuₘ ?kpₘ ?_; (case hkₘ => assumption); k_extra "MY rd"; (case kpₘ => exact trivial); k_whole); (intros r9ₘ new9ₘ h9ₘ tk9ₘ; intro F9ₘ N9ₘ S9ₘ O9ₘ p9ₘ); ((injection p9ₘ with t9ₘ p9ₘ); subst p9ₘ); replace N9ₘ := News.of_sub N9ₘ (fun q hq => List.mem_append_right _ hq); k_extra "MY use")))
  trivial
set_option maxRecDepth 100000 in
set_option maxHeartbeats 8000000 in
theorem declared_of : ∀ (w : World) (T : PT) (k : Nat) (tk : Tok) (n : NR) (sc : Addr) (oS : Obj) (c own : Option Str) (K : Nat → Wt) (WW : Wants w T k n own K) (hlo : (sc == sysModules) = false) (hS : SO w c oS),
    ESpec w 565 10 [.ref T.b.t, .int (k : Int) tk, .ref sc] (fun h => T.At w.params h ∧ h.get? sc = some oS)
      (fun _ r new => ∃ st x e F, dfold (dstart own c) (K k :: n.at'.map (K ·.1)) = some st ∧ r = .ref x ∧ tps F = ownL st.2.2 ∧ (x, listOf (ters F).toArray e) ∈ new ∧ ∀ q ∈ tes F, q ∈ new)
      (dfold (dstart own c) (K k :: n.at'.map (K ·.1)) = none) := by
  have hEpsₑ : EpsOn 0 := ⟨True.intro⟩
  intros w T k tk n sc oS c
  intros own K
  intro WW
  intro hlo
  intro hS
  (intros dp un gd cn cs a ccd cl outer A₀ base h₀ L m news s p loose mean mg mb Q E; intro B F X N Tp hk9 hd hu pre ret bad)
  (injection pre with hAt hsc)
  have hT := hAt.2.1
  have hk := WW.hk
  have hp0 := WW.p0
  k_extra "MY readerC"
  (intros L' h' tk' cells; intro F' N' Y B' X' T' lv)
  refine cells1 Y ?_; clear Y; intro oc; refine fun hEₖ d1 => ?_; subst hEₖ
  replace d1 : Obj.data oc = Data.cell (some (.ref T.b.t)) := d1
  try dsimp only
  try k_fold
  k_steps
  unfold Halt
  refine Assign_ListComp_J F' (by with_unfolding_all rfl) rfl rfl rfl (by decide) rfl (by decide) rfl rfl rfl ?_
  k_steps
  rename (Fr _ _ _ _) => F4
  rename (News _ _ _ _) => N4
  refine comp_tups (cs := n.ns) (fx := fun _ => "p") (fy := fun _ => own.getD "") F4 N4 (.head _) (by have := hAt.2.2 n (List.mem_of_getElem? hk); (k_extra "MY om")) ?_ ?_
  · clear F4 N4
    ((first | (refine prodI ?_; intro v; intro tv) | (intro hₜ1; (injection hₜ1 with v tv))); (intros C I D oC oI oD m2 h4; intros tk4 newsx E'; intro hv F5 N5 hC hx))
    have hₜ3 : ∃ nn, T.ns[v]? = some nn ∧ nn.name = "p" ∧ nn.value = own.getD "" := by
      ((rcases WW.ns with hᵤ1 | hᵤ2) <;> (first | ((fail_if_success (fail_if_success clear hᵤ1)); (injection hᵤ1 with h0 hₜ1; rcases hₜ1 with _)) | ((fail_if_success (fail_if_success clear hᵤ2)); (injection hᵤ2 with d hₜ1; (injection hₜ1 with nn hₜ2; (injection hₜ2 with o hₜ3; (injection hₜ3 with h1 hₜ4; (injection hₜ4 with h2 hₜ5; (injection hₜ5 with h3 hₜ6; (injection hₜ6 with h4 h5))))))))))
      · (replace hv := hv; rw [h0] at hv); cases hv
      · (replace hv := hv; rw [h1] at hv); obtain rfl := List.mem_singleton.mp hv
        exact ⟨nn, h2, h3, by rw [h5, h4]; rfl⟩
    (injection hₜ3 with nn hₜ1; (injection hₜ1 with hnn hₜ2; (injection hₜ2 with hnm hvl)))
    simp only [nv] at hx
    k_steps
    all_goals first
      | assumption
      | (rename (News _ _ _ _) => N9; (replace N9 := N9; rw [hnm, hvl] at N9); exact N9)
      | ((rename _ ∈ (_ :: _) => hp9); exact tb_ltOf (by assumption) _ hp9)
  · clear F4 N4
    (intros J D; intro F; intros k4 h4 tk4; intro hps hne N5 F5)
    have hFl : (ters F).length ≤ 1 := by
      rw [tps_len hps, List.length_map]
      ((rcases WW.ns with hᵤ3 | hᵤ4) <;> (first | ((fail_if_success (fail_if_success clear hᵤ3)); (injection hᵤ3 with h0 hₜ1; rcases hₜ1 with _)) | ((fail_if_success (fail_if_success clear hᵤ4)); (injection hᵤ4 with d hₜ1; (injection hₜ1 with nn hₜ2; (injection hₜ2 with o hₜ3; (injection hₜ3 with h1 hₜ4; rcases hₜ4 with _)))))))
      · rw [h0]; exact Nat.zero_le _
      · rw [h1]; exact Nat.le_refl _
    have hF1 : ∀ e ∈ F, e.x = "p" ∧ own = some e.y := by
      intro e he
      have h1 : (e.x, e.y) ∈ tps F := List.mem_map_of_mem (f := fun e : TE2 => (e.x, e.y)) he
      (replace h1 := h1; rw [hps] at h1)
      (injection (List.mem_map.mp h1) with d hₜ1; (injection hₜ1 with hd9 e1))
      ((rcases WW.ns with hᵤ5 | hᵤ6) <;> (first | ((fail_if_success (fail_if_success clear hᵤ5)); (injection hᵤ5 with h0 hₜ1; rcases hₜ1 with _)) | ((fail_if_success (fail_if_success clear hᵤ6)); (injection hᵤ6 with d hₜ1; (injection hₜ1 with nn hₜ2; (injection hₜ2 with o hₜ3; (injection hₜ3 with h2 hₜ4; (injection hₜ4 with h3 hₜ5; (injection hₜ5 with h4 hₜ6; (injection hₜ6 with h5 h6))))))))))
      · (replace hd9 := hd9; rw [h0] at hd9); cases hd9
      · (replace e1 := e1; rw [h6] at e1)
        (injection (Prod.mk.inj e1) with e1 e2)
        exact ⟨e1.symm, by rw [h6, ← e2]; rfl⟩
    have hF0 : F = [] → own = none := by
      (intro hₜ1; subst hₜ1)
      ((rcases WW.ns with hᵤ7 | hᵤ8) <;> (first | ((fail_if_success (fail_if_success clear hᵤ7)); (refine And.elim ?_ (hᵤ7); (try clear hᵤ7); intro hₜ1 h0; rcases hₜ1 with _)) | ((fail_if_success (fail_if_success clear hᵤ8)); (injection hᵤ8 with d hₜ1; (injection hₜ1 with nn hₜ2; (injection hₜ2 with o hₜ3; (injection hₜ3 with h2 hₜ4; (injection hₜ4 with h3 hₜ5; (injection hₜ5 with h4 hₜ6; (injection hₜ6 with h5 h6))))))))))
      · exact h0
      · (replace hps := hps; rw [h2] at hps); cases hps
    k_steps
    unfold Halt
    rename (Fr _ _ _ _) => F6
    rename (News _ _ _ _) => N6
    (injection (exists_D N6) with kd hkd)
    subst hkd
    have hkd : ∀ p ∈ (D, listOf (ters F).toArray k4) :: (tes F ++ _), p.1 ≠ kd := fun p hp => Nat.ne_of_lt (tb_ltOf (by assumption) p hp)
    (injection (exists_O N6) with o0 ho0)
    subst ho0
    refine for_listT (vs := ters F) (fun i m' news' => (∃ u, m' = mix [Str.ofString "prefix", Str.ofString "uri"] u _) ∧ ∃ o1, news' = (kd, o1) :: (D, listOf (ters F).toArray k4) :: (tes F ++ _) ∧ SO w (if i = 0 then c else ownC own c) o1) (by exact rfl) F6 N6 (fun i l news' h => .inl (by obtain ⟨_, o1, rfl, _⟩ := h; exact .tail _ (.head _))) ⟨⟨_, mix_self.symm⟩, _, rfl, by assumption⟩ ?_ ?_
    · clear F6 N6
      ((intros i v m₁ news₁ h tk9 I oI; intro hv); (intro hₜ1; (refine And.elim ?_ (hₜ1); (try clear hₜ1); intro hₜ1 hₜ2; (injection hₜ1 with u hₜ3; rcases hₜ3 with rfl); (injection hₜ2 with o1 hₜ4; (refine And.elim ?_ (hₜ4); (try clear hₜ4); intro hₜ5 S1; rcases hₜ5 with rfl)))); intro ap F7 N7)
      (injection (ters_get hv) with e hₜ1; (injection hₜ1 with he hₜ2; rcases hₜ2 with rfl))
      have hi0 : i = 0 := by (injection (List.getElem?_eq_some_iff.mp hv) with hlt hₜ1; rcases hₜ1 with _); (k_extra "MY om")
      (injection (hF1 e (List.mem_of_getElem? he)) with hx1 hx2)
      have hmem := tes_mem (List.mem_of_getElem? he)
      (replace hmem := hmem; rw [hx1] at hmem)
      have hIk : @Ne Nat kd I := ap _ (.head _)
      (replace S1 := S1; rw [if_pos hi0] at S1)
      k_steps
      rename (Fr _ _ _ _) => F8
      rename (News _ _ _ _) => N8
      refine TurnQ.intro F8 N8 (fun p hp => ?_) ?_
      · cases hp with
        | head => exact hIk
        | tail _ h => exact ap _ (.tail _ h)
      · refine ⟨⟨_, mix_two rfl rfl⟩, _, rfl, ?_⟩
        rw [if_neg (by (k_extra "MY om")), hx2]; assumption
    · clear F6 N6
      ((intros m₁ news₁ h tk9); (intro hₜ1; (refine And.elim ?_ (hₜ1); (try clear hₜ1); intro hₜ1 hₜ2; (injection hₜ1 with u hₜ3; rcases hₜ3 with rfl); (injection hₜ2 with o1 hₜ4; (refine And.elim ?_ (hₜ4); (try clear hₜ4); intro hₜ5 S1; rcases hₜ5 with rfl)))); intro F7 N7)
      have S2 : SO w (ownC own c) o1 := by
        by_cases q : (ters F).length = 0
        · (replace S1 := S1; rw [if_pos q] at S1)
          rw [hF0 (by simpa [ters] using q)]; exact S1
        · (replace S1 := S1; rw [if_neg q] at S1); exact S1
      clear S1
      k_steps
      unfold Halt
      rename (Fr _ _ _ _) => F8
      rename (News _ _ _ _) => N8
      (injection (loop2 N8 (fun p hp => ne_all (by assumption) p hp) (fun p hp => tb_ltOf (by assumption) p hp) (fun p hp => tb_ltOf (by assumption) p hp) hkd hne) with R2 hₜ1; (injection hₜ1 with xa hₜ2; (injection hₜ2 with wl hₜ3; (injection hₜ3 with e0 hₜ4; (injection hₜ4 with hxa0 hₜ5; (injection hₜ5 with hwl0 hₜ6; (injection hₜ6 with he1 hₜ7; (injection hₜ7 with he2 hₜ8; (injection hₜ8 with he3 hₜ9; (injection hₜ9 with N9 hₜ10; (injection hₜ10 with hxa hₜ11; (injection hₜ11 with hR2 hₜ12; (injection hₜ12 with ap9 hₜ13; (injection hₜ13 with ak9 ad9))))))))))))))
      subst hxa0
      subst hwl0
      have hRF : ∀ q ∈ tes F, q ∈ R2 := fun q hq => hR2 _ (List.mem_append_left _ hq)
      have hcl : (L' + 1, oc) ∈ R2 := hR2 _ (List.mem_append_right _ (.tail _ (.head _)))
      clear N8 hkd hne hR2
      refine for_list (vs := n.at'.map nv) (fun i m' news' => (∃ u, m' = mix [Str.ofString "node", Str.ofString "prefix", Str.ofString "uri"] u _) ∧ ∃ V cw, tps V = (K k :: (n.at'.take i).map (fun d => K d.1)).map (fun v => (v.pf, v.uri)) ∧
        news' = (wl, listOf (ters V).toArray cw) :: (tes V ++ ((kd, o1) :: (D, listOf (ters F).toArray k4) :: R2)) ∧ Off wl (tes V ++ ((kd, o1) :: (D, listOf (ters F).toArray k4) :: R2)) ∧ Off kd (tes V) ∧ Off D (tes V)) (by exact rfl) F8 N9
        (fun i l news' h => .inl (by obtain ⟨_, V, cw, _, rfl, _⟩ := h; exact .tail _ (List.mem_append_right _ (.tail _ (.tail _ hxa))))) ⟨⟨_, mix_self.symm⟩, [e0], 0, ?_, rfl, ap9, fun p hp => ak9 p (.tail _ (.tail _ (List.mem_append_left _ hp))), fun p hp => ad9 p (.tail _ (List.mem_append_left _ hp))⟩ ?_ ?_
      · simp only [tps, List.map_cons, List.map_nil, List.take_zero, he2, he3]
        rw [WW.u0]
      · clear F8 N9
        ((intros i v m₁ news₁ h tk9 I oI; intro hv); (intro hₜ14; (refine And.elim ?_ (hₜ14); (try clear hₜ14); intro hₜ1 hₜ2; (injection hₜ1 with u2 hₜ3; rcases hₜ3 with rfl); (injection hₜ2 with V hₜ4; (injection hₜ4 with cw hₜ5; (injection hₜ5 with hV hₜ6; (refine And.elim ?_ (hₜ6); (try clear hₜ6); intro hₜ7 hₜ8; rcases hₜ7 with rfl; (injection hₜ8 with hw1 hₜ9; (injection hₜ9 with hw2 hw3)))))))); intro ap F10 N10)
        have hₜ3 : ∃ d, n.at'[i]? = some d ∧ nv d = v := by
          (replace hv := hv; rw [List.getElem?_map] at hv)
          cases hq : n.at'[i]? with
          | none => (replace hv := hv; rw [hq] at hv); cases hv
          | some d => (replace hv := hv; rw [hq] at hv); exact ⟨d, rfl, Option.some.inj hv⟩
        (refine Exists.elim (hₜ3) ?_; (try clear hₜ3); refine prodI ?_; intro d; intro td; intro hₜ2; (injection hₜ2 with hdq hₜ4; rcases hₜ4 with rfl))
        (injection (WW.at_ _ (List.mem_of_getElem? hdq)) with na hₜ1; (injection hₜ1 with hna hₜ2; (injection hₜ2 with hpa hₜ3; (injection hₜ3 with hua hKn))))
        dsimp only at hna hpa hua hKn
        have hpn : (K d).pf ≠ "" := by
          revert hKn
          cases K d with
          | no => intro h; exact absurd rfl h
          | pre u => intro _; exact (by decide : (Str.ofString "p") ≠ Str.ofString "")
          | xml => intro _; decide
        have hVl : (ters V).length ≤ 6 := by
          rw [tps_len hV]
          simp only [List.length_map, List.length_cons, List.length_take]
          have := WW.al
          (k_extra "MY om")
        have hIw : @Ne Nat wl I := ap _ (.head _)
        have hI2 := fun p hp => ap p (.tail _ hp)
        simp only [nv] at F10
        k_steps
        rename (Fr _ _ _ _) => F11
        rename (News _ _ _ _) => N11
        (injection (loop2_turn N11 (by assumption) ap hw1 hw2 hw3) with e hₜ1; (injection hₜ1 with hex hₜ2; (injection hₜ2 with hey hₜ3; (injection hₜ3 with N12 hₜ4; (injection hₜ4 with ap12 hₜ5; (injection hₜ5 with q1 hₜ6; (injection hₜ6 with q2 q3)))))))
        refine TurnQ.intro F11 N12 ap12 ?_
        refine ⟨⟨_, mix_three rfl rfl rfl⟩, V ++ [e], _, ?_, rfl, q1, q2, q3⟩
        rw [tps_snoc, hV, hex, hey, List.take_add_one, hdq]
        simp [hua]
      · ((intros m₁ news₁ h tk9); (intro hₜ7; (refine And.elim ?_ (hₜ7); (try clear hₜ7); intro hₜ1 hₜ2; (injection hₜ1 with u2 hₜ3; rcases hₜ3 with rfl); (injection hₜ2 with V hₜ4; (injection hₜ4 with cw hₜ5; (injection hₜ5 with hV hₜ6; (refine And.elim ?_ (hₜ6); (try clear hₜ6); intro hₜ7 hₜ8; rcases hₜ7 with rfl; (injection hₜ8 with hw1 hₜ9; (injection hₜ9 with hw2 hw3)))))))); intro F10 N10)
        (replace hV := hV; rw [List.length_map, List.take_length] at hV)
        k_steps
        unfold Halt
        rename (Fr _ _ _ _) => F11
        have hFz : F.length ≤ 1000 := by
          have : (ters F).length = F.length := by simp [ters]
          (k_extra "MY om")
        refine Assign_ListComp_J F11 (by with_unfolding_all rfl) rfl rfl rfl (by decide) rfl (by decide) rfl rfl rfl ?_
        k_steps
        rename (Fr _ _ _ _) => F12
        rename (News _ _ _ _) => N12
        refine comp_heads (V := F) F12 N12 (.tail _ (List.mem_append_right _ (.tail _ (.head _)))) hFz ?_ ?_
        · clear F12 N12
          (intros e C I H oC oI oH m2; intros h4 tk4 E'; intro he F5 N5 hC hx)
          have hmem := hRF _ (tes_mem he)
          k_steps
          all_goals assumption
        · clear F12 N12
          (intros J H k5 h5 tk5; intro hH N5 F5)
          k_steps
          unfold Halt
          rename (Fr _ _ _ _) => F13
          rename (News _ _ _ _) => N13
          (injection (loop3 N13 hH hw1 hw2 hw3 ak9 ad9) with R3 hₜ1; (injection hₜ1 with N14 hₜ2; (injection hₜ2 with b1 hₜ3; (injection hₜ3 with b2 hₜ4; (injection hₜ4 with b3 hₜ5; (injection hₜ5 with b4 hₜ6; (injection hₜ6 with b5 hₜ7; (injection hₜ7 with b6 hₜ8; (injection hₜ8 with hwR hₜ9; (injection hₜ9 with hVR hR3))))))))))
          have hcl3 := hR3 _ hcl
          refine for_listT (vs := ters V) (fun i m' news' => (∃ u, m' = mix [Str.ofString "prefix", Str.ofString "uri"] u _) ∧ ∃ st od G cg hs hl ch R4, dfold (dstart own c) ((K k :: n.at'.map (fun d => K d.1)).take i) = some st ∧ SO w st.1 od ∧ tps G = ownL st.2.2 ∧ StrsAre hs hl ∧ hl.any (· == Str.ofString "p") = st.2.1 ∧ hs.length ≤ i + 1 ∧ (st.2.1 = false → st.2.2 = none) ∧
            news' = (kd, od) :: (D, listOf (ters G).toArray cg) :: (H, listOf hs.toArray ch) :: R4 ∧ (∀ q ∈ tes G, q ∈ R4) ∧ (∀ q ∈ R3, q ∈ R4) ∧ Off kd R4 ∧ Off D R4 ∧ Off H R4) (by exact rfl) F13 N14
            (fun i l news' h => .inl (by obtain ⟨_, st, od, G, cg, hs, hl, ch, R4, _, _, _, _, _, _, _, rfl, _, h2, _⟩ := h; exact .tail _ (.tail _ (.tail _ (h2 _ hwR)))))
            ⟨⟨_, mix_self.symm⟩, dstart own c, o1, F, k4, _, _, k5, R3, rfl, S2, ?_, strs_heads F, ?_, ?_, ?_, rfl, fun q hq => hR3 _ (hRF q hq), fun q hq => hq, b1, b2, b3⟩ ?_ ?_
          · rw [hps]
            ((rcases WW.ns with hᵤ9 | hᵤ10) <;> (first | ((fail_if_success (fail_if_success clear hᵤ9)); (injection hᵤ9 with h0 h1)) | ((fail_if_success (fail_if_success clear hᵤ10)); (injection hᵤ10 with d hₜ1; (injection hₜ1 with nn hₜ2; (injection hₜ2 with o hₜ3; (injection hₜ3 with h1 hₜ4; (refine And.elim ?_ (hₜ4); (try clear hₜ4); intro hₜ5 hₜ6; rcases hₜ5 with _; (refine And.elim ?_ (hₜ6); (try clear hₜ6); intro hₜ7 hₜ8; rcases hₜ7 with _; (refine And.elim ?_ (hₜ8); (try clear hₜ8); intro hₜ9 h5; rcases hₜ9 with _))))))))))
            · rw [h0, h1]; rfl
            · rw [h1, h5]; rfl
          · cases F with
            | nil => rw [hF0 rfl]; rfl
            | cons e r =>
              (injection (hF1 e (.head _)) with q1 q2)
              rw [q2, List.map_cons, q1]; rfl
          · simpa [ters] using hFl
          · intro h; cases own with
            | none => rfl
            | some o => cases h
          · clear F13 N14 N13
            ((intros i v m₁ news₁ h tk9 I oI; intro hv); (intro hₜ1; (refine And.elim ?_ (hₜ1); (try clear hₜ1); intro hₜ1 hₜ2; (injection hₜ1 with u2 hₜ3; rcases hₜ3 with rfl); (injection hₜ2 with st hₜ4; (injection hₜ4 with od hₜ5; (injection hₜ5 with G hₜ6; (injection hₜ6 with cg hₜ7; (injection hₜ7 with hs hₜ8; (injection hₜ8 with hl hₜ9; (injection hₜ9 with ch hₜ10; (injection hₜ10 with R4 hₜ11; (injection hₜ11 with hst hₜ12; (injection hₜ12 with hSO hₜ13; (injection hₜ13 with hG hₜ14; (injection hₜ14 with hhs hₜ15; (injection hₜ15 with hany hₜ16; (injection hₜ16 with hlen hₜ17; (injection hₜ17 with hfn hₜ18; (refine And.elim ?_ (hₜ18); (try clear hₜ18); intro hₜ19 hₜ20; rcases hₜ19 with rfl; (injection hₜ20 with hGR hₜ21; (injection hₜ21 with hRR hₜ22; (injection hₜ22 with c1 hₜ23; (injection hₜ23 with c2 c3)))))))))))))))))))))); intro ap F14 N15)
            (injection (ters_get hv) with e hₜ1; (injection hₜ1 with he hₜ2; rcases hₜ2 with rfl))
            (injection (tps_get hV he) with kv hₜ1; (injection hₜ1 with hkv hₜ2; (injection hₜ2 with hx hy)))
            have hstep := dfold_take hst hkv
            have hmem := hRR _ (hVR _ (tes_mem (List.mem_of_getElem? he)))
            (replace hmem := hmem; rw [hx, hy] at hmem)
            have hi6 : i ≤ 5 := by
              (injection (List.getElem?_eq_some_iff.mp hkv) with q hₜ1; rcases hₜ1 with _)
              simp only [List.length_cons, List.length_map] at q
              have := WW.al
              (k_extra "MY om")
            have hIk : @Ne Nat kd I := ap _ (.head _)
            have hID : @Ne Nat D I := ap _ (.tail _ (.head _))
            have hIH : @Ne Nat H I := ap _ (.tail _ (.tail _ (.head _)))
            have hIR : Off I R4 := fun p hp => ap p (.tail _ (.tail _ (.tail _ hp)))
            clear hS
            ((rcases wtE kv with hᵤ11 | hᵤ12 | hᵤ13) <;> (first | ((fail_if_success (fail_if_success clear hᵤ11)); subst hᵤ11) | ((fail_if_success (fail_if_success clear hᵤ12)); subst hᵤ12) | ((fail_if_success (fail_if_success clear hᵤ13)); (injection hᵤ13 with u hₜ1; rcases hₜ1 with rfl))))
            · skip
              simp only [Wt.pf, Wt.uri] at hmem
              k_steps
              rename (Fr _ _ _ _) => F15
              rename (News _ _ _ _) => N16
              try simp only [List.push_toArray] at N16
              refine TurnQ.intro F15 (News.of_sub N16 fun q hq => hq) (fun p hp => ?_) ?_
              · rcases List.mem_cons.mp hp with h | hp
                · rw [h]; exact hIk
                rcases List.mem_cons.mp hp with h | hp
                · rw [h]; exact hID
                rcases List.mem_cons.mp hp with h | hp
                · rw [h]; exact hIH
                exact hIR p hp
              · refine ⟨⟨_, mix_two rfl rfl⟩, st, _, G, _, _, _, _, R4, hstep.trans ?_, by assumption, hG, strs_snoc hhs, (any_snoc hany).trans ?_, by simp only [List.length_append, List.length_cons, List.length_nil]; (k_extra "MY om"), ?_, rfl, hGR, hRR, c1, c2, c3⟩
                · rfl
                · cases st.2.1 <;> rfl
                · exact hfn
            · skip
              simp only [Wt.pf, Wt.uri] at hmem
              k_steps
              rename (Fr _ _ _ _) => F15
              rename (News _ _ _ _) => N16
              try simp only [List.push_toArray] at N16
              refine TurnQ.intro F15 (News.of_sub N16 fun q hq => .tail _ (.tail _ hq)) (fun p hp => ?_) ?_
              · rcases List.mem_cons.mp hp with h | hp
                · rw [h]; exact hIk
                rcases List.mem_cons.mp hp with h | hp
                · rw [h]; exact hID
                rcases List.mem_cons.mp hp with h | hp
                · rw [h]; exact hIH
                exact hIR p hp
              · refine ⟨⟨_, mix_two rfl rfl⟩, st, _, G, _, _, _, _, R4, hstep.trans ?_, by assumption, hG, strs_snoc hhs, (any_snoc hany).trans ?_, by simp only [List.length_append, List.length_cons, List.length_nil]; (k_extra "MY om"), ?_, rfl, hGR, hRR, c1, c2, c3⟩
                · rfl
                · cases st.2.1 <;> rfl
                · exact hfn
            · skip
              have hₜ6 : u ≠ "" ∧ PyData.strOk u = true := by
                have q := List.mem_of_getElem? hkv
                rcases List.mem_cons.mp q with q | q
                · exact WW.ne _ _ q.symm
                · (injection (List.mem_map.mp q) with d hₜ1; (refine And.elim ?_ (hₜ1); (try clear hₜ1); intro hₜ2 q; rcases hₜ2 with _))
                  exact WW.ne _ _ q
              (injection hₜ6 with hu0 huo)
              simp only [Wt.pf, Wt.uri] at hmem
              by_cases hcu : st.1 = some u
              · have hcu' : st.1.getD "" = u := by rw [hcu]; rfl
                k_steps
                rename (Fr _ _ _ _) => F15
                rename (News _ _ _ _) => N16
                try simp only [List.push_toArray] at N16
                refine TurnQ.intro F15 (News.of_sub N16 fun q hq => hq) (fun p hp => ?_) ?_
                · rcases List.mem_cons.mp hp with h | hp
                  · rw [h]; exact hIk
                  rcases List.mem_cons.mp hp with h | hp
                  · rw [h]; exact hID
                  rcases List.mem_cons.mp hp with h | hp
                  · rw [h]; exact hIH
                  exact hIR p hp
                · refine ⟨⟨_, mix_two rfl rfl⟩, (st.1, true, st.2.2), _, G, _, _, _, _, R4, hstep.trans ?_, by assumption, hG, strs_snoc hhs, (any_snoc hany).trans ?_, by simp only [List.length_append, List.length_cons, List.length_nil]; (k_extra "MY om"), ?_, rfl, hGR, hRR, c1, c2, c3⟩
                  · show (if st.1 = some u then some (st.1, true, st.2.2) else if st.2.1 = true then none else some (some u, true, some u)) = _
                    rw [if_pos hcu]
                  · cases st.2.1 <;> rfl
                  · intro h; cases h
              · have hcu' : st.1.getD "" ≠ u := by
                  intro q
                  cases q1 : st.1 with
                  | none => (replace q := q; rw [q1] at q); exact hu0 q.symm
                  | some c9 => (replace q := q; replace hcu := hcu; rw [q1] at q hcu); exact hcu (by rw [← q]; rfl)
                cases hh : st.2.1 with
                | true =>
                  (replace hany := hany; rw [hh] at hany)
                  k_steps
                  unfold Halt
                  rename (Fr _ _ _ _) => F9
                  rename (News _ _ _ _) => N9
                  refine ⟨_, _, _, rfl, F9.keep _ _ (X' _ _ (by k_is)), (N9 _ (.head _)).1, ?_⟩
                  refine raise_leave B' F9 N9 rfl rfl fun h' R => bad _ _ _ ?_ R
                  refine dfold_bad (hstep.trans ?_)
                  show (if st.1 = some u then some (st.1, true, st.2.2) else if st.2.1 = true then none else some (some u, true, some u)) = _
                  rw [if_neg hcu, if_pos hh]
                | false =>
                  (replace hany := hany; rw [hh] at hany)
                  have hf0 := hfn hh
                  (replace hG := hG; rw [hf0] at hG)
                  obtain rfl : G = [] := List.map_eq_nil_iff.mp hG
                  have hz0 : (ters []).length = 0 := rfl
                  k_steps
                  rename (Fr _ _ _ _) => F15
                  rename (News _ _ _ _) => N16
                  try simp only [List.push_toArray] at N16
                  (injection (loop3_add N16 (by assumption) c1 c2 c3 hIR) with e9 hₜ1; (injection hₜ1 with R9 hₜ2; (injection hₜ2 with hex hₜ3; (injection hₜ3 with hey hₜ4; (injection hₜ4 with N17 hₜ5; (injection hₜ5 with g1 hₜ6; (injection hₜ6 with g2 hₜ7; (injection hₜ7 with g3 hₜ8; (injection hₜ8 with g4 hₜ9; (injection hₜ9 with hq1 hq2))))))))))
                  refine TurnQ.intro F15 N17 (fun p hp => ?_) ?_
                  · rcases List.mem_cons.mp hp with h | hp
                    · rw [h]; exact hIk
                    rcases List.mem_cons.mp hp with h | hp
                    · rw [h]; exact hID
                    rcases List.mem_cons.mp hp with h | hp
                    · rw [h]; exact hIH
                    exact g4 p hp
                  · refine ⟨⟨_, mix_two rfl rfl⟩, (some u, true, some u), _, [e9], _, _, _, _, R9, hstep.trans ?_, by assumption, ?_, strs_snoc hhs, (any_snoc hany).trans ?_, by simp only [List.length_append, List.length_cons, List.length_nil]; (k_extra "MY om"), ?_, rfl, hq1, fun q hq => hq2 q (hRR q hq), g1, g2, g3⟩
                    · show (if st.1 = some u then some (st.1, true, st.2.2) else if st.2.1 = true then none else some (some u, true, some u)) = _
                      rw [if_neg hcu, if_neg (by rw [hh]; decide)]
                    · simp only [tps, List.map_cons, List.map_nil, hex, hey]; rfl
                    · rfl
                    · intro h; cases h
          · ((intros m₁ news₁ h tk9); (intro hₜ10; (refine And.elim ?_ (hₜ10); (try clear hₜ10); intro hₜ1 hₜ2; (injection hₜ1 with u2 hₜ3; rcases hₜ3 with rfl); (injection hₜ2 with st hₜ4; (injection hₜ4 with od hₜ5; (injection hₜ5 with G hₜ6; (injection hₜ6 with cg hₜ7; (injection hₜ7 with hs hₜ8; (injection hₜ8 with hl hₜ9; (injection hₜ9 with ch hₜ10; (injection hₜ10 with R4 hₜ11; (injection hₜ11 with hst hₜ12; (injection hₜ12 with hSO hₜ13; (injection hₜ13 with hG hₜ14; (injection hₜ14 with hhs hₜ15; (injection hₜ15 with hany hₜ16; (injection hₜ16 with hlen hₜ17; (injection hₜ17 with hfn hₜ18; (refine And.elim ?_ (hₜ18); (try clear hₜ18); intro hₜ19 hₜ20; rcases hₜ19 with rfl; (injection hₜ20 with hGR hₜ21; (injection hₜ21 with hRR hₜ22; (injection hₜ22 with c1 hₜ23; (injection hₜ23 with c2 c3)))))))))))))))))))))); intro F14 N15)
            (replace hst := hst; rw [tps_len hV] at hst)
            (replace hst := hst; rw [List.take_of_length_le (by simp)] at hst)
            k_steps
            exact ret _ _ _ _ (by assumption) (by assumption) (by assumption) (by assumption) ⟨st, D, cg, G, hst, rfl, hG, .tail _ (.head _), fun q hq => .tail _ (.tail _ (.tail _ (hGR q hq)))⟩
set_option linter.unusedVariables false
theorem words_61 : True := by
  k_with "OFF 60" => (skip)
  k_with "exec While Compare cons nil" => ((fail_if_success k_extra "OFF 62"); refine halt_of ?_)
  k_with "MY readerC" => ((fail_if_success k_extra "OFF 62"); (refine wpAny_call ?_; with_unfolding_all (refine' code_readerC ?k1ₘ ?k2ₘ ?k3ₘ ?k4ₘ ?k5ₘ ?kAₘ ?kFₘ ?kKₘ ?k6ₘ ?k7ₘ ?k8ₘ ?k9ₘ ?kBₘ ?kDₘ ?_ ?c2ₘ ?c3ₘ ?c4ₘ; (case kAₘ => exact rfl); (case kFₘ => exact rfl); (case kKₘ => assumption); (case k1ₘ => k_asm); (case k2ₘ => k_asm); (case k3ₘ => k_asm); (case k4ₘ => k_asm); (case k5ₘ => k_asm); (case k6ₘ => k_is); (case k7ₘ => k_is); (case k8ₘ => ((try dsimp only [ktrTop]); (k_extra "MY om"))); (case k9ₘ => first | exact BindsTo.of_eq rfl | exact binds_K (by k_in) rfl (by k_is) rfl rfl rfl); (case kBₘ => exact rfl); (case kDₘ => decide +kernel); (case c2ₘ => exact rfl); (case c3ₘ => exact rfl); (case c4ₘ => exact rfl); k_whole)))
  k_with "MY lsize" => ((fail_if_success k_extra "OFF 64"); (first | (simp only [List.size_toArray, List.length_map, List.length_reverse, Array.size_push, List.length_append, List.length_cons, List.length_nil, PySem.sizeLine_eq]; (k_extra "MY om")) | (k_extra "MY om")))
  k_with "subscriptTail Name Slice ref ref" => ((fail_if_success k_extra "OFF 62"); (k_here; k_dflt (refine' rev_any ?wFₘ ?wNₘ ?wlₘ ?wkₘ ?_ ?wsₘ ?wtₘ ?wzₘ; (case wFₘ => k_asm); (case wNₘ => k_asm); (case wlₘ => exact News.isList (by k_asm) (by k_extra "MY in")); (case wkₘ => exact IsPart.int _ _); (case wsₘ => with_unfolding_all rfl); (case wtₘ => (intro _; with_unfolding_all rfl)); (case wzₘ => k_extra "MY lsize")); (intros D'ₘ h'ₘ; intro F'ₘ N'ₘ l1ₘ); (try dsimp only at N'ₘ); (try k_lt l1ₘ)))
  k_with "eval ListComp" => ((fail_if_success k_extra "OFF 64"); refine halt_of ?_)
  k_with "compareOp Eq str str" => ((fail_if_success k_extra "OFF 62"); (k_dflt refine eq_str_on (by assumption) ?_))
  trivial
/-- a list made over one node -/
theorem comp_one : ∀ {w : World} {A : Around} {h₀ : Heap} {L : Addr} {m : Str → Option Value} {env : Env} {scope : Scope} {cl : List (Str × Addr)} {x : Str} {elt : PySem.Expr} {done : Nat → Addr → List Value → Nat → List (Addr × Obj) → (Nat → List Value → List (Addr × Obj) → Prop) → Shared → Heap → Nat → Prop} {s₁ : Shared} {l c : Addr} {v : Nat × Tok} {news : List (Addr × Obj)} (P : Value → List (Addr × Obj) → Prop) (F : Fr h₀ L s₁.heap m) (N : News h₀ L s₁.heap news) (hm : (l, listOf #[nv v] c) ∈ news) (turn : ∀ C I D oC oI oD m₂ h tk E', Fr h₀ L h m → News h₀ L h ((C, oC) :: (I, oI) :: (D, oD) :: news) → LCg.NsObj oC m₂ → m₂ x = some (nv v) →
      wpAny (model PG w) A (eval elt (compEnvC scope cl C env)) (fun y s₃ => ∃ h' tk' new, s₃ = { s₁ with heap := h', toks := tk' } ∧ Fr h₀ L h' m ∧ News h₀ L h' (new ++ (C, oC) :: (I, oI) :: (D, oD) :: news) ∧
        (∀ q ∈ new, ∀ p ∈ ((C, oC) :: (I, oI) :: (D, oD) :: news : List (Addr × Obj)), p.1 < q.1) ∧ P y new) E' { s₁ with heap := h, toks := tk }) (fin : ∀ J D y new k h' tk, P y new → (∀ p ∈ new ++ news, p.1 ≠ D) → (∀ q ∈ new, ∀ p ∈ news, p.1 < q.1) → News h₀ L h' ((D, listOf #[y] k) :: (new ++ news)) → done 1 D [y] k (new ++ news) J s₁ h' tk),
    CompAtL PG w A h₀ L m env scope cl x elt done (.ref l) s₁ := by
  have hEpsₑ : EpsOn 0 := ⟨True.intro⟩
  intros w A h₀ L m env scope cl x elt done s₁
  intros l c v news P
  intro F
  intro N
  intro hm
  intro turn
  intro fin
  refine ⟨l, [nv v], c, news, fun i ys news' => (i = 0 ∧ ys = [] ∧ news' = news) ∨ (i = 1 ∧ ∃ y new, ys = [y] ∧ news' = new ++ news ∧ P y new ∧ ∀ q ∈ new, ∀ p ∈ news, p.1 < q.1), rfl, ?_, F, N, ?_, .inl ⟨rfl, rfl, rfl⟩, ?_, ?_⟩
  · rw [PySem.sizeLine_eq]; simp
  · rintro i ys news' (⟨_, _, rfl⟩ | ⟨_, y, new, _, rfl, _⟩)
    · exact .inl hm
    · exact .inl (List.mem_append_right _ hm)
  · ((intros C I D i v' ys news₁ h tk oC oI oD; intros m₂ E' blk; intro hv hJ; intro ap; intro F' N' hC hx))
    rcases hJ with ⟨rfl, rfl, rfl⟩ | ⟨rfl, _⟩
    · obtain rfl : nv v = v' := by simpa using hv
      refine wpAny_mono (turn C I D oC oI oD m₂ h tk E' F' N' hC hx) ?_ fun _ _ e => e
      (intros y s₃)
      ((intro hₜ24; (injection hₜ24 with h' hₜ1; (injection hₜ1 with tk' hₜ2; (injection hₜ2 with new hₜ3; (refine And.elim ?_ (hₜ3); (try clear hₜ3); intro hₜ4 hₜ5; rcases hₜ4 with rfl; (injection hₜ5 with F'' hₜ6; (injection hₜ6 with N'' hₜ7; (injection hₜ7 with hlt hP)))))))))
      refine ⟨h', tk', new ++ news₁, rfl, F'', News.of_sub N'' fun q hq => ?_, fun p hp => ?_, .inr ⟨rfl, y, new, rfl, rfl, hP, fun q hq p hp => hlt q hq p (.tail _ (.tail _ (.tail _ hp)))⟩⟩
      · simp only [List.mem_cons, List.mem_append] at hq ⊢
        rcases hq with h | h | h | h | h <;> simp [h]
      · rcases List.mem_append.mp hp with hp | hp
        · exact ⟨(Nat.ne_of_lt (hlt p hp (C, oC) (.head _))).symm, (Nat.ne_of_lt (hlt p hp (I, oI) (.tail _ (.head _)))).symm, (Nat.ne_of_lt (hlt p hp (D, oD) (.tail _ (.tail _ (.head _))))).symm⟩
        · exact ap p hp
    · simp at hv
  · ((intros D ys k news' h' tk; intro hD0 hne hJ hlen N'))
    ((rcases hJ with hᵤ1 | hᵤ2) <;> (first | ((fail_if_success (fail_if_success clear hᵤ1)); (injection hᵤ1 with h0 hₜ1; rcases hₜ1 with _)) | ((fail_if_success (fail_if_success clear hᵤ2)); (refine And.elim ?_ (hᵤ2); (try clear hᵤ2); intro hₜ1 hₜ2; rcases hₜ1 with _; (injection hₜ2 with y hₜ3; (injection hₜ3 with new hₜ4; (refine And.elim ?_ (hₜ4); (try clear hₜ4); intro hₜ5 hₜ6; rcases hₜ5 with rfl; (refine And.elim ?_ (hₜ6); (try clear hₜ6); intro hₜ7 hₜ8; rcases hₜ7 with rfl; (injection hₜ8 with hP hlt)))))))))
    · cases h0
    · exact fin _ D y new k h' tk hP hne hlt N'
/-- the tag of an element -/
def tagT (T : PT) (n : NR) (c : Option Str) (emp : Bool) : Str := tagA T n.at' (tagP c ("<" ++ n.name)) ++ (if emp = true then "/>" else ">")
section
variable {w : World} {A : Around} {E : Value → Shared → Prop} {s : Shared} {h₀ : Heap} {L a b : Addr} {m : Str → Option Value} {news : List (Addr × Obj)} {ca cb : Nat} {cs : List (Nat × Tok)} {Q : Value → Shared → Prop}
theorem eq_kids0 (N : News h₀ L s.heap news) (ha : (a, listOf (cs.map nv).toArray ca) ∈ news) (hb : (b, listOf #[] cb) ∈ news) (hc : cs = []) (hu : A.units < cLine) (h : Q (.bool true) s) : wpAny (model PG w) A (compareOp .Eq (.ref a) (.ref b)) Q E s := by
  subst hc
  exact PySem.SeqAt.RcAt.lists (e := fun _ => true) (News.isList N ha) (News.isList N hb) (by simp) hu (fun j h1 _ => by simp at h1) PG w E Q h
theorem eq_kids1 {c : Nat × Tok} (N : News h₀ L s.heap news) (ha : (a, listOf (cs.map nv).toArray ca) ∈ news) (hb : (b, listOf #[] cb) ∈ news) (hc : cs = [c]) (hu : A.units < cLine) (h : Q (.bool false) s) : wpAny (model PG w) A (compareOp .Eq (.ref a) (.ref b)) Q E s := by
  subst hc
  exact PySem.SeqAt.RcAt.lists_lengths (News.isList N ha) (News.isList N hb) (by simp) hu PG w E Q h
theorem ne_kids0 (N : News h₀ L s.heap news) (ha : (a, listOf (cs.map nv).toArray ca) ∈ news) (hb : (b, listOf #[] cb) ∈ news) (hc : cs = []) (hu : A.units < cLine) (h : Q (.bool false) s) : wpAny (model PG w) A (compareOp .NotEq (.ref a) (.ref b)) Q E s := by
  subst hc
  exact ne_nil N ha hb hu h
theorem ne_kids1 {c : Nat × Tok} (N : News h₀ L s.heap news) (ha : (a, listOf (cs.map nv).toArray ca) ∈ news) (hb : (b, listOf #[] cb) ∈ news) (hc : cs = [c]) (hu : A.units < cLine) (h : Q (.bool true) s) : wpAny (model PG w) A (compareOp .NotEq (.ref a) (.ref b)) Q E s := by
  subst hc
  exact ne_snoc (p := []) N ha hb hu h
end
/-- what a tag needs -/
structure TagOk (T : PT) (n : NR) : Prop where
  nm : Len 50 n.name
  al : n.at'.length ≤ 5
  at_ : ∀ d ∈ n.at', ∃ na, T.ns[d.1]? = some na ∧ Len 50 na.name ∧ Safes na.value
theorem own_F {F : List TE2} {c : Option Str} (h : tps F = ownL c) : (c = none ∧ F = []) ∨ ∃ e u, c = some u ∧ F = [e] ∧ e.x = "p" ∧ e.y = u := by
  cases c with
  | none => exact .inl ⟨rfl, List.map_eq_nil_iff.mp h⟩
  | some u =>
    right
    rcases F with _ | ⟨e, _ | ⟨e2, r⟩⟩
    · cases h
    · (injection (List.cons.inj h) with h1 hₜ1; rcases hₜ1 with _)
      (injection (Prod.mk.inj h1) with h1 h2)
      exact ⟨e, u, rfl, rfl, h1, h2⟩
    · simp [tps, ownL] at h
theorem start_tag_F (w : World) (T : PT) (k : Nat) (tk : Tok) (n : NR) (pr : Addr) (F : List TE2) (c : Option Str) (e : Nat) (emp : Bool) (hk : T.ns[k]? = some n) (G : TagOk T n) (hF : tps F = ownL c) (hc : ∀ u, c = some u → Safes u) :
    RSpec w 572 3 [.ref T.b.t, .int (k : Int) tk, .ref pr, .bool emp] (fun h => T.At w.params h ∧ h.get? pr = some (listOf (ters F).toArray e) ∧ ∀ q ∈ tes F, h.get? q.1 = some q.2) (fun _ r new => ∃ t', r = .str (tagT T n c emp) t') := by
  ((rcases own_F hF with hᵤ3 | hᵤ4) <;> (first | ((fail_if_success (fail_if_success clear hᵤ3)); (refine And.elim ?_ (hᵤ3); (try clear hᵤ3); intro hₜ1 hₜ2; rcases hₜ1 with rfl; rcases hₜ2 with rfl)) | ((fail_if_success (fail_if_success clear hᵤ4)); (injection hᵤ4 with e1 hₜ1; (injection hₜ1 with u hₜ2; (refine And.elim ?_ (hₜ2); (try clear hₜ2); intro hₜ3 hₜ4; rcases hₜ3 with rfl; (refine And.elim ?_ (hₜ4); (try clear hₜ4); intro hₜ5 hₜ6; rcases hₜ5 with rfl; (injection hₜ6 with hx hy))))))))
  · (intros dp un gd cn cs a ccd cl outer A₀ base h₀ L m news s p loose mean mg mb Q E; intro B F' X N Tp hk9 hd hu pre ret)
    exact start_tag_of w T k tk n pr 0 none 0 0 e emp hk G.nm hc G.al G.at_ _ _ _ _ _ _ _ _ _ _ _ _ _ _ _ _ _ _ _ _ _ _ _ B F' X N Tp hk9 hd hu ⟨pre.1, pre.2.1⟩ ret
  · (intros dp un gd cn cs a ccd cl outer A₀ base h₀ L m news s p loose mean mg mb Q E; intro B F' X N Tp hk9 hd hu pre ret)
    refine start_tag_of w T k tk n pr e1.a (some u) e1.tx e1.ty e emp hk G.nm hc G.al G.at_ _ _ _ _ _ _ _ _ _ _ _ _ _ _ _ _ _ _ _ _ _ _ _ B F' X N Tp hk9 hd hu ⟨pre.1, pre.2.1, ?_⟩ ret
    have := pre.2.2 e1.ob (.head _)
    rw [← hx, ← hy]; exact this
theorem inner_scope_F (w : World) (sc pr : Addr) (F : List TE2) (c : Option Str) (oS : Obj) (e : Nat) (hlo : (sc == sysModules) = false) (hW : SO w none oS) (hF : tps F = ownL c) :
    RSpec w 579 1 [.ref sc, .ref pr] (fun h => h.get? sc = some oS ∧ h.get? pr = some (listOf (ters F).toArray e) ∧ ∀ q ∈ tes F, h.get? q.1 = some q.2) (fun _ r new => ∃ x o, r = .ref x ∧ (x, o) ∈ new ∧ (x == sysModules) = false ∧ SO w c o) := by
  ((rcases own_F hF with hᵤ5 | hᵤ6) <;> (first | ((fail_if_success (fail_if_success clear hᵤ5)); (refine And.elim ?_ (hᵤ5); (try clear hᵤ5); intro hₜ1 hₜ2; rcases hₜ1 with rfl; rcases hₜ2 with rfl)) | ((fail_if_success (fail_if_success clear hᵤ6)); (injection hᵤ6 with e1 hₜ1; (injection hₜ1 with u hₜ2; (refine And.elim ?_ (hₜ2); (try clear hₜ2); intro hₜ3 hₜ4; rcases hₜ3 with rfl; (refine And.elim ?_ (hₜ4); (try clear hₜ4); intro hₜ5 hₜ6; rcases hₜ5 with rfl; (injection hₜ6 with hx hy))))))))
  · (intros dp un gd cn cs a ccd cl outer A₀ base h₀ L m news s p loose mean mg mb Q E; intro B F' X N Tp hk9 hd hu pre ret)
    exact inner_scope_0 w sc pr oS e hlo hW _ _ _ _ _ _ _ _ _ _ _ _ _ _ _ _ _ _ _ _ _ _ _ B F' X N Tp hk9 hd hu ⟨pre.1, pre.2.1⟩ ret
  · (intros dp un gd cn cs a ccd cl outer A₀ base h₀ L m news s p loose mean mg mb Q E; intro B F' X N Tp hk9 hd hu pre ret)
    refine inner_scope_1 w sc pr e1.a u e1.tx e1.ty oS e hlo hW _ _ _ _ _ _ _ _ _ _ _ _ _ _ _ _ _ _ _ _ _ _ _ B F' X N Tp hk9 hd hu ⟨pre.1, pre.2.1, ?_⟩ ret
    have := pre.2.2 e1.ob (.head _)
    rw [← hx, ← hy]; exact this
/-- the ledger ahead of the writing loop -/
theorem wr_start {g h : Heap} {L D t1 d1 a2 a3 fl ci : Addr} {oD ot od o2 o3 of oc : Obj} (N : News g L h ((D, oD) :: ([(t1, ot), (d1, od)] ++ [(a2, o2), (a3, o3), (fl, of), (ci, oc)])))
    (hD : Off D ([(t1, ot), (d1, od)] ++ [(a2, o2), (a3, o3), (fl, of), (ci, oc)])) (hlt : ∀ q ∈ [(t1, ot), (d1, od)], ∀ p ∈ [(a2, o2), (a3, o3), (fl, of), (ci, oc)], p.1 < q.1) (h1 : @Ne Nat a2 fl) (h2 : @Ne Nat a3 fl) (h3 : @Ne Nat a2 ci) (h4 : @Ne Nat a3 ci) (h5 : @Ne Nat ci fl) :
    ∃ R, News g L h ((ci, oc) :: (D, oD) :: (fl, of) :: R) ∧ Off ci R ∧ Off D R ∧ Off fl R ∧ @Ne Nat ci D ∧ @Ne Nat ci fl ∧ @Ne Nat D fl ∧ (t1, ot) ∈ R ∧ (d1, od) ∈ R := by
  refine ⟨[(t1, ot), (d1, od), (a2, o2), (a3, o3)], News.of_sub N fun q hq => ?_, fun p hp => ?_, fun p hp => hD p ?_, fun p hp => ?_, hD (ci, oc) (by simp), h5, (hD (fl, of) (by simp)).symm, .head _, .tail _ (.head _)⟩
  · simp only [List.mem_cons, List.mem_append, List.not_mem_nil, or_false] at hq ⊢
    rcases hq with h | h | h | h | h | h | h <;> simp [h]
  · simp only [List.mem_cons, List.not_mem_nil, or_false] at hp
    rcases hp with h | h | h | h <;> rw [h]
    · exact (Nat.ne_of_lt (hlt (t1, ot) (by simp) (ci, oc) (by simp))).symm
    · exact (Nat.ne_of_lt (hlt (d1, od) (by simp) (ci, oc) (by simp))).symm
    · exact h3
    · exact h4
  · simp only [List.mem_cons, List.mem_append, List.not_mem_nil, or_false] at hp ⊢
    rcases hp with h | h | h | h <;> simp [h]
  · simp only [List.mem_cons, List.not_mem_nil, or_false] at hp
    rcases hp with h | h | h | h <;> rw [h]
    · exact (Nat.ne_of_lt (hlt (t1, ot) (by simp) (fl, of) (by simp))).symm
    · exact (Nat.ne_of_lt (hlt (d1, od) (by simp) (fl, of) (by simp))).symm
    · exact h1
    · exact h2
/-- what lies ahead of a ledger's old part, apart from three addresses -/
def Mid (a b c : Addr) (tail l : List (Addr × Obj)) : Prop := ∃ ms, l = ms ++ tail ∧ Off a ms ∧ Off b ms ∧ Off c ms
theorem Mid.nil {a b c : Addr} {tail : List (Addr × Obj)} : Mid a b c tail tail := ⟨[], rfl, List.forall_mem_nil _, List.forall_mem_nil _, List.forall_mem_nil _⟩
theorem Mid.cons {a b c : Addr} {tail l : List (Addr × Obj)} {q : Addr × Obj} (h1 : @Ne Nat q.1 a) (h2 : @Ne Nat q.1 b) (h3 : @Ne Nat q.1 c) (h : Mid a b c tail l) : Mid a b c tail (q :: l) :=
  let ⟨ms, e, i1, i2, i3⟩ := h
  ⟨q :: ms, by rw [e]; rfl, List.forall_mem_cons.mpr ⟨h1, i1⟩, List.forall_mem_cons.mpr ⟨h2, i2⟩, List.forall_mem_cons.mpr ⟨h3, i3⟩⟩
theorem wr_back {g h : Heap} {L ci Dl fl D9 : Addr} {o9 oi od of : Obj} {R l : List (Addr × Obj)} (N : News g L h ((D9, o9) :: l)) (M : Mid ci fl D9 ((ci, oi) :: (Dl, od) :: (fl, of) :: R) l) (p1 : Off ci R) (p3 : Off fl R) (p9 : ∀ p ∈ l, p.1 ≠ D9)
    (c1 : @Ne Nat ci Dl) (c3 : @Ne Nat Dl fl) : ∃ R', News g L h ((ci, oi) :: (D9, o9) :: (fl, of) :: R') ∧ Off ci R' ∧ Off D9 R' ∧ Off fl R' ∧ @Ne Nat ci D9 ∧ @Ne Nat D9 fl ∧ ∀ q ∈ l, @Ne Nat q.1 ci → @Ne Nat q.1 fl → q ∈ R' := by
  (injection M with ms hₜ1; (injection hₜ1 with e hₜ2; (injection hₜ2 with i1 hₜ3; (injection hₜ3 with i2 i3))))
  subst e
  refine ⟨ms ++ (Dl, od) :: R, News.of_sub N fun q hq => ?_, fun p hp => ?_, fun p hp => p9 p ?_, fun p hp => ?_, p9 (ci, oi) (by simp), (p9 (fl, of) (by simp)).symm, fun q hq h1 h2 => ?_⟩
  · simp only [List.mem_cons, List.mem_append] at hq ⊢
    rcases hq with h | h | h | h | h | h <;> simp [h]
  · simp only [List.mem_cons, List.mem_append] at hp
    rcases hp with h | h | h
    · exact i1 p h
    · rw [h]; exact c1.symm
    · exact p1 p h
  · simp only [List.mem_cons, List.mem_append] at hp ⊢
    rcases hp with h | h | h <;> simp [h]
  · simp only [List.mem_cons, List.mem_append] at hp
    rcases hp with h | h | h
    · exact i2 p h
    · rw [h]; exact c3
    · exact p3 p h
  · simp only [List.mem_cons, List.mem_append] at hq ⊢
    rcases hq with h | h | h | h | h
    · exact .inl h
    · (replace h1 := h1; rw [h] at h1); exact absurd rfl h1
    · exact .inr (.inl h)
    · (replace h2 := h2; rw [h] at h2); exact absurd rfl h2
    · exact .inr (.inr h)
theorem wr_same {g h : Heap} {L ci Dl fl : Addr} {oi od of : Obj} {R l : List (Addr × Obj)} (N : News g L h l) (M : Mid ci fl Dl ((ci, oi) :: (Dl, od) :: (fl, of) :: R) l) (p1 : Off ci R) (p2 : Off Dl R) (p3 : Off fl R) :
    ∃ R', News g L h ((ci, oi) :: (Dl, od) :: (fl, of) :: R') ∧ Off ci R' ∧ Off Dl R' ∧ Off fl R' ∧ ∀ q ∈ R, q ∈ R' := by
  (injection M with ms hₜ1; (injection hₜ1 with e hₜ2; (injection hₜ2 with i1 hₜ3; (injection hₜ3 with i2 i3))))
  subst e
  refine ⟨ms ++ R, News.of_sub N fun q hq => ?_, fun p hp => ?_, fun p hp => ?_, fun p hp => ?_, fun q hq => List.mem_append_right _ hq⟩
  · simp only [List.mem_cons, List.mem_append] at hq ⊢
    rcases hq with h | h | h | h | h <;> simp [h]
  · exact (List.mem_append.mp hp).elim (i1 p) (p1 p)
  · exact (List.mem_append.mp hp).elim (i3 p) (p2 p)
  · exact (List.mem_append.mp hp).elim (i2 p) (p3 p)
/-- the ledger behind a call of declared -/
theorem wr_decl {g h : Heap} {L el ci Dl fl : Addr} {oe oi od of : Obj} {R new : List (Addr × Obj)} (N : News g L h (new ++ (el, oe) :: (ci, oi) :: (Dl, od) :: (fl, of) :: R)) (O : ∀ q ∈ new, ∀ p ∈ (el, oe) :: (ci, oi) :: (Dl, od) :: (fl, of) :: R, p.1 ≠ q.1)
    (p1 : Off ci R) (p2 : Off Dl R) (p3 : Off fl R) :
    ∃ R', News g L h ((ci, oi) :: (Dl, od) :: (fl, of) :: R') ∧ (∀ q ∈ R, q ∈ R') ∧ (∀ q ∈ new, q ∈ R') ∧ Off ci R' ∧ Off Dl R' ∧ Off fl R' := by
  refine ⟨new ++ R, News.of_sub N fun q hq => ?_, fun q hq => List.mem_append_right _ hq, fun q hq => List.mem_append_left _ hq, fun p hp => ?_, fun p hp => ?_, fun p hp => ?_⟩
  · simp only [List.mem_cons, List.mem_append] at hq ⊢
    rcases hq with h | h | h | h | h <;> simp [h]
  · rcases List.mem_append.mp hp with h | h
    · exact (O p h (ci, oi) (.tail _ (.head _))).symm
    · exact p1 p h
  · rcases List.mem_append.mp hp with h | h
    · exact (O p h (Dl, od) (.tail _ (.tail _ (.head _)))).symm
    · exact p2 p h
  · rcases List.mem_append.mp hp with h | h
    · exact (O p h (fl, of) (.tail _ (.tail _ (.tail _ (.head _))))).symm
    · exact p3 p h
theorem tag_len {T : PT} {n : NR} {c : Option Str} {emp : Bool} (G : TagOk T n) (hc : ∀ u, c = some u → Safes u) : (tagT T n c emp).length ≤ 1000 := by
  have q : (Str.ofString "<").length = 1 := rfl
  have q1 : (Str.ofString "/>").length = 2 := rfl
  have q2 : (Str.ofString ">").length = 1 := rfl
  have h0 : Len 51 (Str.ofString "<" ++ n.name) := by
    have := G.nm
    unfold Len at *
    simp only [PySem.Str.length_append, q]
    (k_extra "MY om")
  have h1 := len_tagA n.at' 100 _ G.at_ (len_tagP hc h0)
  have := G.al
  unfold Len at h1
  unfold tagT
  cases emp
  · simp only [PySem.Str.length_append, Bool.false_eq_true, if_false, q2]; (k_extra "MY om")
  · simp only [PySem.Str.length_append, if_true, q1]; (k_extra "MY om")
/-- what is wanted of an element -/
def wl (K : Nat → Wt) (k : Nat) (n : NR) : List Wt := K k :: n.at'.map (K ·.1)
/-- the child that the written element may have -/
abbrev Kid := (Nat × Tok) × NR × Option Str
def KidOk (w : World) (T : PT) (K : Nat → Wt) (n1 : NR) (c : Option Str) : Option Kid → Prop
  | none => n1.ch = []
  | some (c2, n2, own2) => n1.ch = [c2] ∧ T.ns[c2.1]? = some n2 ∧ n2.kind = "element" ∧ n2.ch = [] ∧ Wants w T c2.1 n2 own2 K ∧ TagOk T n2 ∧ ∀ st2, dfold (dstart own2 c) (wl K c2.1 n2) = some st2 → ∀ u, st2.2.2 = some u → Safes u
/-- the pieces written -/
def ResOk (T : PT) (K : Nat → Wt) (n1 : NR) (c : Option Str) (kid : Option Kid) (fs : List Str) : Prop :=
  (kid = none ∧ fs = [tagT T n1 c true]) ∨ ∃ c2 n2 own2 st2, kid = some (c2, n2, own2) ∧ dfold (dstart own2 c) (wl K c2.1 n2) = some st2 ∧ fs = [tagT T n1 c false, tagT T n2 st2.2.2 true, "</" ++ n1.name ++ ">"]
def BadKid (K : Nat → Wt) (c : Option Str) (kid : Option Kid) : Prop := ∃ c2 n2 own2, kid = some (c2, n2, own2) ∧ dfold (dstart own2 c) (wl K c2.1 n2) = none
theorem res_len {w : World} {T : PT} {K : Nat → Wt} {n1 : NR} {c : Option Str} {kid : Option Kid} {fs : List Str} (h : ResOk T K n1 c kid fs) (G1 : TagOk T n1) (hc : ∀ u, c = some u → Safes u) (KO : KidOk w T K n1 c kid) : (fs.map (·.length)).sum + fs.length ≤ 1048576 := by
  ((rcases h with hᵤ7 | hᵤ8) <;> (first | ((fail_if_success (fail_if_success clear hᵤ7)); (refine And.elim ?_ (hᵤ7); (try clear hᵤ7); intro hₜ1 hₜ2; rcases hₜ1 with _; rcases hₜ2 with rfl)) | ((fail_if_success (fail_if_success clear hᵤ8)); (injection hᵤ8 with c2 hₜ1; (injection hₜ1 with n2 hₜ2; (injection hₜ2 with own2 hₜ3; (injection hₜ3 with st2 hₜ4; (refine And.elim ?_ (hₜ4); (try clear hₜ4); intro hₜ5 hₜ6; rcases hₜ5 with rfl; (injection hₜ6 with hst hₜ7; rcases hₜ7 with rfl)))))))))
  · have := tag_len (emp := true) G1 hc
    simp; (k_extra "MY om")
  · (injection KO with q1 hₜ1; (injection hₜ1 with q2 hₜ2; (injection hₜ2 with q3 hₜ3; (injection hₜ3 with q4 hₜ4; (injection hₜ4 with q5 hₜ5; (injection hₜ5 with q6 q7))))))
    have a := tag_len (emp := false) G1 hc
    have b := tag_len (emp := true) q6 (q7 st2 hst)
    have e := G1.nm
    have r1 : (Str.ofString "</").length = 2 := rfl
    have r2 : (Str.ofString ">").length = 1 := rfl
    unfold Len at e
    simp only [List.map_cons, List.map_nil, List.sum_cons, List.sum_nil, List.length_cons, List.length_nil, PySem.Str.length_append, r1, r2]
    (k_extra "MY om")
theorem res_count {T : PT} {K : Nat → Wt} {n1 : NR} {c : Option Str} {kid : Option Kid} {fs : List Str} (h : ResOk T K n1 c kid fs) : fs.length ≤ 3 := by
  ((rcases h with hᵤ9 | hᵤ10) <;> (first | ((fail_if_success (fail_if_success clear hᵤ9)); (refine And.elim ?_ (hᵤ9); (try clear hᵤ9); intro hₜ1 hₜ2; rcases hₜ1 with _; rcases hₜ2 with rfl)) | ((fail_if_success (fail_if_success clear hᵤ10)); (injection hᵤ10 with c2 hₜ1; (injection hₜ1 with n2 hₜ2; (injection hₜ2 with own2 hₜ3; (injection hₜ3 with st2 hₜ4; (refine And.elim ?_ (hₜ4); (try clear hₜ4); intro hₜ5 hₜ6; rcases hₜ5 with _; (refine And.elim ?_ (hₜ6); (try clear hₜ6); intro hₜ7 hₜ8; rcases hₜ7 with _; rcases hₜ8 with rfl))))))))) <;> simp
/-- how far the writing is -/
inductive Phase (w : World) (T : PT) (K : Nat → Wt) (c1 : Nat × Tok) (n1 : NR) (own1 c : Option Str) (kid : Option Kid) (R : List (Addr × Obj)) : Nat → List Value → List Str → Prop
  | top {t d : Addr} {o : Obj} {kd : Kid} : kid = some kd → (t, tupObj [nv c1, .ref d]) ∈ R → (d, o) ∈ R → (d == sysModules) = false → SO w none o → Phase w T K c1 n1 own1 c kid R 3 [.ref t] []
  | leaf1 {t d : Addr} {o : Obj} : kid = none → (t, tupObj [nv c1, .ref d]) ∈ R → (d, o) ∈ R → (d == sysModules) = false → SO w none o → Phase w T K c1 n1 own1 c kid R 2 [.ref t] []
  | leaf2 {t d tr : Addr} {o : Obj} {c2 : Nat × Tok} {n2 : NR} {own2 : Option Str} : kid = some (c2, n2, own2) → (tr, tupObj [nv c1, .none]) ∈ R → (t, tupObj [nv c2, .ref d]) ∈ R → (d, o) ∈ R → (d == sysModules) = false → SO w c o →
      Phase w T K c1 n1 own1 c kid R 2 [.ref tr, .ref t] [tagT T n1 c false]
  | back {tr : Addr} {c2 : Nat × Tok} {n2 : NR} {own2 : Option Str} {st2 : DS} : kid = some (c2, n2, own2) → dfold (dstart own2 c) (wl K c2.1 n2) = some st2 → (tr, tupObj [nv c1, .none]) ∈ R →
      Phase w T K c1 n1 own1 c kid R 1 [.ref tr] [tagT T n1 c false, tagT T n2 st2.2.2 true]
  | done {fs : List Str} : ResOk T K n1 c kid fs → Phase w T K c1 n1 own1 c kid R 0 [] fs
/-- a leaf under way, and what comes behind it -/
structure LeafAt (w : World) (T : PT) (K : Nat → Wt) (c1 : Nat × Tok) (n1 : NR) (own1 c : Option Str) (kid : Option Kid) (R : List (Addr × Obj)) (pre : List Value) (fs : List Str) (t d : Addr) (o : Obj) (k : Nat × Tok) (nn : NR) (own cc : Option Str) : Prop where
  ht : (t, tupObj [nv k, .ref d]) ∈ R
  hd : (d, o) ∈ R
  lo : (d == sysModules) = false
  so : SO w cc o
  hk : T.ns[k.1]? = some nn
  kind : nn.kind = "element"
  ch : nn.ch = []
  wants : Wants w T k.1 nn own K
  tag : TagOk T nn
  safe : ∀ st, dfold (dstart own cc) (wl K k.1 nn) = some st → ∀ u, st.2.2 = some u → Safes u
  pl : pre.length ≤ 1
  fl : fs.length ≤ 1
  next : ∀ st R', dfold (dstart own cc) (wl K k.1 nn) = some st → (∀ q ∈ R, q ∈ R') → ∃ n, n < 2 ∧ Phase w T K c1 n1 own1 c kid R' n pre (fs ++ [tagT T nn st.2.2 true])
  bad : dfold (dstart own cc) (wl K k.1 nn) = none → BadKid K c kid
theorem Phase.cases {w : World} {T : PT} {K : Nat → Wt} {c1 : Nat × Tok} {n1 : NR} {own1 : Option Str} {st1 : DS} {kid : Option Kid} {R : List (Addr × Obj)} {n : Nat} {left : List Value} {fs : List Str} (h : Phase w T K c1 n1 own1 st1.2.2 kid R n left fs)
    (hk : T.ns[c1.1]? = some n1) (hkd : n1.kind = "element") (W1 : Wants w T c1.1 n1 own1 K) (G1 : TagOk T n1) (h1 : dfold (dstart own1 none) (wl K c1.1 n1) = some st1) (hs1 : ∀ u, st1.2.2 = some u → Safes u) (KO : KidOk w T K n1 st1.2.2 kid) :
    (left = [] ∧ ResOk T K n1 st1.2.2 kid fs) ∨ (∃ t d o kd, n = 3 ∧ left = [] ++ [.ref t] ∧ fs = [] ∧ kid = some kd ∧ n1.ch = [kd.1] ∧ (t, tupObj [nv c1, .ref d]) ∈ R ∧ (d, o) ∈ R ∧ (d == sysModules) = false ∧ SO w none o) ∨
      (∃ pre t d o k nn own cc, n = 2 ∧ left = pre ++ [.ref t] ∧ LeafAt w T K c1 n1 own1 st1.2.2 kid R pre fs t d o k nn own cc) ∨
      ∃ tr, n = 1 ∧ left = [] ++ [.ref tr] ∧ (tr, tupObj [nv c1, .none]) ∈ R ∧ ResOk T K n1 st1.2.2 kid (fs ++ ["</" ++ n1.name ++ ">"]) := by
  cases h with
  | @top t d o kd e a b lo so =>
    (first | (injection kd with c2 hₜ1; (injection hₜ1 with n2 own2)) | rcases kd with ⟨c2, n2, own2⟩)
    subst e
    exact .inr (.inl ⟨t, d, o, _, rfl, rfl, rfl, rfl, KO.1, a, b, lo, so⟩)
  | @leaf1 t d o e a b lo so =>
    subst e
    refine .inr (.inr (.inl ⟨[], t, d, o, c1, n1, own1, none, rfl, rfl, a, b, lo, so, hk, hkd, KO, W1, G1, fun st hst u hu => ?_, Nat.zero_le _, Nat.zero_le _, fun st R' hst hR => ⟨0, by decide, .done (.inl ⟨rfl, ?_⟩)⟩, fun hb => ?_⟩))
    · (replace hst := hst; rw [h1] at hst); cases hst; exact hs1 u hu
    · (replace hst := hst; rw [h1] at hst); cases hst; rfl
    · (replace hb := hb; rw [h1] at hb); cases hb
  | @leaf2 t d tr o c2 n2 own2 e a b b2 lo so =>
    subst e
    (injection KO with q1 hₜ1; (injection hₜ1 with q2 hₜ2; (injection hₜ2 with q3 hₜ3; (injection hₜ3 with q4 hₜ4; (injection hₜ4 with q5 hₜ5; (injection hₜ5 with q6 q7))))))
    exact .inr (.inr (.inl ⟨[.ref tr], t, d, o, c2, n2, own2, st1.2.2, rfl, rfl, b, b2, lo, so, q2, q3, q4, q5, q6, q7, Nat.le_refl _, Nat.le_refl _, fun st R' hst hR => ⟨1, by decide, .back rfl hst (hR _ a)⟩, fun hb => ⟨c2, n2, own2, rfl, hb⟩⟩))
  | @back tr c2 n2 own2 st2 e hst a =>
    exact .inr (.inr (.inr ⟨tr, rfl, rfl, a, .inr ⟨c2, n2, own2, st2, e, hst, rfl⟩⟩))
  | done h => exact .inl ⟨rfl, h⟩
theorem strs_len {vs : List Value} {ys : List Str} (h : StrsAre vs ys) : vs.length = ys.length := by
  induction h with
  | nil => rfl
  | cons _ _ _ ih => exact congrArg (· + 1) ih
theorem map_of {g h : Heap} {L : Addr} {m : Str → Option Value} (F : Fr g L h m) : ∃ M, M = m := ⟨m, rfl⟩
/-- a frame whose names but one are of no account -/
theorem mixL {st : List Str} {M m : Str → Option Value} {x : Str} {v : Option Value} (h1 : m x = v) (h2 : ∀ y, y ≠ x → st.contains y = false → m y = M y) : ∃ u : Str → Option Value, m = fun y => if y = x then v else if st.contains y = true then u y else M y := by
  refine ⟨m, ?_⟩
  funext y
  by_cases q : y = x
  · rw [if_pos q, q, h1]
  · rw [if_neg q]
    cases q2 : st.contains y with
    | true => rw [if_pos rfl]
    | false => rw [if_neg (by decide)]; exact h2 y q q2
theorem words_62 : True := by
  k_with "compareOp Eq ref ref" => ((fail_if_success k_extra "OFF 62"); (k_here; k_dflt (first | (refine' eq_kids0 ?wNₘ ?waₘ ?wbₘ ?wcₘ ?wuₘ ?_; (case wNₘ => k_asm); (case waₘ => k_extra "MY in"); (case wbₘ => k_extra "MY in"); (case wcₘ => assumption); (case wuₘ => ((try dsimp only [ktrTop, Around.deeper]); (k_extra "MY om")))) | (refine' eq_kids1 ?wNₘ ?waₘ ?wbₘ ?wcₘ ?wuₘ ?_; (case wNₘ => k_asm); (case waₘ => k_extra "MY in"); (case wbₘ => k_extra "MY in"); (case wcₘ => assumption); (case wuₘ => ((try dsimp only [ktrTop, Around.deeper]); (k_extra "MY om")))))))
  k_with "compareOp NotEq ref ref" => ((fail_if_success k_extra "OFF 62"); (k_here; k_dflt (first | (refine' ne_snoc ?wNₘ ?waₘ ?wbₘ ?wuₘ ?_; (case wNₘ => k_asm); (case waₘ => k_extra "MY in"); (case wbₘ => k_extra "MY in"); (case wuₘ => ((try dsimp only [ktrTop, Around.deeper]); (k_extra "MY om")))) | (refine' ne_kids0 ?wNₘ ?waₘ ?wbₘ ?wcₘ ?wuₘ ?_; (case wNₘ => k_asm); (case waₘ => k_extra "MY in"); (case wbₘ => k_extra "MY in"); (case wcₘ => assumption); (case wuₘ => ((try dsimp only [ktrTop, Around.deeper]); (k_extra "MY om")))) | (refine' ne_kids1 ?wNₘ ?waₘ ?wbₘ ?wcₘ ?wuₘ ?_; (case wNₘ => k_asm); (case waₘ => k_extra "MY in"); (case wbₘ => k_extra "MY in"); (case wcₘ => assumption); (case wuₘ => ((try dsimp only [ktrTop, Around.deeper]); (k_extra "MY om")))) | (refine' ne_nil ?wNₘ ?waₘ ?wbₘ ?wuₘ ?_; (case wNₘ => k_asm); (case waₘ => k_extra "MY in"); (case wbₘ => k_extra "MY in"); (case wuₘ => ((try dsimp only [ktrTop, Around.deeper]); (k_extra "MY om")))))))
  k_with "MY len" => ((fail_if_success k_extra "OFF 64"); (first | with_reducible assumption | exact Len.app (by k_extra "MY len") (by k_extra "MY len") | exact Len.lit _))
  k_with "binaryOp Add str str" => ((fail_if_success k_extra "OFF 64"); (k_dflt (refine' add_len ?wxₘ ?wyₘ ?wsₘ ?_; (case wxₘ => k_extra "MY len"); (case wyₘ => k_extra "MY len"); (case wsₘ => decide +kernel)); (intros t'ₘ k'ₘ)))
  k_with "binaryOp Add ref ref" => ((fail_if_success k_extra "OFF 64"); (k_here; k_dflt (refine' cat_any ?wFₘ ?wNₘ ?waₘ ?wbₘ ?_ ?wxₘ ?wyₘ; (case wFₘ => k_asm); (case wNₘ => k_asm); (case waₘ => k_extra "MY in"); (case wbₘ => k_extra "MY in"); (case wxₘ => k_extra "MY lsize"); (case wyₘ => k_extra "MY lsize")); (intros D'ₘ h'ₘ; intro F'ₘ N'ₘ l1ₘ); (try k_lt l1ₘ)))
  k_with "call builtin:list.pop" => ((fail_if_success k_extra "OFF 62"); (k_here; k_dflt (refine' pop_snoc ?wFₘ ?wNₘ ?wUₘ ?wzₘ ?_; (case wFₘ => k_asm); (case wNₘ => k_asm); (case wUₘ => k_upd); (case wzₘ => k_extra "MY lsize")); intro h'ₘ F'ₘ N'ₘ))
  k_with "assign Tuple" => ((fail_if_success k_extra "OFF 62"); (k_dflt (refine' unpackN ?Fₘ ?Nₘ ?dₘ ?k1ₘ ?k2ₘ ?k3ₘ ?_; (case Fₘ => k_asm); (case Nₘ => k_asm); (case dₘ => k_extra "MY in"); (case k1ₘ => exact rfl); (case k2ₘ => exact rfl); (case k3ₘ => exact rfl)); intro h'ₘ F'ₘ N'ₘ))
  k_with "call ref" => ((fail_if_success k_extra "OFF 62"); first | ((with_reducible show wpAny _ _ (call (Value.ref 424) _) _ _ _); k_dflt (refine' RSpec.use2 (kind_of _ _ _ _ _ ?hkₘ) ?k1ₘ ?k2ₘ ?k3ₘ ?k4ₘ ?k5ₘ ?kKₘ ?kdₘ ?kuₘ ?kpₘ ?_; (case hkₘ => assumption); k_extra "MY rd"; k_extra "MY rp"; k_whole); (intros r9ₘ new9ₘ h9ₘ tk9ₘ; intro F9ₘ N9ₘ S9ₘ O9ₘ p9ₘ); ((injection p9ₘ with p9ₘ p9'ₘ); subst p9ₘ; subst p9'ₘ); simp only [List.nil_append] at N9ₘ; k_extra "MY use") | ((with_reducible show wpAny _ _ (call (Value.ref 431) _) _ _ _); k_dflt (refine' RSpec.use2 (name_of _ _ _ _ _ ?hkₘ) ?k1ₘ ?k2ₘ ?k3ₘ ?k4ₘ ?k5ₘ ?kKₘ ?kdₘ ?kuₘ ?kpₘ ?_; (case hkₘ => assumption); k_extra "MY rd"; k_extra "MY rp"; k_whole); (intros r9ₘ new9ₘ h9ₘ tk9ₘ; intro F9ₘ N9ₘ S9ₘ O9ₘ p9ₘ); ((injection p9ₘ with p9ₘ p9'ₘ); subst p9ₘ; subst p9'ₘ); simp only [List.nil_append] at N9ₘ; k_extra "MY use") | (k_dflt ((with_reducible show wpAny _ _ (call (Value.ref 466) _) _ _ _); k_dflt (refine' RSpec.use2 (children_of _ _ _ _ _ ?hkₘ) ?k1ₘ ?k2ₘ ?k3ₘ ?k4ₘ ?k5ₘ ?kKₘ ?kdₘ ?kuₘ ?kpₘ ?_; (case hkₘ => assumption); k_extra "MY rd"; k_extra "MY rp"; k_whole); (intros r9ₘ new9ₘ h9ₘ tk9ₘ; intro F9ₘ N9ₘ S9ₘ O9ₘ p9ₘ); ((injection p9ₘ with x9ₘ hₜ1; (injection hₜ1 with e9ₘ hₜ2; (injection hₜ2 with p9ₘ p9'ₘ))); subst p9ₘ; subst p9'ₘ); simp only [List.cons_append, List.nil_append] at N9ₘ; ((have l9ₘ := allNe_of (O9ₘ.2 _ (.head _))); replace O9ₘ := O9ₘ.1; (try simp only [AllNe, and_true] at l9ₘ)); k_extra "MY use")) | ((with_reducible show wpAny _ _ (call (Value.ref 572) _) _ _ _); k_dflt (refine' RSpec.use2 (start_tag_F _ _ _ _ _ _ _ _ _ _ ?hkₘ ?hgₘ ?hFₘ ?hcₘ) ?k1ₘ ?k2ₘ ?k3ₘ ?k4ₘ ?k5ₘ ?kKₘ ?kdₘ ?kuₘ ?kpₘ ?_; (case hkₘ => assumption); (case hgₘ => assumption); (case hFₘ => assumption); (case hcₘ => assumption); k_extra "MY rd"; (case kpₘ => exact ⟨PT.At.sub (by assumption) (Fr.keep (by k_asm)), News.get (by k_asm) (by k_extra "MY in"), fun q hq => News.get (by k_asm) (by (repeat (first | (refine (by assumption : ∀ q ∈ tes _, q ∈ _) _ hq) | with_reducible refine List.mem_cons_of_mem _ ?_)))⟩); k_whole); (intros r9ₘ new9ₘ h9ₘ tk9ₘ; intro F9ₘ N9ₘ S9ₘ O9ₘ p9ₘ); ((injection p9ₘ with t9ₘ p9ₘ); subst p9ₘ); replace N9ₘ := News.of_sub N9ₘ (fun q hq => List.mem_append_right _ hq); k_extra "MY use") | refine halt_of ?_)
  trivial
set_option maxRecDepth 100000 in
set_option maxHeartbeats 8000000 in
theorem write_of : ∀ (w : World) (T : PT) (tk0 : Tok) (n0 n1 : NR) (c1 : Nat × Tok) (own1 : Option Str) (K : Nat → Wt) (st1 : DS) (kid : Option Kid) (h0 : T.ns[0]? = some n0) (hk0 : n0.kind = "root") (hc0 : n0.ch = [c1]) (h1 : T.ns[c1.1]? = some n1) (hk1 : n1.kind = "element") (W1 : Wants w T c1.1 n1 own1 K) (G1 : TagOk T n1) (hst1 : dfold (dstart own1 none) (wl K c1.1 n1) = some st1) (hs1 : ∀ u, st1.2.2 = some u → Safes u) (KO : KidOk w T K n1 st1.2.2 kid),
    ESpec w 585 20 [.ref T.b.t, .int 0 tk0] (fun h => T.At w.params h)
      (fun _ r new => ∃ fs t', ResOk T K n1 st1.2.2 kid fs ∧ r = .str (Txt.join "" fs) t') (BadKid K st1.2.2 kid) := by
  have hEpsₑ : EpsOn 0 := ⟨True.intro⟩
  intros w T tk0 n0 n1 c1 own1 K
  intro st1
  intro kid
  intro h0
  intro hk0
  intro hc0
  intro h1
  intro hk1
  intro W1
  intro G1
  intro hst1
  intro hs1
  intro KO
  (intros dp un gd cn cs a ccd cl outer A₀ base h₀ L m news s p loose mean mg mb Q E; intro B F X N Tp hk9 hd hu pre ret bad)
  have hAt := pre
  have hT := hAt.2.1
  have hz0 : n0.ch.length = 1 := by rw [hc0]; rfl
  k_extra "MY readerC"
  (intros L' h' tk' cells; intro F' N' Y B' X' T' lv)
  refine cells1 Y ?_; clear Y; intro oc; refine fun hEₖ dc => ?_; subst hEₖ
  try dsimp only
  try k_fold
  k_steps
  unfold Halt
  rename (Fr _ _ _ _) => F3
  rename (News _ _ _ _) => N3
  (injection (exists_D N3) with fl hfl)
  subst hfl
  refine Assign_ListComp_J F3 (by with_unfolding_all rfl) rfl rfl rfl (by decide) rfl (by decide) rfl rfl rfl ?_
  k_steps
  rename (Fr _ _ _ _) => F4
  rename (News _ _ _ _) => N4
  simp only [hc0, List.map_cons, List.map_nil, List.reverse_cons, List.reverse_nil, List.nil_append] at N4
  refine comp_one (fun y new => ∃ t d o, y = .ref t ∧ new = [(t, tupObj [nv c1, .ref d]), (d, o)] ∧ (d == sysModules) = false ∧ SO w none o) F4 N4 (.head _) ?_ ?_
  · clear F3 F4 N4 N3
    (intros C I D oC oI oD m2 h4; intros tk4 E'; intro F5 N5 hC hx)
    have hlt5 := fun p hp => Heap.lt_size (N5 p hp).1
    k_steps
    all_goals first
      | assumption
      | exact ⟨_, by assumption, by assumption⟩
      | (rename _ ∈ [_, _] => hq9
         rename _ ∈ (_ :: _ :: _ :: _) => hp9
         rcases List.mem_cons.mp hq9 with e9 | hq9
         · rw [e9]; exact Nat.lt_trans (hlt5 _ hp9) (by dsimp only; (k_extra "MY om"))
         · rw [List.mem_singleton.mp hq9]; exact hlt5 _ hp9)
  · clear F3 F4 N4 N3
    (intros J D y new k4 h4; intro tk4; intro hP hD hlt N5 F5)
    (injection hP with t1 hₜ1; (injection hₜ1 with d1 hₜ2; (injection hₜ2 with o1 hₜ3; (refine And.elim ?_ (hₜ3); (try clear hₜ3); intro hₜ4 hₜ5; rcases hₜ4 with rfl; (refine And.elim ?_ (hₜ5); (try clear hₜ5); intro hₜ6 hₜ7; rcases hₜ6 with rfl; (injection hₜ7 with hd1 hS1))))))
    k_steps
    unfold Halt
    rename (Fr _ _ _ _) => F6
    (injection (wr_start N5 hD hlt (by (k_extra "MY om")) (by (k_extra "MY om")) (by (k_extra "MY om")) (by (k_extra "MY om")) (by (k_extra "MY om"))) with R0 hₜ1; (injection hₜ1 with N6 hₜ2; (injection hₜ2 with o1R hₜ3; (injection hₜ3 with o2R hₜ4; (injection hₜ4 with o3R hₜ5; (injection hₜ5 with o4R hₜ6; (injection hₜ6 with o5R hₜ7; (injection hₜ7 with o6R hₜ8; (injection hₜ8 with ht1 hd2)))))))))
    (injection (map_of F6) with M hM)
    refine While_inv (fun n m' news' => ∃ Dl, (∃ u : Str → Option Value, m' = fun y => if y = Str.ofString "left" then some (.ref Dl) else if ([Str.ofString "here", Str.ofString "scope", Str.ofString "pairs", Str.ofString "children"] : List Str).contains y = true then u y else M y) ∧
      ∃ oi left cl fv fs cf R, news' = (L' + 1, oi) :: (Dl, listOf left.toArray cl) :: (fl, listOf fv.toArray cf) :: R ∧ (∃ v0, oi.data = .cell v0) ∧ StrsAre fv fs ∧ Phase w T K c1 n1 own1 st1.2.2 kid R n left fs ∧
        Off (L' + 1) R ∧ Off Dl R ∧ Off fl R ∧ @Ne Nat (L' + 1) Dl ∧ @Ne Nat (L' + 1) fl ∧ @Ne Nat Dl fl) (n₀ := if kid = none then 2 else 3) F6 N6 ⟨D, mixL rfl (fun y h1 h2 => ?_), oc, [.ref t1], k4, [], [], 0, R0, rfl, ⟨_, dc⟩, .nil, ?_, o1R, o2R, o3R, o4R, o5R, o6R⟩ ?_
    · rw [hM]
    · cases kid with
      | none => exact .leaf1 rfl ht1 hd2 hd1 hS1
      | some kd => exact .top rfl ht1 hd2 hd1 hS1
    · clear N5 N6 F6
      ((intros n m₁ news₁ h₁ tk₁; intro F7 N7); (intro hₜ1; (injection hₜ1 with Dl hₜ1; (refine And.elim ?_ (hₜ1); (try clear hₜ1); intro hₜ2 hₜ3; (injection hₜ2 with u hₜ4; rcases hₜ4 with rfl); (injection hₜ3 with oi hₜ5; (injection hₜ5 with left hₜ6; (injection hₜ6 with cl hₜ7; (injection hₜ7 with fv hₜ8; (injection hₜ8 with fs hₜ9; (injection hₜ9 with cf hₜ10; (injection hₜ10 with R hₜ11; (refine And.elim ?_ (hₜ11); (try clear hₜ11); intro hₜ12 hₜ13; rcases hₜ12 with rfl; (first | (refine Exists.elim (hₜ13) ?_; (try clear hₜ13); refine prodI ?_; intro v0; intro hv0; intro hₜ15; (injection hₜ15 with hfv hₜ17; (injection hₜ17 with hph hₜ18; (injection hₜ18 with p1 hₜ19; (injection hₜ19 with p2 hₜ20; (injection hₜ20 with p3 hₜ21; (injection hₜ21 with p4 hₜ22; (injection hₜ22 with p5 p6)))))))) | rcases hₜ13 with ⟨⟨v0, hv0⟩, hfv, hph, p1, p2, p3, p4, p5, p6⟩)))))))))))))
      subst hM
      ((rcases hph.cases h1 hk1 W1 G1 hst1 hs1 KO with hᵤ11 | hᵤ12 | hᵤ13 | hᵤ14) <;> (first | ((fail_if_success (fail_if_success clear hᵤ11)); (refine And.elim ?_ (hᵤ11); (try clear hᵤ11); intro hₜ1 hres; rcases hₜ1 with rfl)) | ((fail_if_success (fail_if_success clear hᵤ12)); (injection hᵤ12 with t hₜ1; (injection hₜ1 with d hₜ2; (injection hₜ2 with o hₜ3; (injection hₜ3 with kd hₜ4; (refine And.elim ?_ (hₜ4); (try clear hₜ4); intro hₜ5 hₜ6; rcases hₜ5 with rfl; (refine And.elim ?_ (hₜ6); (try clear hₜ6); intro hₜ7 hₜ8; rcases hₜ7 with rfl; (refine And.elim ?_ (hₜ8); (try clear hₜ8); intro hₜ9 hₜ10; rcases hₜ9 with rfl; (injection hₜ10 with hkd hₜ11; (injection hₜ11 with hch1 hₜ12; (injection hₜ12 with htR hₜ13; (injection hₜ13 with hdR hₜ14; (injection hₜ14 with hlo hso))))))))))))) | ((fail_if_success (fail_if_success clear hᵤ13)); (injection hᵤ13 with pre9 hₜ1; (injection hₜ1 with t hₜ2; (injection hₜ2 with d hₜ3; (injection hₜ3 with o hₜ4; (injection hₜ4 with k hₜ5; (injection hₜ5 with nn hₜ6; (injection hₜ6 with own hₜ7; (injection hₜ7 with cc hₜ8; (refine And.elim ?_ (hₜ8); (try clear hₜ8); intro hₜ9 hₜ10; rcases hₜ9 with rfl; (refine And.elim ?_ (hₜ10); (try clear hₜ10); intro hₜ11 LA; rcases hₜ11 with rfl))))))))))) | ((fail_if_success (fail_if_success clear hᵤ14)); (injection hᵤ14 with tr hₜ1; (refine And.elim ?_ (hₜ1); (try clear hₜ1); intro hₜ2 hₜ3; rcases hₜ2 with rfl; (refine And.elim ?_ (hₜ3); (try clear hₜ3); intro hₜ4 hₜ5; rcases hₜ4 with rfl; (injection hₜ5 with htr hres)))))))
      · k_steps
        rename (News _ _ _ _) => N8
        refine join_listW (ys := fs) (News.isList N8 (.tail _ (.tail _ (.tail _ (.head _))))) hfv (by decide) (res_len hres G1 hs1 KO) ?_
        (intros t2 k2)
        k_steps
        exact ret _ _ _ _ (by assumption) (by assumption) (by assumption) (by assumption) ⟨fs, _, hres, rfl⟩
      · k_steps
        have hfl := strs_len hfv
        simp only [List.length_nil] at hfl
        unfold Halt
        rename (Fr _ _ _ _) => F8
        rename (News _ _ _ _) => N8
        refine ESpec.use (declared_of w T c1.1 c1.2 n1 d o none own1 K W1 hlo hso) B' F8 X' N8 T' rfl (by (try dsimp only [ktrTop, Around.deeper]); (k_extra "MY om")) (by (try dsimp only [ktrTop, Around.deeper]); (k_extra "MY om")) ⟨hAt.sub F8.keep, (N8 _ (.tail _ (.tail _ (.tail _ (.tail _ hdR))))).1⟩ ?_ ?_
        · ((intros r9 new9 h9 tk9; intro F9 N9 S9 O9); (intro hₜ6; (injection hₜ6 with st hₜ1; (injection hₜ1 with x9 hₜ2; (injection hₜ2 with e9 hₜ3; (injection hₜ3 with G9 hₜ4; (injection hₜ4 with hst9 hₜ5; (refine And.elim ?_ (hₜ5); (try clear hₜ5); intro hₜ6 hₜ7; rcases hₜ6 with rfl; (injection hₜ7 with hG9 hₜ8; (injection hₜ8 with hx9 hq9))))))))))
          obtain rfl : st = st1 := Option.some.inj (hst9.symm.trans hst1)
          (injection (wr_decl N9 O9.2 p1 p2 p3) with R' hₜ1; (injection hₜ1 with N10 hₜ2; (injection hₜ2 with hR' hₜ3; (injection hₜ3 with hn' hₜ4; (injection hₜ4 with q1 hₜ5; (injection hₜ5 with q2 q3))))))
          have hx10 := hn' _ hx9
          have hq10 : ∀ q ∈ tes G9, q ∈ R' := fun q hq => hn' _ (hq9 q hq)
          have hd10 := hR' _ hdR
          clear N8 F8 N9 O9 S9
          k_steps
          unfold Halt
          rename (Fr _ _ _ _) => F11
          rename (News _ _ _ _) => N11
          have hxN := News.get N11 (show (x9, listOf (ters G9).toArray e9) ∈ _ by k_extra "MY in")
          have hdN := News.get N11 (show (d, o) ∈ _ by k_extra "MY in")
          refine RSpec.use2 (inner_scope_F w d x9 G9 st.2.2 o e9 hlo hso hG9) B' F11 X' N11 T' rfl (by (try dsimp only [ktrTop, Around.deeper]); (k_extra "MY om")) (by (try dsimp only [ktrTop, Around.deeper]); (k_extra "MY om")) ⟨hdN, hxN, fun q hq => News.get N11 (by (repeat (first | exact hq10 _ hq | with_reducible refine List.mem_cons_of_mem _ ?_)))⟩ ?_
          ((intros r9 new9' h9' tk9'; intro F12 N12 S9' O9'); (intro hₜ6; (injection hₜ6 with di hₜ1; (injection hₜ1 with oi' hₜ2; (refine And.elim ?_ (hₜ2); (try clear hₜ2); intro hₜ3 hₜ4; rcases hₜ3 with rfl; (injection hₜ4 with hmi hₜ5; (injection hₜ5 with hloi hsoi)))))))
          replace N12 := News.pick N12 hmi
          have l9 := allNe_of (O9'.2 _ hmi)
          simp only [AllNe, and_true] at l9
          clear N11 F11 O9' S9' hxN hdN hmi
          k_steps
          unfold Halt
          rename (Fr _ _ _ _) => F13
          have hkz : n1.ch.length = 1 := by rw [hch1]; rfl
          refine ListComp_J F13 rfl rfl (by decide) rfl (by decide) rfl ?_
          k_steps
          rename (Fr _ _ _ _) => F14
          rename (News _ _ _ _) => N14
          simp only [hch1, List.map_cons, List.map_nil, List.reverse_cons, List.reverse_nil, List.nil_append] at N14
          refine comp_one (fun y new => ∃ t, y = .ref t ∧ new = [(t, tupObj [nv kd.1, .ref di])]) F14 N14 (.head _) ?_ ?_
          · clear F13 F14 N14
            (intros C I D oC oI oD m2 h4; intros tk4 E'; intro F5 N5 hC hx)
            have hlt5 := fun p hp => Heap.lt_size (N5 p hp).1
            k_steps
            all_goals first
              | assumption
              | (rename _ ∈ [_] => hq9
                 rename _ ∈ (_ :: _ :: _ :: _) => hp9
                 rw [List.mem_singleton.mp hq9]; exact tb_ltOf (by assumption) _ hp9)
          · clear F13 F14 N14
            (intros J D8 y new k8 h4; intro tk4; intro hP hD8 hlt8 N5 F5)
            (injection hP with t8 hₜ1; (refine And.elim ?_ (hₜ1); (try clear hₜ1); intro hₜ2 hₜ3; rcases hₜ2 with rfl; rcases hₜ3 with rfl))
            simp only [List.cons_append, List.nil_append] at N5 hD8 hlt8
            have aD8 := allNe_of hD8
            have at8 := allLt_of (hlt8 _ (.head _))
            simp only [AllNe, AllLt, and_true] at aD8 at8
            clear hD8 hlt8
            k_steps
            rename (Fr _ _ _ _) => F15
            rename (News _ _ _ _) => N15
            try simp only [List.push_toArray, List.nil_append, List.cons_append] at N15
            (injection (wr_back N15 (by repeat (first | exact Mid.nil | refine Mid.cons (by k_ne) (by k_ne) (by k_ne) ?_)) q1 q3 (fun p hp => Nat.ne_of_lt (tb_ltOf (by assumption) p hp)) p4 p6) with R9 hₜ1; (injection hₜ1 with N16 hₜ2; (injection hₜ2 with o1 hₜ3; (injection hₜ3 with o2 hₜ4; (injection hₜ4 with o3 hₜ5; (injection hₜ5 with o4 hₜ6; (injection hₜ6 with o5 hin9)))))))
            refine WhileStep.intro (n' := 2) F15 N16 (by decide) ⟨_, mixL rfl (fun y e1 e2 => ?_), _, _, _, _, _, _, R9, rfl, ⟨_, by assumption⟩, strs_snoc hfv, ?_, o1, o2, o3, o4, p5, o5⟩
            · have ne : ∀ a : Str, ([Str.ofString "here", Str.ofString "scope", Str.ofString "pairs", Str.ofString "children"] : List Str).contains a = true → y ≠ a := fun a ha e => by (replace e2 := e2; rw [e, ha] at e2); cases e2
              have a1 := ne (Str.ofString "here") (by decide +kernel)
              have a2 := ne (Str.ofString "scope") (by decide +kernel)
              have a3 := ne (Str.ofString "pairs") (by decide +kernel)
              have a4 := ne (Str.ofString "children") (by decide +kernel)
              simp only [a1, a2, a3, a4, e1, e2, if_false, Bool.false_eq_true]
            · (first | (injection kd with c2 hₜ1; (injection hₜ1 with n2 own2)) | rcases kd with ⟨c2, n2, own2⟩)
              exact .leaf2 hkd (hin9 _ (by k_extra "MY in") (by k_ne) (by k_ne)) (hin9 _ (by k_extra "MY in") (by k_ne) (by k_ne)) (hin9 _ (by k_extra "MY in") (by k_ne) (by k_ne)) hloi hsoi
        · (intros e h9 tk9; intro hb)
          (replace hb := hb; rw [show dfold (dstart own1 none) (K c1.1 :: n1.at'.map (K ·.1)) = some st1 from hst1] at hb)
          cases hb
      · have htR := LA.ht
        have hkn := LA.kind
        have hkk := LA.hk
        have hpl := LA.pl
        have hfl := strs_len hfv
        have hfl2 := LA.fl
        k_steps
        unfold Halt
        rename (Fr _ _ _ _) => F8
        rename (News _ _ _ _) => N8
        refine ESpec.use (declared_of w T k.1 k.2 nn d o cc own K LA.wants LA.lo LA.so) B' F8 X' N8 T' rfl (by (try dsimp only [ktrTop, Around.deeper]); (k_extra "MY om")) (by (try dsimp only [ktrTop, Around.deeper]); (k_extra "MY om")) ⟨hAt.sub F8.keep, (N8 _ (.tail _ (.tail _ (.tail _ (.tail _ LA.hd))))).1⟩ ?_ ?_
        · ((intros r9 new9 h9 tk9; intro F9 N9 S9 O9); (intro hₜ2; (injection hₜ2 with st hₜ1; (injection hₜ1 with x9 hₜ2; (injection hₜ2 with e9 hₜ3; (injection hₜ3 with G9 hₜ4; (injection hₜ4 with hst9 hₜ5; (refine And.elim ?_ (hₜ5); (try clear hₜ5); intro hₜ6 hₜ7; rcases hₜ6 with rfl; (injection hₜ7 with hG9 hₜ8; (injection hₜ8 with hx9 hq9))))))))))
          (injection (wr_decl N9 O9.2 p1 p2 p3) with R' hₜ1; (injection hₜ1 with N10 hₜ2; (injection hₜ2 with hR' hₜ3; (injection hₜ3 with hn' hₜ4; (injection hₜ4 with q1 hₜ5; (injection hₜ5 with q2 q3))))))
          have hx10 := hn' _ hx9
          have hq10 : ∀ q ∈ tes G9, q ∈ R' := fun q hq => hn' _ (hq9 q hq)
          have hsf := LA.safe st hst9
          have htg := LA.tag
          have hch0 := LA.ch
          clear N8 F8 N9 O9 S9
          k_steps
          rename (Fr _ _ _ _) => F15
          rename (News _ _ _ _) => N15
          try simp only [List.push_toArray, List.nil_append, List.cons_append] at N15
          (injection (wr_same N15 (by repeat (first | exact Mid.nil | refine Mid.cons (by k_ne) (by k_ne) (by k_ne) ?_)) q1 q2 q3) with R9 hₜ1; (injection hₜ1 with N16 hₜ2; (injection hₜ2 with o1 hₜ3; (injection hₜ3 with o2 hₜ4; (injection hₜ4 with o3 hin9)))))
          (injection (LA.next st R9 hst9 fun q hq => hin9 _ (hR' _ hq)) with n9 hₜ1; (injection hₜ1 with hn9 hph9))
          refine WhileStep.intro (n' := n9) F15 N16 hn9 ⟨_, mixL rfl (fun y e1 e2 => ?_), _, _, _, _, _, _, R9, rfl, ⟨_, hv0⟩, strs_snoc hfv, hph9, o1, o2, o3, p4, p5, p6⟩
          have ne : ∀ a : Str, ([Str.ofString "here", Str.ofString "scope", Str.ofString "pairs", Str.ofString "children"] : List Str).contains a = true → y ≠ a := fun a ha e => by (replace e2 := e2; rw [e, ha] at e2); cases e2
          have a1 := ne (Str.ofString "here") (by decide +kernel)
          have a2 := ne (Str.ofString "scope") (by decide +kernel)
          have a3 := ne (Str.ofString "pairs") (by decide +kernel)
          have a4 := ne (Str.ofString "children") (by decide +kernel)
          simp only [a1, a2, a3, a4, e1, e2, if_false, Bool.false_eq_true]
        · (intros e h9 tk9; intro hb R)
          refine raise_on B' F8 R rfl fun h'' R' => bad _ _ _ (LA.bad hb) R'
      · have hn1 : Len 50 n1.name := G1.nm
        have hfl := strs_len hfv
        have hfl2 := res_count hres
        (replace hfl2 := hfl2; rw [List.length_append, List.length_singleton] at hfl2)
        k_steps
        rename (Fr _ _ _ _) => F15
        rename (News _ _ _ _) => N15
        try simp only [List.push_toArray, List.nil_append, List.cons_append] at N15
        (injection (wr_same N15 (by repeat (first | exact Mid.nil | refine Mid.cons (by k_ne) (by k_ne) (by k_ne) ?_)) p1 p2 p3) with R9 hₜ1; (injection hₜ1 with N16 hₜ2; (injection hₜ2 with o1 hₜ3; (injection hₜ3 with o2 hₜ4; (injection hₜ4 with o3 hin9)))))
        refine WhileStep.intro (n' := 0) F15 N16 (by decide) ⟨_, mixL rfl (fun y e1 e2 => ?_), _, _, _, _, _, _, R9, rfl, ⟨_, hv0⟩, strs_snoc hfv, .done hres, o1, o2, o3, p4, p5, p6⟩
        have ne : ∀ a : Str, ([Str.ofString "here", Str.ofString "scope", Str.ofString "pairs", Str.ofString "children"] : List Str).contains a = true → y ≠ a := fun a ha e => by (replace e2 := e2; rw [e, ha] at e2); cases e2
        have a1 := ne (Str.ofString "here") (by decide +kernel)
        have a2 := ne (Str.ofString "scope") (by decide +kernel)
        have a3 := ne (Str.ofString "pairs") (by decide +kernel)
        have a4 := ne (Str.ofString "children") (by decide +kernel)
        simp only [a1, a2, a3, a4, e1, e2, if_false, Bool.false_eq_true]
set_option linter.unusedVariables false
/-- a fault that lands: the ground is turned at the caller's frame -/
theorem raise_catch {prog : Program} {w : World} {A : Around} {E : Value → Shared → Prop} {s' : Shared} {base g G : Heap} {cn : Str} {cs : Scope} {L a L1 : Addr} {ccd : Value} {cl : List (Str × Addr)} {envL : Env} {m : Str → Option Value} {news : List (Addr × Obj)} {e : Addr}
    {b₀ : Stmt} {suite : List Stmt} {pos np : Pos} {rest : List ExceptHandler} {Q : Flow → Shared → Prop} {K : Frag} {p : Program} {loose : List Str} {mean : ExcName → Option Value} {mg mb : Str → Option Value} {x : Str}
    (Bl : Below A base [envL] g) (hfL : envL.frame = some L1) (F : Fr g L G m) (N : News g L G news) (R : RaisedX G base [envX cn cs L a ccd cl, envL] e s'.heap) (X : K.In base) (T : Top p loose mean mg mb base)
    (h108 : K.lookup 108 = some tf108) (ex : nsIn K mainGlobals x = some (some (.ref 108))) (hk : cs.kind = .function) (hx : (envX cn cs L a ccd cl).kindOf x = some .globalImplicit) (hd : (x == ("__debug__" : Str)) = false)
    (k : ∀ h' g' oe vs, KtsTurn [L1] g g' → Fr g' L h' m → News g' L h' ((e, oe) :: news) → oe.data = .fields vs → vs[2]? = some .none → Below A base [envL] g' → K.In g' → Top p loose mean mg mb g' →
      wpAny (model prog w) ((A.deeper (envX cn cs L a ccd cl)).mark (some (.ref e))) (execs (b₀ :: suite) (envX cn cs L a ccd cl)) Q E { s' with heap := h' })
    (hE : PassesOwnAt (model prog w) ((A.deeper (envX cn cs L a ccd cl)).mark (some (.ref e))) (A.deeper (envX cn cs L a ccd cl)) (envX cn cs L a ccd cl) E := by passes_own) :
    wpAny (model prog w) (A.deeper (envX cn cs L a ccd cl)) (noteFrame (.ref e) (envX cn cs L a ccd cl))
      (fun _ s₂ => wpAny (model prog w) (A.deeper (envX cn cs L a ccd cl)) (setFlight (.ref e) none) (fun _ s₃ =>
        wpAny (model prog w) (A.deeper (envX cn cs L a ccd cl)) (handleBy (.ref e) (envX cn cs L a ccd cl) (.ExceptHandler (some (.Name x np)) none (b₀ :: suite) pos :: rest)) Q E s₃) E s₂) E s' := by
  obtain ⟨B, hB, hG, hfl, hup⟩ := R
  have hL1 : ∃ o, g.get? L1 = some o := by
    obtain ⟨L', o, hf, ho⟩ := funFrames_in Bl.frames envL (.head _)
    rw [hfL] at hf
    cases hf
    exact ⟨o, ho⟩
  have hL1d : ∀ o, g.get? L1 = some o → ∀ vs, o.data ≠ .fields vs := by
    intro o ho
    obtain ⟨_, o', ho', hn⟩ := Bl.frames.mem (b := L1) (List.mem_filterMap.mpr ⟨envL, .head _, hfL⟩)
    rw [ho] at ho'; cases ho'; exact hn
  have hLg := fr_none F
  -- the turned ground
  have ground : ∀ h' : Heap, B.StaysIn h' → G.UpToSlots h' → ∃ g', KtsTurn [L1] g g' ∧ (∀ b o, g'.get? b = some o → h'.get? b = some o) := fun h' st up => by
    have h1 : ∀ b o, g.get? b = some o → b ∉ [L1] → h'.get? b = some o := fun b o q hn => st b o (hG b o (F.keep _ _ q) (fun hm => by
      rw [List.filterMap_cons, List.filterMap_cons] at hm
      rw [hfL] at hm
      rcases List.mem_cons.mp hm with hm | hm
      · rw [hm, hLg] at q; cases q
      · rcases List.mem_cons.mp hm with hm | hm
        · exact hn (List.mem_singleton.mpr hm)
        · cases hm))
    obtain ⟨T1, S1⟩ := kts_turn_at (fs := [L1]) (g := g) (h := h') (fun b hb => by rw [List.mem_singleton.mp hb]; exact hL1) h1 (fun b o q hb => up b o (F.keep _ _ q) (by rw [List.mem_singleton.mp hb] at q; exact hL1d o q))
    exact ⟨_, T1, S1⟩
  have frame : ∀ h' g', B.StaysIn h' → G.UpToSlots h' → KtsTurn [L1] g g' → (∀ b o, g'.get? b = some o → h'.get? b = some o) → Fr g' L h' m ∧ News g' L h' news ∧ Below A base [envL] g' ∧ K.In g' ∧ Top p loose mean mg mb g' := by
    intro h' g' st up T1 S1
    have hbn : ∀ b o, base.get? b = some o → b ≠ L1 := fun b o q z => by
      have := (Bl.frames.mem (b := L1) (List.mem_filterMap.mpr ⟨envL, .head _, hfL⟩)).1
      rw [← z, q] at this; cases this
    have B2 : Below A base [envL] g' := ⟨Bl.stack, fun b o q => T1.other b o (Bl.stays b o q) (fun hm => hbn b o q (List.mem_singleton.mp hm)), Bl.frames.of_keeps fun b o q _ => by
      obtain ⟨sl, hs⟩ := T1.up q
      exact ⟨_, hs, rfl⟩⟩
    refine ⟨⟨?_, S1, by rw [T1.size]; exact F.above⟩, fun q hq => ⟨st _ _ (hG _ _ (N q hq).1 fun hm => ?_), (N q hq).2.1, T1.none_ _ (N q hq).2.2⟩, B2, ?_, ?_⟩
    · obtain ⟨o, es, ep, ho, hd9, r⟩ := F.ns
      obtain ⟨sl, hs⟩ := up L o ho (fun vs q => by rw [hd9] at q; cases q)
      exact ⟨_, es, ep, hs, hd9, r⟩
    · rw [List.filterMap_cons, List.filterMap_cons] at hm
      rw [hfL] at hm
      rcases List.mem_cons.mp hm with hm | hm
      · exact (N q hq).2.1 hm
      · rcases List.mem_cons.mp hm with hm | hm
        · obtain ⟨o, ho⟩ := hL1
          have := (N q hq).2.2
          rw [show q.1 = L1 from hm, ho] at this; cases this
        · cases hm
    · exact X.keeps B2.stays
    · exact T.keeps B2.stays
  have hen : g.get? e = none ∧ e ≠ L := by
    obtain ⟨k1, k2, k3, oe, vs, T9, oT, ts, he, hp, hd9, _⟩ := hfl
    have nf : e ∉ [envX cn cs L a ccd cl, envL].filterMap (·.frame) := fun hm => by
      obtain ⟨_, o, ho, hnf⟩ := k3.mem hm
      rw [he] at ho; cases ho; exact hnf vs hd9
    refine ⟨?_, fun z => nf (List.mem_filterMap.mpr ⟨_, .head _, by rw [z]⟩)⟩
    cases q : g.get? e with
    | none => rfl
    | some o => have := hG e o (F.keep _ _ q) nf; rw [k2] at this; cases this
  refine noteP told_PX (Around.frames_deeper Bl.stack) rfl hfl fun h₄ hheld₄ hsm₄ => ?_
  refine unfly hheld₄.1 hheld₄ fun h₅ hheld hsm₅' => ?_
  have hsm₅ := hsm₄.trans hsm₅'
  obtain ⟨g₅, T₅, S₅⟩ := ground h₅ hheld.1 (hup.trans hsm₅)
  obtain ⟨F₅, N₅, B₅, X₅, Tp₅⟩ := frame h₅ g₅ hheld.1 (hup.trans hsm₅) T₅ S₅
  obtain ⟨ob, vs5, hob, hobc⟩ : ∃ ob vs, h₅.get? e = some ob ∧ PX ob.cls vs := by
    obtain ⟨_, _, _, oe, vs, _, _, _, he, hp, _⟩ := hheld
    exact ⟨oe, vs, he, hp⟩
  refine wpAny_handleBy_cons (codeAny_handlers_test (Name_function_global hk hx (loadGlobal_global (env := envX cn cs L a ccd cl) (Tp₅.g.keeps F₅.keep) (mg_of X₅ Tp₅.g ex) ?_) hd)) (by intro q; cases q)
  refine wpAny_excMatches_sub_self (X₅ _ _ h108 |> F₅.keep _ _) hob hobc.1 (by decide) (codeAny_handlers_suite ?_)
  refine unfly hheld.1 hheld fun h₆ hfl₆ hsm₆ => ?_
  obtain ⟨g₆, T₆, S₆⟩ := ground h₆ hfl₆.1 ((hup.trans hsm₅).trans hsm₆)
  obtain ⟨F₆, N₆, B₆, X₆, Tp₆⟩ := frame h₆ g₆ hfl₆.1 ((hup.trans hsm₅).trans hsm₆) T₆ S₆
  obtain ⟨_, _, _, oe, vs, _, _, _, he, hp, hd6, _⟩ := hfl₆
  refine wpAny_passesOwnAt hE (k h₆ g₆ oe vs T₆ F₆ (fun q hq => ?_) hd6 hp.2 B₆ X₆ Tp₆)
  rcases List.mem_cons.mp hq with z | hq
  · rw [z]; exact ⟨he, hen.2, T₆.none_ _ hen.1⟩
  · exact N₆ q hq
theorem entry_unchain : entryFor table "proto.unchain" = some Builtin.«proto.unchain» := entryFor_of_fast (by kernel_rfl)
/-- an iteration over a list that ends within an except suite -/
theorem pyNext_end_h {prog : Program} {w : World} {A : Around} {E : Value → Shared → Prop} {s : Shared} {it l e : Addr} {i : Nat} {items : Array Value} {oe : Obj} {vs : Array Value} {Q : Option Value → Shared → Prop} (hh : A.handled = some (.ref e)) (he : s.heap.get? e = some oe) (hd : oe.data = .fields vs) (h2 : vs[2]? = some .none)
    (hit : s.heap.IsListIter it l i) (hl : s.heap.IsList l items) (hx : items[i]? = none) (hne : e ≠ it)
    (hQ : ∀ h', Heap.ExtBut it s.heap h' → Q none { s with heap := h' }) : wpAny (model prog w) A (pyNext (.ref it)) Q E s := by
  obtain ⟨o, ho, hc, hdi⟩ := id hit
  obtain ⟨ol, hol, _, nl, hdl⟩ := hl
  unfold pyNext
  refine wpAny_bind (wpAny_attempt (wpAny_callSpecial?_slot (name := Str.ofString "__next__") hit.typeIs slot_listiter_next
    (wpAny_call_entry slot_listiter_next hit.typeIs entry_listiter_next ?_ (args_listiter_next _))))
  show wpAny _ _ (field (.ref it) 0 >>= _) _ _ s
  refine wpAny_bind (wpAny_field ho hdi (x := .ref l) rfl ?_)
  show wpAny _ _ (if (Value.ref l == Value.none) = true then _ else _) _ _ s
  rw [if_neg (show ¬ ((Value.ref l == Value.none) = true) from Bool.false_ne_true)]
  show wpAny _ _ (field (.ref it) 1 >>= _) _ _ s
  refine wpAny_bind (wpAny_field ho hdi (x := .int i 0) rfl ?_)
  show wpAny _ _ (seqItems? (.ref l) >>= _) _ _ s
  refine wpAny_bind (wpAny_seqItems hol hdl ?_)
  simp only [Int.toNat_natCast, hx]
  refine wpAny_bind (wpAny_rule (wpAny_bind (wpAny_setField ho hdi (by simp) ?_)))
  have x1 : Heap.ExtBut it s.heap (s.heap.update it (Obj.mapFields (·.setIfInBounds 0 Value.none))) := (Heap.SameBut.update ..).extBut
  generalize s.heap.update it (Obj.mapFields (·.setIfInBounds 0 Value.none)) = H1 at x1 ⊢
  have he1 : H1.get? e = some oe := x1 e oe hne he
  show wpAny _ _ (newExc (.type "StopIteration") [] >>= _) _ _ _
  refine wpAny_bind ?_
  simp only [newExc, newTuple]
  refine wpAny_bind (wpAny_newObj_type ?_ (by size_fits))
  refine wpAny_bind (m := firstArgMember _ _) (wpAny_of_eq (a := Value.none) (by first | rfl | (simp only [firstArgMember]; rfl)) ?_)
  refine wpAny_newObj_type ?_ (by size_fits)
  simp only [raiseNew]
  refine wpAny_bind (wpAny_handled ?_)
  rw [show A.in1.handled = some (.ref e) from hh]
  have helt : @LT.lt Nat _ e H1.objs.size := Heap.lt_size he1
  have hne2 : e ≠ (H1.push { cls := .type "tuple", data := .seq #[] }).objs.size := by
    have q : (H1.push { cls := .type "tuple", data := .seq #[] }).objs.size = H1.objs.size + 1 := Heap.size_push ..
    rw [q]; exact Nat.ne_of_lt (Nat.lt_succ_of_lt helt)
  have he2 := Heap.get?_push_of_some (h := H1.push { cls := .type "tuple", data := .seq #[] }) { cls := .type "StopIteration", data := .fields (#[.ref H1.objs.size, .none, .none, .none, .bool false, .none] ++ ownMembersOf (.type "StopIteration") []) } (Heap.get?_push_of_some { cls := .type "tuple", data := .seq #[] } he1)
  have x2 : Heap.ExtBut it s.heap ((H1.push { cls := .type "tuple", data := .seq #[] }).push { cls := .type "StopIteration", data := .fields (#[.ref H1.objs.size, .none, .none, .none, .bool false, .none] ++ ownMembersOf (.type "StopIteration") []) }) := (x1.push _).push _
  have hnew : ((H1.push { cls := .type "tuple", data := .seq #[] }).push { cls := .type "StopIteration", data := .fields (#[.ref H1.objs.size, .none, .none, .none, .bool false, .none] ++ ownMembersOf (.type "StopIteration") []) }).get? (H1.push { cls := .type "tuple", data := .seq #[] }).objs.size = some { cls := .type "StopIteration", data := .fields (#[.ref H1.objs.size, .none, .none, .none, .bool false, .none] ++ ownMembersOf (.type "StopIteration") []) } := Heap.get?_push_size _ rfl
  have hsn : ∀ b o', s.heap.get? b = some o' → b ≠ it → b ≠ (H1.push { cls := .type "tuple", data := .seq #[] }).objs.size := fun b o' hb hbi => by
    have q : (H1.push { cls := .type "tuple", data := .seq #[] }).objs.size = H1.objs.size + 1 := Heap.size_push ..
    rw [q]; exact Nat.ne_of_lt (Nat.lt_succ_of_lt (Heap.lt_size (x1 b o' hbi hb)))
  generalize (H1.push { cls := .type "tuple", data := .seq #[] }).objs.size = nw at hne2 hnew hsn ⊢
  generalize (H1.push { cls := .type "tuple", data := .seq #[] }).push { cls := .type "StopIteration", data := .fields (#[.ref H1.objs.size, .none, .none, .none, .bool false, .none] ++ ownMembersOf (.type "StopIteration") []) } = H2 at he2 x2 hnew ⊢
  show wpAny _ _ (if (Value.ref e != Value.ref nw) = true then (do let _ ← holding [.ref nw] (runValue (.builtin "proto.unchain" ⟨[.ref nw, .ref e, .ref e, .bool false], []⟩)); updateField nw 2 (.ref e); throw (.ref nw)) else throw (.ref nw)) _ _ _
  rw [if_pos (by simp [hne2])]
  refine wpAny_bind (wpAny_holding (wpAny_runValue (codeAny_builtin entry_unchain ?_)))
  unfold Builtin.«proto.unchain»
  refine wpAny_bind (wpAny_field he2 hd h2 ?_)
  rw [if_pos (by rfl)]
  refine wpAny_bind (wpAny_pure ?_)
  refine wpAny_pure ?_
  show wpAny _ _ (updateField nw 2 (.ref e) >>= fun _ => throw (.ref nw)) _ _ _
  unfold updateField
  refine wpAny_bind (wpAny_bind (wpAny_load hnew ?_))
  dsimp only
  rw [if_pos (by simp only [Array.size_append]; exact Nat.lt_of_lt_of_le (by decide : 2 < 6) (Nat.le_add_right _ _))]
  refine wpAny_update' hnew ?_
  refine wpAny_throw ?_
  have hu := Heap.get?_update_self (Obj.mapFields (·.setIfInBounds 2 (Value.ref e))) hnew (Obj.isFreed_of_fields (Obj.data_mapFields rfl _))
  refine wpAny_bind (wpAny_isInstance (T := "StopIteration") (b := true) ⟨_, hu, Obj.cls_mapFields _ _⟩ isSubtype_stop ?_)
  refine wpAny_pure (hQ _ fun b o' hb hbo => ?_)
  exact (Heap.get?_update_other _ _ (Ne.symm (hsn b o' hbo hb))).trans (x2 b o' hb hbo)
set_option linter.unusedVariables false
section
variable {prog : Program} {w : World} {A : Around} {E : Value → Shared → Prop} {s : Shared} {h₀ : Heap} {L : Addr} {m : Str → Option Value} {env : Env} {R : Result → Shared → Prop}
/-- a loop that only reads, over tuples of three -/
theorem compT_loop : ∀ {prog : Program} {w : World} {A : Around} {s : Shared} {h₀ : Heap} {L : Addr} {m : Str → Option Value} {env : Env} {R : Result → Shared → Prop} {elt iter : PySem.Expr} {x1 x2 x3 : Str} {q1 q2 q3 tp : Pos} {kx : _} {scope : Scope} {pos : Pos} {C I D l c : Addr} {vs : List Value} {cl : List (Str × Addr)} {news : List (Addr × Obj)} (f : Nat → Value → Prop) (hh : A.handled = none) (B : Blk h₀ L C I D) (hkind : scope.kind = .function) (hx1 : scope.names.lookup x1 = some .local) (hx2 : scope.names.lookup x2 = some .local) (hx3 : scope.names.lookup x3 = some .local) (h12 : x1 ≠ x2) (h13 : x1 ≠ x3) (h23 : x2 ≠ x3) (hsz : vs.length ≤ sizeLine) (hol : (l, listOf vs.toArray c) ∈ news ∨ h₀.get? l = some (listOf vs.toArray c)) (tup : ∀ v ∈ vs, ∃ t v1 v2 v3, v = .ref t ∧ h₀.get? t = some { cls := .type "tuple", data := .seq #[v1, v2, v3] }) (G : Gnd h₀ L m s.heap C I D l 0 news) (hD : s.heap.PlainList D #[]) (turn : ∀ i t v1 v2 v3 h tk oC oI oD m₂ E', vs[i]? = some (.ref t) → h₀.get? t = some { cls := .type "tuple", data := .seq #[v1, v2, v3] } → Fr h₀ L h m → News h₀ L h ((C, oC) :: (I, oI) :: (D, oD) :: news) → LCg.NsObj oC m₂ → m₂ x1 = some v1 → m₂ x2 = some v2 → m₂ x3 = some v3 →
      wpAny (model prog w) A (eval elt (compEnvC scope cl C env)) (fun y s₃ => ∃ h' tk', s₃ = { s with heap := h', toks := tk' } ∧ Fr h₀ L h' m ∧ News h₀ L h' ((C, oC) :: (I, oI) :: (D, oD) :: news) ∧ f i y) E' { s with heap := h, toks := tk }) (hR : ∀ h' tk (ys : List Value) k mC, Fr h₀ L h' m → h'.Ns C mC → News h₀ L h' ((D, listOf ys.toArray k) :: news) → (∀ i y, ys[i]? = some y → f i y) → ys.length = vs.length → R (.ok .next) { s with heap := h', toks := tk }),
    codeAny (model prog w) A (.compLoop (.ListComp elt [⟨.Tuple [.Name x1 q1, .Name x2 q2, .Name x3 q3] kx tp, iter, [], 0⟩] scope pos) 0 (.ref I) (.ref D) (compEnvC scope cl C env)) R s := by
  have hEpsₑ : EpsOn 0 := ⟨True.intro⟩
  intros prog w A s h₀ L m env R elt iter x1
  intros x2 x3 q1 q2 q3 tp
  intro kx
  intros scope pos C I D l c vs
  intros cl news f
  intro hh
  intro B
  intro hkind
  intro hx1
  intro hx2
  intro hx3
  intro h12
  intro h13
  intro h23
  intro hsz
  intro hol
  intro tup
  intro G
  intro hD
  intro turn
  intro hR
  have hC : (compEnvC scope cl C env).locals = C := rfl
  refine PyProof.Rows.LCp.codeAny_compLoop_pair
    (fun k s' => ∃ h' tk, ∃ i : Nat, ∃ ys, s' = { s with heap := h', toks := tk } ∧ Gnd h₀ L m h' C I D l i news ∧ h'.PlainList D (ys : List Value).toArray ∧ (∀ i y, ys[i]? = some y → f i y) ∧ ys.length = i ∧ i ≤ vs.length ∧ k = vs.length + 1 - i) ?_ (vs.length + 1)
    ⟨s.heap, s.toks, 0, [], rfl, G, hD, (by (intros i y h); simp at h), rfl, Nat.zero_le _, rfl⟩
  ((intros k s'); (intro hₜ5; (injection hₜ5 with h' hₜ1; (injection hₜ1 with tk hₜ2; (injection hₜ2 with i hₜ3; (injection hₜ3 with ys hₜ4; (refine And.elim ?_ (hₜ4); (try clear hₜ4); intro hₜ5 hₜ6; rcases hₜ5 with rfl; (injection hₜ6 with G' hₜ7; (injection hₜ7 with hD' hₜ8; (injection hₜ8 with hJ' hₜ9; (injection hₜ9 with hys hₜ10; (injection hₜ10 with hi hₜ11; rcases hₜ11 with rfl))))))))))))
  have hl' : h'.IsList l vs.toArray := by
    rcases hol with q | q
    · exact ⟨_, (G'.N _ q).1, rfl, _, rfl⟩
    · exact ⟨_, G'.F.keep _ _ q, rfl, _, rfl⟩
  have hlI : l ≠ I := by
    rcases hol with q | q
    · exact (G'.ap _ q).2.1
    · intro e; (replace q := q; rw [e, B.i0] at q); cases q
  have W := Walks.list (prog := prog) (w := w) hh I l hlI vs.toArray
  rcases Nat.lt_or_ge i vs.length with hlt | hge
  · refine W.item i _ _ _ (by simpa using hlt) ⟨G'.it, hl'⟩ ?_
    (intros v h₁ tk₁; intro hv; intro st₁; intro hk₁)
    have hv : vs[i]? = some v := by simpa using hv
    (injection (tup v (List.mem_of_getElem? hv)) with t hₜ1; (injection hₜ1 with v1 hₜ2; (injection hₜ2 with v2 hₜ3; (injection hₜ3 with v3 hₜ4; (refine And.elim ?_ (hₜ4); (try clear hₜ4); intro hₜ5 ht0; rcases hₜ5 with rfl)))))
    (injection (G'.ns) with mC hns)
    have x₁ := extBut_of hk₁
    (injection (G'.but x₁ (.inr (.inl rfl)) B) with F₁ N₁)
    have G₁ : Gnd h₀ L m h₁ C I D l (i + 1) news := ⟨F₁, N₁, G'.ap, st₁.1, mC, hns.extBut x₁ B.ci⟩
    refine wpAny_letOwnedTupleGo_listiter st₁.1 ?_
    refine assign_Tuple_tuple hh (items := #[v1, v2, v3]) ⟨_, F₁.keep _ _ ht0, rfl, _, rfl⟩ rfl rfl ?_
    intro h₂ he
    have he' : ∀ b o, h₁.get? b = some o → h₂.get? b = some o := fun b o e => he b o (Nat.ne_of_lt (Heap.lt_size e)) e
    have F₂ := F₁.keeps he'
    have N₂ := N₁.grown he'
    have n₂ : h₂.Ns C mC := (hns.extBut x₁ B.ci).at' fun o e => he' _ o e
    (injection (st₁.1) with oI0 hₜ1; (injection hₜ1 with hoI0 qI0))
    have G₂ : Gnd h₀ L m h₂ C I D l (i + 1) news := ⟨F₂, N₂, G'.ap, ⟨oI0, he' _ _ hoI0, qI0⟩, mC, n₂⟩
    (injection (hD'.extBut x₁ B.di) with kD0 oD0)
    have hD₂ : h₂.PlainList D ys.toArray := ⟨kD0, he' _ _ oD0⟩
    have hp : ((compEnvC scope cl C env).scope.kind == .class || ((compEnvC scope cl C env).scope.kind == .module && (compEnvC scope cl C env).locals != (compEnvC scope cl C env).globals)) = false := by simp [compEnvC, relabel, hkind]
    refine assignInOrder_cons (wpAny_assign_Name (wpAny_storeName_local (lookup_relabel_local hx1) n₂ ?_ hp))
    intro h₃ hn₃ hs₃
    refine assignInOrder_cons (wpAny_assign_Name (wpAny_storeName_local (lookup_relabel_local hx2) hn₃ ?_ hp))
    intro h₄ hn₄ hs₄
    refine assignInOrder_cons (wpAny_assign_Name (wpAny_storeName_local (lookup_relabel_local hx3) hn₄ ?_ hp))
    intro h₅ hn₅ hs₅
    refine assignInOrder_nil ?_
    (injection (G₂.but hs₃.extBut (.inl rfl) B) with F₃ N₃)
    have G₃ : Gnd h₀ L m h₃ C I D l (i + 1) news := ⟨F₃, N₃, G'.ap, G₂.it.extBut hs₃.extBut B.ci.symm, _, hn₃⟩
    (injection (G₃.but hs₄.extBut (.inl rfl) B) with F₄ N₄)
    have G₄ : Gnd h₀ L m h₄ C I D l (i + 1) news := ⟨F₄, N₄, G'.ap, G₃.it.extBut hs₄.extBut B.ci.symm, _, hn₄⟩
    (injection (G₄.but hs₅.extBut (.inl rfl) B) with F₅ N₅)
    have G₅ : Gnd h₀ L m h₅ C I D l (i + 1) news := ⟨F₅, N₅, G'.ap, G₄.it.extBut hs₅.extBut B.ci.symm, _, hn₅⟩
    (injection (((hD₂.extBut hs₃.extBut B.cd.symm).extBut hs₄.extBut B.cd.symm).extBut hs₅.extBut B.cd.symm) with kD oD)
    (injection (G₅.led B oD hn₅) with oI hₜ1; (injection hₜ1 with oC hₜ2; (injection hₜ2 with hoI hₜ3; (injection hₜ3 with hoC hₜ4; (injection hₜ4 with qI hₜ5; (injection hₜ5 with qC N6))))))
    refine wpAny_mono (turn i t v1 v2 v3 _ _ oC oI _ _ _ hv ht0 F₅ N6 qC (by simp [h12, h13]) (by simp [h23]) (by simp)) ?_ fun _ _ e => e
    (intros y s₃ h₃)
    (injection h₃ with h₇ hₜ1; (injection hₜ1 with tk₇ hₜ2; (refine And.elim ?_ (hₜ2); (try clear hₜ2); intro hₜ3 hₜ4; rcases hₜ3 with rfl; (injection hₜ4 with F₇ hₜ5; (injection hₜ5 with N₇ hf)))))
    have eI := (N₇ _ (.tail _ (.head _))).1
    have eC := (N₇ _ (.head _)).1
    have eD := (N₇ _ (.tail _ (.tail _ (.head _)))).1
    have G₇ : Gnd h₀ L m h₇ C I D l (i + 1) news := ⟨F₇, fun p hp => N₇ p (.tail _ (.tail _ (.tail _ hp))), G'.ap, qI _ eI, _, qC.ns eC⟩
    refine wpAny_list_append_plain (hsz := by simp; (k_extra "MY om")) (⟨_, eD⟩ : h₇.PlainList D ys.toArray) ?_
    intro h₈ hl₈ hs₈
    (injection (G₇.but hs₈.extBut (.inr (.inr rfl)) B) with F₈ N₈)
    refine ⟨vs.length + 1 - (i + 1), by (k_extra "MY om"), h₈, _, i + 1, ys ++ [y], rfl, ⟨F₈, N₈, G'.ap, (qI _ eI).extBut hs₈.extBut B.di.symm, _, (qC.ns eC).extBut hs₈.extBut B.cd⟩, by simpa using hl₈, fun j y' hj => ?_, by simp [hys], by (k_extra "MY om"), rfl⟩
    rcases Nat.lt_or_ge j i with q | q
    · (replace hj := hj; rw [List.getElem?_append_left (by (k_extra "MY om"))] at hj); exact hJ' j y' hj
    · (replace hj := hj; rw [List.getElem?_append_right (by (k_extra "MY om"))] at hj)
      have e0 : j = i := by
        (injection (List.getElem?_eq_some_iff.mp hj) with q2 hₜ1; rcases hₜ1 with _)
        simp at q2; (k_extra "MY om")
      subst e0
      (replace hj := hj; rw [hys, Nat.sub_self] at hj)
      obtain rfl : y = y' := by simpa using hj
      exact hf
  · have hin' : i = vs.length := by (k_extra "MY om")
    subst hin'
    refine W.done _ _ _ (by have := G'.it; simp only [List.size_toArray]; exact ⟨this, hl'⟩) ?_
    (intros h₁ tk₁; intro hk₁)
    have x₁ := extBut_of hk₁
    (injection (G'.but x₁ (.inr (.inl rfl)) B) with F₁ N₁)
    (injection (G'.ns) with mC hns)
    (injection (hD'.extBut x₁ B.di) with kD oD)
    refine hR h₁ tk₁ ys kD mC F₁ (hns.extBut x₁ B.ci) ?_ hJ' hys
    intro p hp
    cases hp with
    | head => exact ⟨oD, B.dL, B.d0⟩
    | tail _ hp => exact N₁ p hp
/-- where an iteration over a list may end: no fault is handled, or one in the ledger that has no context -/
def HOk (A : Around) (news : List (Addr × Obj)) : Prop := A.handled = none ∨ ∃ e oe vs, A.handled = some (.ref e) ∧ (e, oe) ∈ news ∧ oe.data = .fields vs ∧ vs[2]? = some .none
theorem pyNext_end_o {C I D l : Addr} {i : Nat} {news : List (Addr × Obj)} {items : Array Value} {Q : Option Value → Shared → Prop} (ho : HOk A news) (G : Gnd h₀ L m s.heap C I D l i news) (hl : s.heap.IsList l items) (hx : items[i]? = none)
    (hQ : ∀ h', Heap.ExtBut I s.heap h' → Q none { s with heap := h' }) : wpAny (model prog w) A (pyNext (.ref I)) Q E s := by
  ((rcases ho with hh | hᵤ1) <;> (first | ((fail_if_success (fail_if_success clear hh))) | ((fail_if_success (fail_if_success clear hᵤ1)); (injection hᵤ1 with e hₜ1; (injection hₜ1 with oe hₜ2; (injection hₜ2 with vs hₜ3; (injection hₜ3 with hh hₜ4; (injection hₜ4 with hm hₜ5; (injection hₜ5 with hd h2)))))))))
  · exact wpAny_pyNext_list_end hh G.it hl hx hQ
  · exact pyNext_end_h hh (G.N _ hm).1 hd h2 G.it hl hx (G.ap _ hm).2.1 hQ
/-- a loop that only reads, with one test -/
theorem compF_loop : ∀ {prog : Program} {w : World} {A : Around} {s : Shared} {h₀ : Heap} {L : Addr} {m : Str → Option Value} {env : Env} {R : Result → Shared → Prop} {elt iter test : PySem.Expr} {x : Str} {px : Pos} {scope : Scope} {pos : Pos} {C I D l c : Addr} {vs : List Value} {cl : List (Str × Addr)} {news : List (Addr × Obj)} (g : Value → Bool) (hh : HOk A news) (B : Blk h₀ L C I D) (hkind : scope.kind = .function) (hx : scope.names.lookup x = some .local) (hsz : vs.length ≤ sizeLine) (hol : (l, listOf vs.toArray c) ∈ news ∨ h₀.get? l = some (listOf vs.toArray c)) (G : Gnd h₀ L m s.heap C I D l 0 news) (hD : s.heap.PlainList D #[]) (turn : ∀ (i : Nat) v h tk oC oI oD m₂ E', vs[i]? = some v → Fr h₀ L h m → News h₀ L h ((C, oC) :: (I, oI) :: (D, oD) :: news) → LCg.NsObj oC m₂ → m₂ x = some v →
      wpAny (model prog w) A (isTrue test (compEnvC scope cl C env) (eval test (compEnvC scope cl C env))) (fun b s₂ => b = g v ∧ ∃ h' tk', s₂ = { s with heap := h', toks := tk' } ∧ Fr h₀ L h' m ∧ News h₀ L h' ((C, oC) :: (I, oI) :: (D, oD) :: news) ∧
        (b = true → ∀ E', wpAny (model prog w) A (eval elt (compEnvC scope cl C env)) (fun y s₃ => y = v ∧ ∃ h' tk', s₃ = { s with heap := h', toks := tk' } ∧ Fr h₀ L h' m ∧ News h₀ L h' ((C, oC) :: (I, oI) :: (D, oD) :: news)) E' s₂)) E' { s with heap := h, toks := tk }) (hR : ∀ h' tk (ys : List Value) k mC, Fr h₀ L h' m → h'.Ns C mC → News h₀ L h' ((D, listOf ys.toArray k) :: news) → ys = vs.filter g → R (.ok .next) { s with heap := h', toks := tk }),
    codeAny (model prog w) A (.compLoop (.ListComp elt [⟨.Name x px, iter, [test], 0⟩] scope pos) 0 (.ref I) (.ref D) (compEnvC scope cl C env)) R s := by
  have hEpsₑ : EpsOn 0 := ⟨True.intro⟩
  intros prog w A s h₀ L m env R elt iter test x px scope pos C I D l c vs cl
  intros news g
  intro hh
  intro B
  intro hkind
  intro hx
  intro hsz
  intro hol
  intro G
  intro hD
  intro turn
  intro hR
  refine codeAny_compLoop_tests
    (fun k s' => ∃ h' tk, ∃ i : Nat, ∃ ys, s' = { s with heap := h', toks := tk } ∧ Gnd h₀ L m h' C I D l i news ∧ h'.PlainList D (ys : List Value).toArray ∧ ys = (vs.take i).filter g ∧ i ≤ vs.length ∧ k = vs.length + 1 - i) ?_ (vs.length + 1)
    ⟨s.heap, s.toks, 0, [], rfl, G, hD, rfl, Nat.zero_le _, rfl⟩
  ((intros k s'); (intro hₜ6; (injection hₜ6 with h' hₜ1; (injection hₜ1 with tk hₜ2; (injection hₜ2 with i hₜ3; (injection hₜ3 with ys hₜ4; (refine And.elim ?_ (hₜ4); (try clear hₜ4); intro hₜ5 hₜ6; rcases hₜ5 with rfl; (injection hₜ6 with G' hₜ7; (injection hₜ7 with hD' hₜ8; (injection hₜ8 with hJ' hₜ9; (injection hₜ9 with hi hₜ10; rcases hₜ10 with rfl)))))))))))
  have hl' : h'.IsList l vs.toArray := by
    rcases hol with q | q
    · exact ⟨_, (G'.N _ q).1, rfl, _, rfl⟩
    · exact ⟨_, G'.F.keep _ _ q, rfl, _, rfl⟩
  have hlI : l ≠ I := by
    rcases hol with q | q
    · exact (G'.ap _ q).2.1
    · intro e; (replace q := q; rw [e, B.i0] at q); cases q
  rcases Nat.lt_or_ge i vs.length with hlt | hge
  · (have hₜ11 : ∃ v, vs[i]? = some v := (⟨_, List.getElem?_eq_getElem hlt⟩); (injection hₜ11 with v hv))
    refine wpAny_pyNext_list_item G'.it hl' (x := v) (by simpa using hv) ?_
    intro h₁ hit₁ hs₁
    (injection (G'.ns) with mC hns)
    have x₁ := hs₁.extBut
    have st₁ : h₁.IsListIter I l (i + 1) ∧ True := ⟨hit₁, trivial⟩
    (injection (G'.but x₁ (.inr (.inl rfl)) B) with F₁ N₁)
    have G₁ : Gnd h₀ L m h₁ C I D l (i + 1) news := ⟨F₁, N₁, G'.ap, st₁.1, mC, hns.extBut x₁ B.ci⟩
    have hp : ((compEnvC scope cl C env).scope.kind == .class || ((compEnvC scope cl C env).scope.kind == .module && (compEnvC scope cl C env).locals != (compEnvC scope cl C env).globals)) = false := by simp [compEnvC, relabel, hkind]
    refine wpAny_assign_Name (wpAny_storeName_local (lookup_relabel_local hx) (hns.extBut x₁ B.ci) ?_ hp)
    intro h₂ hn₂ hs₂
    (injection (G₁.but hs₂.extBut (.inl rfl) B) with F₂ N₂)
    have G₂ : Gnd h₀ L m h₂ C I D l (i + 1) news := ⟨F₂, N₂, G'.ap, st₁.1.extBut hs₂.extBut B.ci.symm, _, hn₂⟩
    (injection ((hD'.extBut x₁ B.di).extBut hs₂.extBut B.cd.symm) with kD oD)
    (injection (G₂.led B oD hn₂) with oI hₜ1; (injection hₜ1 with oC hₜ2; (injection hₜ2 with hoI hₜ3; (injection hₜ3 with hoC hₜ4; (injection hₜ4 with qI hₜ5; (injection hₜ5 with qC N3))))))
    refine wpAny_tests_one (wpAny_mono (turn i v _ _ oC oI _ _ _ hv F₂ N3 qC (by simp)) ?_ fun _ _ e => e)
    (intros b s₃ h₃)
    (refine And.elim ?_ (h₃); (try clear h₃); intro hₜ1 hₜ2; rcases hₜ1 with rfl; (injection hₜ2 with h₇ hₜ3; (injection hₜ3 with tk₇ hₜ4; (refine And.elim ?_ (hₜ4); (try clear hₜ4); intro hₜ5 hₜ6; rcases hₜ5 with rfl; (injection hₜ6 with F₇ hₜ7; (injection hₜ7 with N₇ he))))))
    have next : ∀ h₈, Fr h₀ L h₈ m → News h₀ L h₈ ((C, oC) :: (I, oI) :: (D, listOf ys.toArray kD) :: news) → Gnd h₀ L m h₈ C I D l (i + 1) news := fun h₈ F₈ N₈ =>
      ⟨F₈, fun p hp => N₈ p (.tail _ (.tail _ (.tail _ hp))), G'.ap, qI _ (N₈ _ (.tail _ (.head _))).1, _, qC.ns (N₈ _ (.head _)).1⟩
    have tk1 : (vs.take (i + 1)).filter g = (vs.take i).filter g ++ (if g v = true then [v] else []) := by
      rw [List.take_add_one, hv, List.filter_append]
      cases q : g v <;> simp [q]
    cases q : g v with
    | true =>
      rw [if_pos rfl]
      refine wpAny_mono (he q _) ?_ fun _ _ e => e
      (intros y s₄ h₄)
      (refine And.elim ?_ (h₄); (try clear h₄); intro hₜ1 hₜ2; rcases hₜ1 with rfl; (injection hₜ2 with h₈ hₜ3; (injection hₜ3 with tk₈ hₜ4; (refine And.elim ?_ (hₜ4); (try clear hₜ4); intro hₜ5 hₜ6; rcases hₜ5 with rfl; (injection hₜ6 with F₈ N₈)))))
      have G₈ := next h₈ F₈ N₈
      have eD := (N₈ _ (.tail _ (.tail _ (.head _)))).1
      have hyl : ys.length ≤ vs.length := by
        rw [hJ']
        exact Nat.le_trans (List.length_filter_le _ _) (by rw [List.length_take]; (k_extra "MY om"))
      have hyl2 : ys.length ≤ i := by
        rw [hJ']
        exact Nat.le_trans (List.length_filter_le _ _) (by rw [List.length_take]; (k_extra "MY om"))
      refine wpAny_list_append_plain (hsz := by simp; (k_extra "MY om")) (⟨_, eD⟩ : h₈.PlainList D ys.toArray) ?_
      intro h₉ hl₉ hs₉
      (injection (G₈.but hs₉.extBut (.inr (.inr rfl)) B) with F₉ N₉)
      (injection (G₈.ns) with mC8 hns8)
      exact ⟨vs.length + 1 - (i + 1), by (k_extra "MY om"), h₉, _, i + 1, ys ++ [y], rfl, ⟨F₉, N₉, G'.ap, G₈.it.extBut hs₉.extBut B.di.symm, mC8, hns8.extBut hs₉.extBut B.cd⟩, by simpa using hl₉, by rw [tk1, ← hJ', q]; rfl, by (k_extra "MY om"), rfl⟩
    | false =>
      rw [if_neg (by decide)]
      have G₈ := next h₇ F₇ N₇
      exact ⟨vs.length + 1 - (i + 1), by (k_extra "MY om"), h₇, _, i + 1, ys, rfl, G₈, ⟨_, (N₇ _ (.tail _ (.tail _ (.head _)))).1⟩, by rw [tk1, ← hJ', q]; simp, by (k_extra "MY om"), rfl⟩
  · have hin' : i = vs.length := by (k_extra "MY om")
    subst hin'
    refine pyNext_end_o hh G' hl' (by simp) ?_
    (intros h₁ x₁)
    (injection (G'.but x₁ (.inr (.inl rfl)) B) with F₁ N₁)
    (injection (G'.ns) with mC hns)
    (injection (hD'.extBut x₁ B.di) with kD oD)
    refine hR h₁ _ ys kD mC F₁ (hns.extBut x₁ B.ci) ?_ (by rw [hJ', List.take_length])
    intro p hp
    cases hp with
    | head => exact ⟨oD, B.dL, B.d0⟩
    | tail _ hp => exact N₁ p hp
/-- what a comprehension wants of its source -/
def CompAtG (prog : Program) (w : World) (A : Around) (h₀ : Heap) (L : Addr) (m : Str → Option Value) (env : Env) (elt iter target : PySem.Expr) (ifs : List PySem.Expr) (scope : Scope) (cl : List (Str × Addr)) (pos : Pos) (Q : Value → Shared → Prop) (xv : Value) (s₁ : Shared) : Prop :=
  ∃ l, ∃ vs : List Value, ∃ c news, xv = .ref l ∧ Fr h₀ L s₁.heap m ∧ News h₀ L s₁.heap news ∧ s₁.heap.get? l = some (listOf vs.toArray c) ∧
      ∀ C I D h₁ tk₁, Blk h₀ L C I D → Gnd h₀ L m h₁ C I D l 0 news → h₁.PlainList D #[] →
        codeAny (model prog w) A (.compLoop (.ListComp elt [⟨target, iter, ifs, 0⟩] scope pos) 0 (.ref I) (.ref D) (compEnvC scope cl C env))
          (fun r s' => r = .ok .next ∧ ∃ h' tk, ∃ ys : List Value, ∃ k mC, s' = { s₁ with heap := h', toks := tk } ∧ Fr h₀ L h' m ∧ h'.Ns C mC ∧ News h₀ L h' ((D, listOf ys.toArray k) :: news) ∧ ∀ h'' tk'', Fr h₀ L h'' m → News h₀ L h'' ((D, listOf (ys : List Value).toArray k) :: news) → Q (.ref D) { s₁ with heap := h'', toks := tk'' }) { s₁ with heap := h₁, toks := tk₁ }
/-- the wrapper of a comprehension as a value -/
theorem ListComp_G {elt iter target : PySem.Expr} {ifs : List PySem.Expr} {scope : Scope} {cl : List (Str × Addr)} {pos : Pos} {Q : Value → Shared → Prop}
    (F₀ : Fr h₀ L s.heap m) (hclos : closureFor scope env = pure cl) (hcell : ∀ y ∈ scope.names, y.2 ≠ .cell) (hkind : scope.kind = .function)
    (hnames : ∀ y ∈ scope.names, y.2 = .local → scope.names.lookup y.1 = some .local)
    (h : wpAny (model prog w) A (eval iter env) (CompAtG prog w A h₀ L m env elt iter target ifs scope cl pos Q) E s)
    (hs : ∀ x, foldedSetIterable iter env x = pure x := by intro _; rfl) :
    wpAny (model prog w) A (eval (.ListComp elt [⟨target, iter, ifs, 0⟩] scope pos) env) Q E s := by
  rw [eval_ListComp]
  refine wpAny_comprehension_free (use := none) rfl hs hclos hkind hnames (wpAny_mono h ?_ fun _ _ e => e)
  (intros xv s₁ h₁)
  (injection h₁ with l hₜ1; (injection hₜ1 with vs hₜ2; (injection hₜ2 with c hₜ3; (injection hₜ3 with news hₜ4; (refine And.elim ?_ (hₜ4); (try clear hₜ4); intro hₜ5 hₜ6; rcases hₜ5 with rfl; (injection hₜ6 with F hₜ7; (injection hₜ7 with N hₜ8; (injection hₜ8 with hol loop))))))))
  refine comp_blockG (RR := fun acc C => compPost (model prog w) A E none Q acc C) hcell hkind F N hol ?_
  (intros C I D h₁ tk₁; intro B G hD)
  refine codeAny_mono (loop C I D h₁ tk₁ B G hD) ?_
  ((intros r s'); (intro hₜ9; (refine And.elim ?_ (hₜ9); (try clear hₜ9); intro hₜ1 hₜ2; rcases hₜ1 with rfl; (injection hₜ2 with h' hₜ3; (injection hₜ3 with tk hₜ4; (injection hₜ4 with ys hₜ5; (injection hₜ5 with k hₜ6; (injection hₜ6 with mC hₜ7; (refine And.elim ?_ (hₜ7); (try clear hₜ7); intro hₜ8 hₜ9; rcases hₜ8 with rfl; (injection hₜ9 with F' hₜ10; (injection hₜ10 with hns' hₜ11; (injection hₜ11 with N' fin))))))))))))
  refine ⟨mC, hns', fun h'' hs'' => fin h'' tk ⟨F'.ns.sameBut hs'' B.cL.symm, fun b o e => (hs''.2 b fun q => by (replace e := e; rw [q, B.c0] at e); cases e).trans (F'.keep b o e), F'.above⟩ (fun p hp => ⟨(hs''.2 p.1 ?_).trans (N' p hp).1, (N' p hp).2⟩)⟩
  cases hp with
  | head => exact B.cd.symm
  | tail _ hp => exact (G.ap p hp).1
end
set_option linter.unusedVariables false
section
variable {prog : Program} {w : World} {A : Around} {E : Value → Shared → Prop} {s : Shared} {h₀ : Heap} {L : Addr} {m : Str → Option Value} {env : Env} {R : Result → Shared → Prop}
/-- a loop that only reads, with no test -/
theorem compE_loop : ∀ {prog : Program} {w : World} {A : Around} {s : Shared} {h₀ : Heap} {L : Addr} {m : Str → Option Value} {env : Env} {R : Result → Shared → Prop} {elt iter : PySem.Expr} {x : Str} {px : Pos} {scope : Scope} {pos : Pos} {C I D l c : Addr} {vs : List Value} {cl : List (Str × Addr)} {news : List (Addr × Obj)} (f : Nat → Value → Prop) (hh : HOk A news) (B : Blk h₀ L C I D) (hkind : scope.kind = .function) (hx : scope.names.lookup x = some .local) (hsz : vs.length ≤ sizeLine) (hol : (l, listOf vs.toArray c) ∈ news ∨ h₀.get? l = some (listOf vs.toArray c)) (G : Gnd h₀ L m s.heap C I D l 0 news) (hD : s.heap.PlainList D #[]) (turn : ∀ (i : Nat) v h tk oC oI oD m₂ E', vs[i]? = some v → Fr h₀ L h m → News h₀ L h ((C, oC) :: (I, oI) :: (D, oD) :: news) → LCg.NsObj oC m₂ → m₂ x = some v →
      wpAny (model prog w) A (eval elt (compEnvC scope cl C env)) (fun y s₃ => ∃ h' tk', s₃ = { s with heap := h', toks := tk' } ∧ Fr h₀ L h' m ∧ News h₀ L h' ((C, oC) :: (I, oI) :: (D, oD) :: news) ∧ f i y) E' { s with heap := h, toks := tk }) (hR : ∀ h' tk (ys : List Value) k mC, Fr h₀ L h' m → h'.Ns C mC → News h₀ L h' ((D, listOf ys.toArray k) :: news) → (∀ i y, ys[i]? = some y → f i y) → ys.length = vs.length → R (.ok .next) { s with heap := h', toks := tk }),
    codeAny (model prog w) A (.compLoop (.ListComp elt [⟨.Name x px, iter, [], 0⟩] scope pos) 0 (.ref I) (.ref D) (compEnvC scope cl C env)) R s := by
  have hEpsₑ : EpsOn 0 := ⟨True.intro⟩
  intros prog w A s h₀ L m env R elt iter x px scope pos C I D l c vs cl news
  intro f
  intro hh
  intro B
  intro hkind
  intro hx
  intro hsz
  intro hol
  intro G
  intro hD
  intro turn
  intro hR
  refine codeAny_compLoop_tests
    (fun k s' => ∃ h' tk, ∃ i : Nat, ∃ ys, s' = { s with heap := h', toks := tk } ∧ Gnd h₀ L m h' C I D l i news ∧ h'.PlainList D (ys : List Value).toArray ∧ (∀ i y, ys[i]? = some y → f i y) ∧ ys.length = i ∧ i ≤ vs.length ∧ k = vs.length + 1 - i) ?_ (vs.length + 1)
    ⟨s.heap, s.toks, 0, [], rfl, G, hD, (by (intros i y h); simp at h), rfl, Nat.zero_le _, rfl⟩
  ((intros k s'); (intro hₜ12; (injection hₜ12 with h' hₜ1; (injection hₜ1 with tk hₜ2; (injection hₜ2 with i hₜ3; (injection hₜ3 with ys hₜ4; (refine And.elim ?_ (hₜ4); (try clear hₜ4); intro hₜ5 hₜ6; rcases hₜ5 with rfl; (injection hₜ6 with G' hₜ7; (injection hₜ7 with hD' hₜ8; (injection hₜ8 with hJ' hₜ9; (injection hₜ9 with hys hₜ10; (injection hₜ10 with hi hₜ11; rcases hₜ11 with rfl))))))))))))
  have hl' : h'.IsList l vs.toArray := by
    rcases hol with q | q
    · exact ⟨_, (G'.N _ q).1, rfl, _, rfl⟩
    · exact ⟨_, G'.F.keep _ _ q, rfl, _, rfl⟩
  rcases Nat.lt_or_ge i vs.length with hlt | hge
  · (have hₜ12 : ∃ v, vs[i]? = some v := (⟨_, List.getElem?_eq_getElem hlt⟩); (injection hₜ12 with v hv))
    refine wpAny_pyNext_list_item G'.it hl' (x := v) (by simpa using hv) ?_
    intro h₁ hit₁ hs₁
    (injection (G'.ns) with mC hns)
    have x₁ := hs₁.extBut
    (injection (G'.but x₁ (.inr (.inl rfl)) B) with F₁ N₁)
    have G₁ : Gnd h₀ L m h₁ C I D l (i + 1) news := ⟨F₁, N₁, G'.ap, hit₁, mC, hns.extBut x₁ B.ci⟩
    have hp : ((compEnvC scope cl C env).scope.kind == .class || ((compEnvC scope cl C env).scope.kind == .module && (compEnvC scope cl C env).locals != (compEnvC scope cl C env).globals)) = false := by simp [compEnvC, relabel, hkind]
    refine wpAny_assign_Name (wpAny_storeName_local (lookup_relabel_local hx) (hns.extBut x₁ B.ci) ?_ hp)
    intro h₂ hn₂ hs₂
    (injection (G₁.but hs₂.extBut (.inl rfl) B) with F₂ N₂)
    have G₂ : Gnd h₀ L m h₂ C I D l (i + 1) news := ⟨F₂, N₂, G'.ap, hit₁.extBut hs₂.extBut B.ci.symm, _, hn₂⟩
    (injection ((hD'.extBut x₁ B.di).extBut hs₂.extBut B.cd.symm) with kD oD)
    (injection (G₂.led B oD hn₂) with oI hₜ1; (injection hₜ1 with oC hₜ2; (injection hₜ2 with hoI hₜ3; (injection hₜ3 with hoC hₜ4; (injection hₜ4 with qI hₜ5; (injection hₜ5 with qC N3))))))
    refine wpAny_tests_nil ?_
    rw [if_pos rfl]
    refine wpAny_mono (turn i v _ _ oC oI _ _ _ hv F₂ N3 qC (by simp)) ?_ fun _ _ e => e
    (intros y s₃ h₃)
    (injection h₃ with h₇ hₜ1; (injection hₜ1 with tk₇ hₜ2; (refine And.elim ?_ (hₜ2); (try clear hₜ2); intro hₜ3 hₜ4; rcases hₜ3 with rfl; (injection hₜ4 with F₇ hₜ5; (injection hₜ5 with N₇ hf)))))
    have eD := (N₇ _ (.tail _ (.tail _ (.head _)))).1
    have G₇ : Gnd h₀ L m h₇ C I D l (i + 1) news := ⟨F₇, fun p hp => N₇ p (.tail _ (.tail _ (.tail _ hp))), G'.ap, qI _ (N₇ _ (.tail _ (.head _))).1, _, qC.ns (N₇ _ (.head _)).1⟩
    refine wpAny_list_append_plain (hsz := by simp; (k_extra "MY om")) (⟨_, eD⟩ : h₇.PlainList D ys.toArray) ?_
    intro h₉ hl₉ hs₉
    (injection (G₇.but hs₉.extBut (.inr (.inr rfl)) B) with F₉ N₉)
    (injection (G₇.ns) with mC8 hns8)
    refine ⟨vs.length + 1 - (i + 1), by (k_extra "MY om"), h₉, _, i + 1, ys ++ [y], rfl, ⟨F₉, N₉, G'.ap, G₇.it.extBut hs₉.extBut B.di.symm, mC8, hns8.extBut hs₉.extBut B.cd⟩, by simpa using hl₉, fun j y' hj => ?_, by simp [hys], by (k_extra "MY om"), rfl⟩
    rcases Nat.lt_or_ge j i with q | q
    · (replace hj := hj; rw [List.getElem?_append_left (by (k_extra "MY om"))] at hj); exact hJ' j y' hj
    · (replace hj := hj; rw [List.getElem?_append_right (by (k_extra "MY om"))] at hj)
      have e0 : j = i := by
        (injection (List.getElem?_eq_some_iff.mp hj) with q2 hₜ1; rcases hₜ1 with _)
        simp at q2; (k_extra "MY om")
      subst e0
      (replace hj := hj; rw [hys, Nat.sub_self] at hj)
      obtain rfl : y = y' := by simpa using hj
      exact hf
  · have hin' : i = vs.length := by (k_extra "MY om")
    subst hin'
    refine pyNext_end_o hh G' hl' (by simp) ?_
    (intros h₁ x₁)
    (injection (G'.but x₁ (.inr (.inl rfl)) B) with F₁ N₁)
    (injection (G'.ns) with mC hns)
    (injection (hD'.extBut x₁ B.di) with kD oD)
    refine hR h₁ _ ys kD mC F₁ (hns.extBut x₁ B.ci) ?_ hJ' hys
    intro p hp
    cases hp with
    | head => exact ⟨oD, B.dL, B.d0⟩
    | tail _ hp => exact N₁ p hp
end
set_option linter.unusedVariables false
/-- entering a def with cells in which a fault may land -/
theorem code_heldC {w : World} {A₀ A : Around} {s : Shared} {base h₀ : Heap} {L : Addr} {m mg mb : Str → Option Value} {news : List (Addr × Obj)} {p : Program} {loose : List Str} {mean : ExcName → Option Value} {K : Frag}
    {env : Env} {R : Result → Shared → Prop} {name qual : Str} {params : Arguments} {body : List Stmt} {scope : Scope} {dV kV doc pm cdv ct oc : Value} {an od : Option Addr} {osl : Array (Option Value)} {f : Addr} {args : Args} {binds : List (Str × Value)}
    (B : Below A₀ base [] h₀) (F : Fr h₀ L s.heap m) (X₀ : K.In h₀) (N : News h₀ L s.heap news) (T : Top p loose mean mg mb h₀) (hA : A.frames = some [env]) (hf : env.frame = some L) (hke : env.scope.kind = .function)
    (ho : K.lookup f = some ⟨oc, od, .func (fnOf name qual params body scope dV kV doc pm an cdv ct), osl⟩) (hcd : codeIn K cdv qual = true) (hroom : A.depth < recursionLimit)
    (hbind : BindsTo s (fnOf name qual params body scope dV kV doc pm an cdv ct) args binds) (hkind : (binds.all fun y => scope.names.lookup y.1 == some .local || scope.names.lookup y.1 == some .cell) = true)
    (hnd : ((cellsFrom 0 scope.names []).map (·.1)).Nodup)
    (h : ∀ L' h₁ tk cells, Fr s.heap L' h₁ (bindL (envOfC qual scope L' f cdv).kindOf binds fun _ => none) → News s.heap L' h₁ cells → CellsAre (bindC (envOfC qual scope L' f cdv).kindOf binds fun _ => none) (cellsFrom (L' + 1) scope.names []) cells →
      Below A base [env] s.heap → K.In s.heap → Top p loose mean mg mb s.heap →
      (∀ v s' g' L'' m' new, KtsTurn [L] s.heap g' → Fr g' L'' s'.heap m' → News g' L'' s'.heap new → (Fr h₀ L s'.heap m → News h₀ L s'.heap news → R (.ok (.ret v)) s') → R (.ok (.ret v)) s') →
      wpAny (model PG w) (A.deeper (envOfC qual scope L' f cdv)) (execs body (envOfC qual scope L' f cdv))
        (fun fl s' => R (.ok (.ret (match fl with | .ret v => v | _ => .none))) s')
        (fun e s' => wpAny (model PG w) (A.deeper (envOfC qual scope L' f cdv)) (leaving (envOfC qual scope L' f cdv) e) (fun _ s'' => R (.error e) s'') (fun e' s'' => R (.error e') s'') s')
        { s with heap := h₁, toks := tk })
    (hco : scope.isCoroutine = false) (hgen : scope.isGenerator = false) (hk : scope.kind = .function) : codeAny (model PG w) A (.call (.ref f) args) R s := by
  obtain ⟨FG, BG, st, lv⟩ := groundX (R := R) B F (News.nil (h₀ := h₀) (h := s.heap) (L := L)) hA hf hke
  refine codeAny_call_function hroom ((X₀.keeps F.keep) _ _ ho) rfl hco hgen rfl (codeRec_of (X₀.keeps F.keep) hcd) (hbind _ _ _ _ ?_)
  refine wpAny_newFunctionEnv_cells hk (kindsX hkind _) fun env' he s' x => ?_
  subst he
  refine ⟨(T.nolimit.keeps F.keep).keeps x.toInCall.keep, codeAny_func ?_⟩
  obtain ⟨h₁, tk, rfl, _⟩ := x.done
  have hk₁ := x.toInCall.keep
  obtain ⟨cells, NC, Y⟩ := Cl.news (h₀ := s.heap) (Nat.le_refl _) fun n c hm => ⟨x.cell n c (lookup_of_mem_nodup (cellsFrom_names scope.names 0 (s.heap.objs.size + 1) [] [] rfl ▸ hnd) hm), x.above n c hm⟩
  refine wpAny_mono (h s.heap.objs.size h₁ tk cells ⟨x.toInCall.ns, fun b o e => hk₁ b o e, Nat.le_refl _⟩ NC Y BG (X₀.keeps st) (T.keeps st) ?_) (fun fl s' hl => hl) fun _ _ y => y
  intro v s' g' L'' m' new Tu F' N' k
  have hLn := fr_none F
  refine k ⟨?_, fun b o q => F'.keep _ _ (Tu.other b o (F.keep _ _ q) fun hm => ?_), F.above⟩ fun q hq => ⟨F'.keep _ _ (Tu.other _ _ (N q hq).1 fun hm => (N q hq).2.1 (List.mem_singleton.mp hm)), (N q hq).2⟩
  · obtain ⟨o, es, ep, ho, hd, r⟩ := F.ns
    obtain ⟨sl, hs⟩ := Tu.up ho
    exact ⟨_, es, ep, F'.keep _ _ hs, hd, r⟩
  · rw [List.mem_singleton.mp hm, hLn] at q; cases q
/-- a call out of the law in which a fault may land: it answers True -/
def HSpec (w : World) (f : Addr) (dep : Nat) (vs : List Value) (pre : Heap → Prop) : Prop :=
  ∀ (dp un : Nat) (gd : Option (List Code)) (cn : Str) (cs : Scope) (a : Addr) (ccd : Value) (cl : List (Str × Addr)) (A₀ : Around) (base h₀ : Heap) (L : Addr) (m : Str → Option Value) (news : List (Addr × Obj)) (s : Shared)
    (p : Program) (loose : List Str) (mean : ExcName → Option Value) (mg mb : Str → Option Value) (Q E : Value → Shared → Prop),
    Below A₀ base [] h₀ → Fr h₀ L s.heap m → (hd.heap_39 w.params).In base → Top p loose mean mg mb base → News h₀ L s.heap news → cs.kind = .function → dp + dep < recursionLimit → un + 8 * dep < cLine → pre s.heap →
    (∀ h' tk', Fr h₀ L h' m → News h₀ L h' news → Q (.bool true) { s with heap := h', toks := tk' }) →
    wpAny (model PG w) (ktrTop dp un gd cn cs L a ccd cl []) (call (.ref f) vs) Q E s
theorem HSpec.use {w : World} {f : Addr} {dep : Nat} {vs : List Value} {pre : Heap → Prop} (S : HSpec w f dep vs pre)
    {dp un : Nat} {gd : Option (List Code)} {cn : Str} {cs : Scope} {a : Addr} {ccd : Value} {cl : List (Str × Addr)} {A₀ : Around} {base h₀ : Heap} {L : Addr} {m : Str → Option Value} {news : List (Addr × Obj)} {s : Shared}
    {p : Program} {loose : List Str} {mean : ExcName → Option Value} {mg mb : Str → Option Value} {Q E : Value → Shared → Prop}
    (B : Below A₀ base [] h₀) (F : Fr h₀ L s.heap m) (X : (hd.heap_39 w.params).In base) (T : Top p loose mean mg mb base) (N : News h₀ L s.heap news) (hk : cs.kind = .function) (hd : dp + dep < recursionLimit) (hu : un + 8 * dep < cLine) (hp : pre s.heap)
    (ret : ∀ h' tk', Fr h₀ L h' m → News h₀ L h' news → Q (.bool true) { s with heap := h', toks := tk' }) :
    wpAny (model PG w) (ktrTop dp un gd cn cs L a ccd cl []) (call (.ref f) vs) Q E s := S _ _ _ _ _ _ _ _ _ _ _ _ _ _ _ _ _ _ _ _ _ _ B F X T N hk hd hu hp ret
set_option linter.unusedVariables false
/-- a row as it is given -/
structure R3 where
  a : Addr
  l : Str
  tl : Tok
  u : Str
  tu : Tok
  v : Str
  tv : Tok
theorem neR3 : Nonempty R3 := ⟨⟨0, "", 0, "", 0, "", 0⟩⟩
abbrev R3.ob (r : R3) : Obj := { cls := .type "tuple", data := .seq #[.str r.l r.tl, .str r.u r.tu, .str r.v r.tv] }
def NsOk (T : PT) (n : NR) (o : Option Str) : Prop := (n.ns = [] ∧ o = none) ∨ ∃ d nn u, n.ns = [d] ∧ T.ns[d.1]? = some nn ∧ nn.kind = "namespace" ∧ nn.name = "p" ∧ nn.value = u ∧ o = some u
def AtOk (T : PT) : List (Nat × Tok) → List R3 → Prop
  | [], [] => True
  | d :: ds, r :: rs => (∃ na, T.ns[d.1]? = some na ∧ na.kind = "attribute" ∧ na.name = "p:" ++ r.l ∧ na.uri = r.u ∧ na.loc = r.l ∧ na.value = r.v) ∧ AtOk T ds rs
  | _, _ => False
/-- a tree that agrees on all nodes but one element -/
structure Same (T T' : PT) (k : Nat) : Prop where
  el : ∃ n, T.ns[k]? = some n ∧ n.kind = "element"
  get : ∀ j nj, T.ns[j]? = some nj → j ≠ k → T'.ns[j]? = some nj
theorem NsOk.same {T T' : PT} {k : Nat} {n n' : NR} {o : Option Str} (h : NsOk T n o) (S : Same T T' k) (e : n'.ns = n.ns) : NsOk T' n' o := by
  rcases h with ⟨h1, h2⟩ | ⟨d, nn, u, h1, h2, h3, h4⟩
  · exact .inl ⟨e.trans h1, h2⟩
  · refine .inr ⟨d, nn, u, e.trans h1, S.get _ _ h2 ?_, h3, h4⟩
    intro q
    obtain ⟨n, hn, hk⟩ := S.el
    rw [← q, h2] at hn; cases hn
    rw [h3] at hk; exact absurd hk (by decide)
theorem AtOk.same {T T' : PT} {k : Nat} (S : Same T T' k) : ∀ {ds : List (Nat × Tok)} {rs : List R3}, AtOk T ds rs → AtOk T' ds rs
  | [], [], _ => trivial
  | d :: ds, r :: rs, ⟨⟨na, h1, h2, h3⟩, hr⟩ => by
    refine ⟨⟨na, S.get _ _ h1 ?_, h2, h3⟩, AtOk.same S hr⟩
    intro q
    obtain ⟨n, hn, hk⟩ := S.el
    rw [← q, h1] at hn; cases hn
    rw [h2] at hk; exact absurd hk (by decide)
  | [], _ :: _, h => h.elim
  | _ :: _, [], h => h.elim
theorem AtOk.snoc {T : PT} {d : Nat × Tok} {r : R3} (hd : ∃ na, T.ns[d.1]? = some na ∧ na.kind = "attribute" ∧ na.name = "p:" ++ r.l ∧ na.uri = r.u ∧ na.loc = r.l ∧ na.value = r.v) : ∀ {ds : List (Nat × Tok)} {rs : List R3}, AtOk T ds rs → AtOk T (ds ++ [d]) (rs ++ [r])
  | [], [], _ => ⟨hd, trivial⟩
  | d' :: ds, r' :: rs, ⟨h, hr⟩ => ⟨h, AtOk.snoc hd hr⟩
  | [], _ :: _, h => h.elim
  | _ :: _, [], h => h.elim
theorem AtOk.len {T : PT} : ∀ {ds : List (Nat × Tok)} {rs : List R3}, AtOk T ds rs → ds.length = rs.length
  | [], [], _ => rfl
  | d :: ds, r :: rs, ⟨_, hr⟩ => congrArg (· + 1) (AtOk.len hr)
  | [], _ :: _, h => h.elim
  | _ :: _, [], h => h.elim
theorem AtOk.mem {T : PT} : ∀ {ds : List (Nat × Tok)} {rs : List R3}, AtOk T ds rs → ∀ d ∈ ds, ∃ r ∈ rs, ∃ na, T.ns[d.1]? = some na ∧ na.kind = "attribute" ∧ na.name = "p:" ++ r.l ∧ na.uri = r.u ∧ na.loc = r.l ∧ na.value = r.v
  | d :: ds, r :: rs, ⟨h, hr⟩, x, hx => by
    rcases List.mem_cons.mp hx with e | hx
    · rw [e]; exact ⟨r, .head _, h⟩
    · obtain ⟨r', h1, h2⟩ := AtOk.mem hr x hx
      exact ⟨r', .tail _ h1, h2⟩
  | _ :: _, [], h, _, _ => h.elim
/-- the root and the element around -/
def RootOk (T : PT) (ec : List (Nat × Tok)) (outer : Option Str) : Prop := ∃ (n0 n1 : NR) (t1 : Tok), T.ns[0]? = some n0 ∧ n0.kind = "root" ∧ n0.ch = [(1, t1)] ∧ T.ns[1]? = some n1 ∧ n1.kind = "element" ∧ n1.name = "r" ∧ n1.uri = "" ∧ n1.ch = ec ∧ n1.at' = [] ∧ NsOk T n1 outer
def ElemOk (T : PT) (k : Nat) (nm uri : Str) (own : Option Str) (rs : List R3) : Prop := ∃ n2 : NR, T.ns[k]? = some n2 ∧ n2.kind = "element" ∧ n2.name = nm ∧ n2.uri = uri ∧ n2.ch = [] ∧ NsOk T n2 own ∧ AtOk T n2.at' rs
theorem same_ms {T : PT} {e k : Nat} {n' n m : NR} (hk : T.ns[k]? = some n) (hel : n.kind = "element") : Same T ((T.more e n').setN k m) k :=
  ⟨⟨n, hk, hel⟩, fun j nj hj hne => by rw [ms_at hk j (get_lt hj), if_neg hne]; exact hj⟩
theorem start_ok {T1 : PT} {n1 n2 nr : NR} {e2 : Nat} {t2 : Tok} {par2 : Option (Nat × Tok)} (h1 : T1.ns = [n1]) (hr : T1.ns[0]? = some nr) (hn1 : n1.Is "root" "" "" "" "" none) (hn2 : n2.Is "element" "r" "" "r" "" par2) :
    RootOk (T1.child e2 n2 0 nr t2) [] none ∧ (T1.child e2 n2 0 nr t2).ns.length = 2 ∧ (T1.child e2 n2 0 nr t2).Tiny 2 := by
  have hl : T1.ns.length = 1 := by rw [h1]; rfl
  obtain rfl : n1 = nr := by rw [h1] at hr; simpa using hr
  have g0 := child_at (e := e2) (n' := n2) (t9 := t2) hr 0 (by (k_extra "MY om"))
  rw [if_pos rfl] at g0
  have g1 := child_last (e := e2) (n' := n2) (t9 := t2) hr
  rw [hl] at g1
  have ty : T1.Tiny 1 := ⟨by (k_extra "MY om"), fun x hx => by
    rw [h1] at hx
    rw [List.mem_singleton.mp hx, hn1.ch, hn1.at', hn1.ns]; simp⟩
  refine ⟨⟨_, _, t2, g0, hn1.kind, ?_, g1, hn2.kind, hn2.name, hn2.uri, hn2.ch, hn2.at', .inl ⟨hn2.ns, rfl⟩⟩, by rw [child_len, hl], Tiny.child ty hr hn2⟩
  show n1.ch ++ [(T1.ns.length, t2)] = _
  rw [hn1.ch, hl]; rfl
theorem outer_ok {T : PT} {n1 n' : NR} {e : Nat} {t9 : Tok} {u : Str} {par : Option (Nat × Tok)} (h : RootOk T [] none) (h1 : T.ns[1]? = some n1) (hn : n'.Is "namespace" "p" "" "p" u par) : RootOk (T.nsp e n' 1 n1 t9) [] (some u) := by
  obtain ⟨n0, n1', t1, a0, a1, a2, b0, b1, b2, b3, b4, b5, b6⟩ := h
  obtain rfl : n1 = n1' := Option.some.inj (h1.symm.trans b0)
  have S := same_ms (e := e) (n' := n') (m := n1.addNs (T.ns.length, t9)) h1 b1
  have g1 : (T.nsp e n' 1 n1 t9).ns[1]? = some (n1.addNs (T.ns.length, t9)) := by
    show ((T.more e n').setN 1 _).ns[1]? = _
    rw [ms_at h1 1 (get_lt h1), if_pos rfl]
  refine ⟨n0, _, t1, S.get _ _ a0 (by decide), a1, a2, g1, b1, b2, b3, b4, b5, ?_⟩
  rcases b6 with ⟨c1, _⟩ | ⟨_, _, _, _, _, _, _, _, c⟩
  · refine .inr ⟨(T.ns.length, t9), n', u, ?_, ms_last h1, hn.kind, hn.name, hn.value, rfl⟩
    show n1.ns ++ [_] = _
    rw [c1]; rfl
  · cases c
theorem elem_ok {T : PT} {n1 n' : NR} {e : Nat} {t9 : Tok} {o : Option Str} {nm uri loc : Str} {par : Option (Nat × Tok)} (h : RootOk T [] o) (h1 : T.ns[1]? = some n1) (hn : n'.Is "element" nm uri loc "" par) :
    RootOk (T.child e n' 1 n1 t9) [(T.ns.length, t9)] o ∧ ElemOk (T.child e n' 1 n1 t9) T.ns.length nm uri none [] := by
  obtain ⟨n0, n1', t1, a0, a1, a2, b0, b1, b2, b3, b4, b5, b6⟩ := h
  obtain rfl : n1 = n1' := Option.some.inj (h1.symm.trans b0)
  have S := same_ms (e := e) (n' := n') (m := n1.addCh (T.ns.length, t9)) h1 b1
  have g1 : (T.child e n' 1 n1 t9).ns[1]? = some (n1.addCh (T.ns.length, t9)) := by
    rw [child_at h1 1 (get_lt h1), if_pos rfl]
  refine ⟨⟨n0, _, t1, S.get _ _ a0 (by decide), a1, a2, g1, b1, b2, b3, ?_, b5, b6.same S rfl⟩, n', child_last h1, hn.kind, hn.name, hn.uri, hn.ch, .inl ⟨hn.ns, rfl⟩, by rw [hn.at']; trivial⟩
  show n1.ch ++ [_] = _
  rw [b4]; rfl
theorem RootOk.same {T T' : PT} {k : Nat} {ec : List (Nat × Tok)} {o : Option Str} (h : RootOk T ec o) (S : Same T T' k) (hk : 2 ≤ k) : RootOk T' ec o := by
  obtain ⟨n0, n1, t1, a0, a1, a2, b0, b1, b2, b3, b4, b5, b6⟩ := h
  exact ⟨n0, n1, t1, S.get _ _ a0 (by (k_extra "MY om")), a1, a2, S.get _ _ b0 (by (k_extra "MY om")), b1, b2, b3, b4, b5, b6.same S rfl⟩
theorem own_ok {T : PT} {k : Nat} {n2 n' : NR} {e : Nat} {t9 : Tok} {nm uri u : Str} {par : Option (Nat × Tok)} (h : ElemOk T k nm uri none []) (h2 : T.ns[k]? = some n2) (hn : n'.Is "namespace" "p" "" "p" u par) : Same T (T.nsp e n' k n2 t9) k ∧ ElemOk (T.nsp e n' k n2 t9) k nm uri (some u) [] := by
  obtain ⟨n2', a0, a1, a2, a3, a4, a5, a6⟩ := h
  obtain rfl : n2 = n2' := Option.some.inj (h2.symm.trans a0)
  have S := same_ms (e := e) (n' := n') (m := n2.addNs (T.ns.length, t9)) h2 a1
  have g1 : (T.nsp e n' k n2 t9).ns[k]? = some (n2.addNs (T.ns.length, t9)) := by
    show ((T.more e n').setN k _).ns[k]? = _
    rw [ms_at h2 k (get_lt h2), if_pos rfl]
  refine ⟨S, _, g1, a1, a2, a3, a4, ?_, a6.same S⟩
  rcases a5 with ⟨c1, _⟩ | ⟨_, _, _, _, _, _, _, _, c⟩
  · refine .inr ⟨(T.ns.length, t9), n', u, ?_, ms_last h2, hn.kind, hn.name, hn.value, rfl⟩
    show n2.ns ++ [_] = _
    rw [c1]; rfl
  · cases c
theorem attr_ok {T : PT} {k : Nat} {n2 n' : NR} {e : Nat} {t9 : Tok} {nm uri : Str} {own : Option Str} {rs : List R3} {r : R3} {par : Option (Nat × Tok)} (h : ElemOk T k nm uri own rs) (h2 : T.ns[k]? = some n2) (hn : n'.Is "attribute" ("p:" ++ r.l) r.u r.l r.v par) :
    Same T (T.attr e n' k n2 t9) k ∧ ElemOk (T.attr e n' k n2 t9) k nm uri own (rs ++ [r]) := by
  obtain ⟨n2', a0, a1, a2, a3, a4, a5, a6⟩ := h
  obtain rfl : n2 = n2' := Option.some.inj (h2.symm.trans a0)
  have S := same_ms (e := e) (n' := n') (m := n2.addAt (T.ns.length, t9)) h2 a1
  have g1 : (T.attr e n' k n2 t9).ns[k]? = some (n2.addAt (T.ns.length, t9)) := by
    show ((T.more e n').setN k _).ns[k]? = _
    rw [ms_at h2 k (get_lt h2), if_pos rfl]
  exact ⟨S, _, g1, a1, a2, a3, a4, a5.same S rfl, (a6.same S).snoc ⟨n', ms_last h2, hn.kind, hn.name, hn.uri, hn.loc, hn.value⟩⟩
/-- the end of a statement that may turn the tree -/
def CutT (g : Heap) (L x : Addr) (m : Str → Option Value) (P : Params) (rest : List (Addr × Obj)) (J : PT → Prop) (s s' : Shared) : Prop :=
  ∃ h tk T, s' = { s with heap := h, toks := tk } ∧ Fr g L h m ∧ News g L h (T.objs P ++ rest) ∧ ND (T.objs P ++ rest) ∧ T.b.t = x ∧ J T
theorem cut_tree {M : Model} {A : Around} {E : Value → Shared → Prop} {Q : Flow → Shared → Prop} {t : Sem Flow} {s : Shared} {g h₁ : Heap} {L x : Addr} {m : Str → Option Value} {P : Params} {rest : List (Addr × Obj)} (F : Fr g L h₁ m) (J : PT → Prop)
    (h1 : wpAny M A t (fun f s' => f = .next ∧ CutT g L x m P rest J s s') E s)
    (h2 : ∀ h tk T, Fr g L h m → News g L h (T.objs P ++ rest) → ND (T.objs P ++ rest) → T.b.t = x → J T → Q .next { s with heap := h, toks := tk }) : wpAny M A t Q E s :=
  wpAny_mono h1 (fun f s' => by
    rintro ⟨rfl, h, tk, T, rfl, F', N', nd, hx, hJ⟩
    exact h2 h tk T F' N' nd hx hJ) fun _ _ e => e
/-- an expression that makes a list in one of several ways -/
def CutL (g : Heap) (L : Addr) (m : Str → Option Value) (news : List (Addr × Obj)) (P : List Value → Prop) (s : Shared) (y : Value) (s' : Shared) : Prop :=
  ∃ D ys k h tk, y = .ref D ∧ s' = { s with heap := h, toks := tk } ∧ Fr g L h m ∧ News g L h ((D, listOf (ys : List Value).toArray k) :: news) ∧ (∀ p ∈ news, p.1 < D) ∧ P ys
theorem cut_list {M : Model} {A : Around} {E : Value → Shared → Prop} {Q : Value → Shared → Prop} {t : Sem Value} {s : Shared} {g h₁ : Heap} {L : Addr} {m : Str → Option Value} {news : List (Addr × Obj)} (F : Fr g L h₁ m) (N : News g L h₁ news) (P : List Value → Prop)
    (h1 : wpAny M A t (CutL g L m news P s) E s)
    (h2 : ∀ D ys k h tk, Fr g L h m → News g L h ((D, listOf (ys : List Value).toArray k) :: news) → (∀ p ∈ news, p.1 < D) → P ys → Q (.ref D) { s with heap := h, toks := tk }) : wpAny M A t Q E s :=
  wpAny_mono h1 (fun f s' => by
    rintro ⟨D, ys, k, h, tk, rfl, rfl, F', N', hlt, hP⟩
    exact h2 D ys k h tk F' N' hlt hP) fun _ _ e => e
theorem list_of_get {α : Type} {ys : List Value} {rs : List α} {g : α → Value} (hl : ys.length = rs.length) (hf : ∀ (i : Nat) y, ys[i]? = some y → ∃ r, rs[i]? = some r ∧ y = g r) : ys = rs.map g := by
  refine List.ext_getElem? fun i => ?_
  rw [List.getElem?_map]
  cases q : ys[i]? with
  | none =>
    rw [List.getElem?_eq_none_iff] at q
    rw [List.getElem?_eq_none (by (k_extra "MY om"))]; rfl
  | some y =>
    obtain ⟨r, h1, h2⟩ := hf i y q
    rw [h1, h2]; rfl
set_option linter.unusedVariables false
def knL : Wt → List Str | .pre u => [u] | _ => []
def spaces (rs : List R3) (kn : Wt) (own : Option Str) : List Str := rs.map (·.u) ++ knL kn ++ own.toList
def AllEq (l : List Str) : Prop := ∀ x ∈ l, ∀ y ∈ l, x = y
theorem dfold_held {c : Str} {f : Option Str} : ∀ {us : List Str}, (∀ u ∈ us, u = c) → dfold (some c, true, f) (us.map .pre) = some (some c, true, f)
  | [], _ => rfl
  | u :: us, h => by
    have e : u = c := h u (.head _)
    subst e
    simp only [List.map_cons, dfold, dstep, if_true, Option.bind_some]
    exact dfold_held fun v hv => h v (.tail _ hv)
theorem dfold_held_no {c : Str} {f : Option Str} : ∀ {us : List Str}, ¬ (∀ u ∈ us, u = c) → dfold (some c, true, f) (us.map .pre) = none
  | [], h => absurd (fun _ hm => nomatch hm) h
  | u :: us, h => by
    by_cases e : u = c
    · subst e
      simp only [List.map_cons, dfold, dstep, if_true, Option.bind_some]
      exact dfold_held_no fun h2 => h fun v hv => by
        rcases List.mem_cons.mp hv with q | q
        · exact q
        · exact h2 v q
    · have e' : ¬ (some c = some u) := fun q => e (Option.some.inj q).symm
      simp only [List.map_cons, dfold, dstep, if_neg e', if_true, Option.bind_none]
/-- what is found for the element's names -/
def foundOf (us : List Str) (own outer : Option Str) : Option Str := match own with
  | some o => some o
  | none => match us with | [] => none | u :: _ => if outer = some u then none else some u
theorem dfold_ok {us : List Str} {own outer : Option Str} (h : AllEq (own.toList ++ us)) : ∃ st, dfold (dstart own outer) (us.map .pre) = some st ∧ st.2.2 = foundOf us own outer := by
  cases own with
  | some o =>
    exact ⟨_, dfold_held (c := o) (fun u hu => h u (List.mem_append_right _ hu) o (.head _)), rfl⟩
  | none =>
    rcases us with _ | ⟨u, us⟩
    · exact ⟨_, rfl, rfl⟩
    · have hh : ∀ v ∈ us, v = u := fun v hv => h v (.tail _ hv) u (.head _)
      show ∃ st, (dstep (outer, false, none) (.pre u)).bind (fun s' => dfold s' (us.map .pre)) = some st ∧ _
      simp only [dstep]
      by_cases e : outer = some u
      · rw [if_pos e, Option.bind_some, e]
        exact ⟨_, dfold_held hh, by simp [foundOf]⟩
      · rw [if_neg e, if_neg (by decide), Option.bind_some]
        exact ⟨_, dfold_held hh, by simp [foundOf, e]⟩
theorem dfold_no {us : List Str} {own outer : Option Str} (h : ¬ AllEq (own.toList ++ us)) : dfold (dstart own outer) (us.map .pre) = none := by
  cases own with
  | some o =>
    refine dfold_held_no (c := o) fun q => h ?_
    have q' : ∀ x ∈ ((some o).toList ++ us), x = o := fun x hx => by
      rcases List.mem_cons.mp hx with e | e
      · exact e
      · exact q x e
    intro x hx y hy
    rw [q' x hx, q' y hy]
  | none =>
    rcases us with _ | ⟨u, us⟩
    · exact absurd (fun x hx => nomatch hx) h
    · have hh : ¬ ∀ v ∈ us, v = u := fun q => h fun x hx y hy => by
        have q' : ∀ x ∈ u :: us, x = u := fun x hx => by
          rcases List.mem_cons.mp hx with e | e
          · exact e
          · exact q x e
        rw [q' x hx, q' y hy]
      show (dstep (outer, false, none) (.pre u)).bind (fun s' => dfold s' (us.map .pre)) = none
      simp only [dstep]
      by_cases e : outer = some u
      · rw [if_pos e, Option.bind_some, e]; exact dfold_held_no hh
      · rw [if_neg e, if_neg (by decide), Option.bind_some]; exact dfold_held_no hh
theorem wl_pre {kn : Wt} {us : List Str} {s : DS} (hk : kn ≠ .xml) : dfold s (kn :: us.map .pre) = dfold s ((knL kn ++ us).map .pre) := by
  cases kn with
  | no => rfl
  | pre u => rfl
  | xml => exact absurd rfl hk
theorem allEq_perm {rs : List R3} {kn : Wt} {own : Option Str} : AllEq (spaces rs kn own) ↔ AllEq (own.toList ++ (knL kn ++ rs.map (·.u))) := by
  have hm : ∀ x, x ∈ spaces rs kn own ↔ x ∈ own.toList ++ (knL kn ++ rs.map (·.u)) := fun x => by
    simp only [spaces, List.mem_append]
    constructor
    · rintro ((h | h) | h)
      · exact .inr (.inr h)
      · exact .inr (.inl h)
      · exact .inl h
    · rintro (h | h | h)
      · exact .inr h
      · exact .inl (.inr h)
      · exact .inl (.inl h)
  exact ⟨fun h x hx y hy => h x ((hm x).mpr hx) y ((hm y).mpr hy), fun h x hx y hy => h x ((hm x).mp hx) y ((hm y).mp hy)⟩
/-- those that differ from the first -/
theorem diff_nil {l : List Str} {s0 : Str} (h0 : l[0]? = some s0) : (l.filter fun x => !(x == s0)) = [] ↔ AllEq l := by
  have hm := List.mem_of_getElem? h0
  rw [List.filter_eq_nil_iff]
  constructor
  · intro h x hx y hy
    have a := h x hx
    have b := h y hy
    simp at a b
    rw [a, b]
  · intro h x hx
    simp [h x hx s0 hm]
theorem found_first {rs : List R3} {kn : Wt} {own outer : Option Str} (h : AllEq (spaces rs kn own)) :
    foundOf (knL kn ++ rs.map (·.u)) own outer = if own.isSome = true ∨ (spaces rs kn own)[0]? ≠ outer then (spaces rs kn own)[0]? else none := by
  cases own with
  | some o =>
    rw [if_pos (.inl rfl)]
    have hne : (spaces rs kn (some o)) ≠ [] := by simp [spaces]
    cases q : (spaces rs kn (some o))[0]? with
    | none => rw [List.getElem?_eq_none_iff] at q; exact absurd (List.length_eq_zero_iff.mp (Nat.le_zero.mp q)) hne
    | some s0 => exact congrArg some (h o (by simp [spaces]) s0 (List.mem_of_getElem? q))
  | none =>
    have e0 : spaces rs kn none = rs.map (·.u) ++ knL kn := by simp [spaces]
    rw [e0] at h ⊢
    cases q : (rs.map (·.u) ++ knL kn)[0]? with
    | none =>
      rw [List.getElem?_eq_none_iff] at q
      have := List.length_eq_zero_iff.mp (Nat.le_zero.mp q)
      obtain ⟨a, b⟩ := List.append_eq_nil_iff.mp this
      rw [a, b]
      simp [foundOf]
    | some s0 =>
      have hs := List.mem_of_getElem? q
      cases q2 : knL kn ++ rs.map (·.u) with
      | nil =>
        obtain ⟨a, b⟩ := List.append_eq_nil_iff.mp q2
        rw [a, b] at hs; simp at hs
      | cons u r =>
        have hu : u ∈ rs.map (·.u) ++ knL kn := by
          have : u ∈ knL kn ++ rs.map (·.u) := by rw [q2]; exact .head _
          rcases List.mem_append.mp this with z | z
          · exact List.mem_append_right _ z
          · exact List.mem_append_left _ z
        have e := h u hu s0 hs
        subst e
        simp only [foundOf]
        by_cases e : outer = some u
        · simp [e]
        · have e2 : some u ≠ outer := fun z => e z.symm
          rw [if_neg e, if_pos (.inr e2)]
set_option linter.unusedVariables false
/-- a namespace of the law -/
structure UOk (u : Str) : Prop where
  safe : Safe u
  ne : u ≠ ""
  ok : PyData.strOk u = true
structure ROk (r : R3) : Prop where
  l : r.l = "x" ∨ r.l = "y"
  u : UOk r.u
  v : Safes r.v
/-- the element's name as the law gives it -/
def NameOk (nm uri : Str) (kn : Wt) : Prop := (nm = "e" ∧ uri = "" ∧ kn = .no) ∨ (nm = "p:e" ∧ UOk uri ∧ kn = .pre uri)
noncomputable def KOf (T : PT) (eI : Nat) (kn : Wt) (rs : List R3) : Nat → Wt := fun j => if j = eI then kn else match T.ns[j]? with
  | some n => if n.kind = "attribute" ∧ n.uri ∈ rs.map (·.u) then .pre n.uri else .no
  | none => .no
theorem pfx_e (w : World) : PfxIs w "e" "" := prefix_of_1 w
theorem pfx_r (w : World) : PfxIs w "r" "" := prefix_of_0 w
theorem pfx_pe (w : World) : PfxIs w "p:e" "p" := prefix_of_2 w
theorem pfx_row (w : World) {r : R3} (h : r.l = "x" ∨ r.l = "y") : PfxIs w ("p:" ++ r.l) "p" := by
  rcases h with h | h
  · rw [h]; exact prefix_of_3 w
  · rw [h]; exact prefix_of_4 w
theorem wl_rows {T : PT} {eI : Nat} {kn : Wt} {rs0 : List R3} {n2 : NR} (he : ∃ n, T.ns[eI]? = some n ∧ n.kind = "element") : ∀ {ds : List (Nat × Tok)} {rs : List R3}, AtOk T ds rs → (∀ r ∈ rs, r ∈ rs0) → ds.map (fun d => KOf T eI kn rs0 d.1) = rs.map fun r => .pre r.u
  | [], [], _, _ => rfl
  | d :: ds, r :: rs, ⟨⟨na, h1, h2, h3, h4, _⟩, hr⟩, hs => by
    have hne : d.1 ≠ eI := fun q => by
      obtain ⟨n, hn, hk⟩ := he
      rw [← q, h1] at hn; cases hn
      rw [h2] at hk; exact absurd hk (by decide)
    have hk : KOf T eI kn rs0 d.1 = .pre r.u := by
      unfold KOf
      rw [if_neg hne, h1]
      dsimp only
      rw [if_pos ⟨h2, by rw [h4]; exact List.mem_map_of_mem (f := (·.u)) (hs r (.head _))⟩, h4]
    rw [List.map_cons, List.map_cons, hk, wl_rows (n2 := n2) he hr fun r' h => hs r' (.tail _ h)]
  | [], _ :: _, h, _ => h.elim
  | _ :: _, [], h, _ => h.elim
theorem found_safe {us : List Str} {own outer : Option Str} {st : DS} (h : dfold (dstart own outer) (us.map .pre) = some st) (hu : ∀ u ∈ us, UOk u) (hw : ∀ u, own = some u → UOk u) : ∀ u, st.2.2 = some u → Safes u := by
  intro u hs
  by_cases q : AllEq (own.toList ++ us)
  · obtain ⟨st', h1, h2⟩ := dfold_ok (outer := outer) q
    rw [h] at h1; cases h1
    rw [h2] at hs
    cases own with
    | some o => exact (hw u hs).safe.s
    | none =>
      rcases us with _ | ⟨v, r⟩
      · cases hs
      · simp only [foundOf] at hs
        split at hs
        · cases hs
        · cases hs; exact (hu _ (.head _)).safe.s
  · rw [dfold_no q] at h; cases h
theorem NameOk.xml {nm uri : Str} {kn : Wt} (h : NameOk nm uri kn) : kn ≠ .xml := by
  rcases h with ⟨_, _, e⟩ | ⟨_, _, e⟩ <;> rw [e] <;> (intro q; cases q)
theorem NameOk.uri {nm uri : Str} {kn : Wt} (h : NameOk nm uri kn) : ∀ u ∈ knL kn, UOk u := by
  rcases h with ⟨_, _, e⟩ | ⟨_, hu, e⟩ <;> rw [e] <;> intro u hm
  · cases hm
  · rw [List.mem_singleton.mp hm]; exact hu
theorem held_facts (w : World) {T : PT} {eI : Nat} {te : Tok} {outer own : Option Str} {nm uri : Str} {kn : Wt} {rs : List R3} (R : RootOk T [(eI, te)] outer) (El : ElemOk T eI nm uri own rs) (hI : 2 ≤ eI) (hn : NameOk nm uri kn) (hr : ∀ r ∈ rs, ROk r) (hl : rs.length ≤ 5)
    (ho : ∀ u, outer = some u → UOk u) (hw : ∀ u, own = some u → UOk u) :
    ∃ (n0 n1 n2 : NR) (t1 : Tok) (K : Nat → Wt), T.ns[0]? = some n0 ∧ n0.kind = "root" ∧ n0.ch = [(1, t1)] ∧ T.ns[1]? = some n1 ∧ n1.kind = "element" ∧ n1.name = "r" ∧ n1.at' = [] ∧ T.ns[eI]? = some n2 ∧ n2.name = nm ∧ AtOk T n2.at' rs ∧
      Wants w T 1 n1 outer K ∧ TagOk T n1 ∧ dfold (dstart outer none) (wl K 1 n1) = some (dstart outer none) ∧ (∀ u, outer = some u → Safes u) ∧
      KidOk w T K n1 outer (some ((eI, te), n2, own)) ∧ wl K eI n2 = kn :: rs.map (fun r => .pre r.u) := by
  obtain ⟨n0, n1, t1, a0, a1, a2, b0, b1, b2, b3, b4, b5, b6⟩ := R
  obtain ⟨n2, c0, c1, c2, c3, c4, c5, c6⟩ := El
  have hwl : wl (KOf T eI kn rs) eI n2 = kn :: rs.map (fun r => .pre r.u) := by
    unfold wl
    rw [wl_rows (n2 := n2) ⟨n2, c0, c1⟩ c6 fun r h => h]
    have : KOf T eI kn rs eI = kn := by unfold KOf; rw [if_pos rfl]
    rw [this]
  have hK1 : KOf T eI kn rs 1 = .no := by
    unfold KOf
    rw [if_neg (by (k_extra "MY om")), b0]
    dsimp only
    rw [if_neg (fun h => by rw [b1] at h; exact absurd h.1 (by decide))]
  have hKe : KOf T eI kn rs eI = kn := by unfold KOf; rw [if_pos rfl]
  have hKu : ∀ j u, KOf T eI kn rs j = .pre u → UOk u := by
    intro j u h
    unfold KOf at h
    split at h
    · rcases hn with ⟨_, _, e⟩ | ⟨_, hu, e⟩
      · rw [e] at h; cases h
      · rw [e] at h; cases h; exact hu
    · split at h
      · split at h
        · rename_i hh
          cases h
          obtain ⟨r, hr1, hr2⟩ := List.mem_map.mp hh.2
          rw [← hr2]; exact (hr r hr1).u
        · cases h
      · cases h
  have nsw : ∀ {n : NR} {o : Option Str}, NsOk T n o → (n.ns = [] ∧ o = none) ∨ ∃ d nn o', n.ns = [d] ∧ T.ns[d.1]? = some nn ∧ nn.name = "p" ∧ nn.value = o' ∧ o = some o' := fun h => by
    rcases h with h | ⟨d, nn, u, h1, h2, _, h3, h4, h5⟩
    · exact .inl h
    · exact .inr ⟨d, nn, u, h1, h2, h3, h4, h5⟩
  have hne : ∀ j u, KOf T eI kn rs j = .pre u → u ≠ "" ∧ PyData.strOk u = true := fun j u h => ⟨(hKu j u h).ne, (hKu j u h).ok⟩
  have lx : ∀ r ∈ rs, Len 50 (Str.ofString "p:" ++ r.l) := fun r h => by
    rcases (hr r h).l with e | e <;> rw [e] <;> (unfold Len; decide +kernel)
  refine ⟨n0, n1, n2, t1, KOf T eI kn rs, a0, a1, a2, b0, b1, b2, b5, c0, c2, c6, ⟨b0, ?_, ?_, (by rw [b5]; exact Nat.zero_le _), (fun d hd => by rw [b5] at hd; cases hd), nsw b6, hne⟩, ⟨?_, (by rw [b5]; exact Nat.zero_le _), (fun d hd => by rw [b5] at hd; cases hd)⟩, ?_, fun u h => (ho u h).safe.s, ⟨b4, c0, c1, c4, ⟨c0, ?_, ?_, ?_, fun d hd => ?_, nsw c5, hne⟩, ⟨?_, ?_, fun d hd => ?_⟩, fun st2 hst u hu => ?_⟩, hwl⟩
  · rw [b2, hK1]; exact pfx_r w
  · rw [b3, hK1]; rfl
  · rw [b2]; unfold Len; decide +kernel
  · unfold wl; rw [hK1, b5]; rfl
  · dsimp only
    rw [c2, hKe]
    rcases hn with ⟨e1, _, e2⟩ | ⟨e1, _, e2⟩
    · rw [e1, e2]; exact pfx_e w
    · rw [e1, e2]; exact pfx_pe w
  · dsimp only
    rw [c3, hKe]
    rcases hn with ⟨_, e1, e2⟩ | ⟨_, _, e2⟩
    · rw [e1, e2]; rfl
    · rw [e2]; rfl
  · rw [c6.len]; (k_extra "MY om")
  · obtain ⟨r, hr1, na, g1, g2, g3, g4, g5, g6⟩ := c6.mem d hd
    have hK : KOf T eI kn rs d.1 = .pre r.u := by
      unfold KOf
      rw [if_neg (fun q => by rw [q, c0] at g1; cases g1; rw [g2] at c1; exact absurd c1 (by decide)), g1]
      dsimp only
      rw [if_pos ⟨g2, by rw [g4]; exact List.mem_map_of_mem (f := (·.u)) hr1⟩, g4]
    refine ⟨na, g1, ?_, ?_, ?_⟩
    · rw [g3, hK]; exact pfx_row w (hr r hr1).l
    · rw [g4, hK]; rfl
    · rw [hK]; intro h; cases h
  · rw [c2]
    rcases hn with ⟨e1, _, _⟩ | ⟨e1, _, _⟩ <;> rw [e1] <;> (unfold Len; decide +kernel)
  · rw [c6.len]; (k_extra "MY om")
  · obtain ⟨r, hr1, na, g1, g2, g3, g4, g5, g6⟩ := c6.mem d hd
    exact ⟨na, g1, by rw [g3]; exact lx r hr1, by rw [g6]; exact (hr r hr1).v⟩
  · dsimp only at hst
    rw [hwl, show (rs.map fun r => Wt.pre r.u) = (rs.map (·.u)).map .pre by rw [List.map_map]; rfl, wl_pre hn.xml] at hst
    refine found_safe hst (fun v hv => ?_) hw u hu
    rcases List.mem_append.mp hv with h | h
    · exact hn.uri v h
    · obtain ⟨r, hr1, hr2⟩ := List.mem_map.mp h
      rw [← hr2]; exact (hr r hr1).u
set_option linter.unusedVariables false
/-- what differs from a text -/
def gs (s0 : Str) : Value → Bool
  | .str u _ => !(u == s0)
  | _ => true
theorem strs_filter {s0 : Str} : ∀ {vs : List Value} {ys : List Str}, StrsAre vs ys → StrsAre (vs.filter (gs s0)) (ys.filter fun x => !(x == s0))
  | _, _, .nil => .nil
  | _, _, .cons x t h => by
    have ih := strs_filter (s0 := s0) h
    rw [List.filter_cons, List.filter_cons]
    show StrsAre (if (!(x == s0)) = true then _ else _) _
    split
    · exact .cons _ _ ih
    · exact ih
theorem strs_nil {vs : List Value} {ys : List Str} (h : StrsAre vs ys) : vs = [] ↔ ys = [] := by
  cases h with
  | nil => exact ⟨fun _ => rfl, fun _ => rfl⟩
  | cons => exact ⟨(fun h => nomatch h), (fun h => nomatch h)⟩
theorem strs_rows : ∀ rs : List R3, StrsAre (rs.map fun r => Value.str r.u r.tu) (rs.map (·.u))
  | [] => .nil
  | r :: rs => .cons _ _ (strs_rows rs)
def fst0 (l : List Str) : Str := (l[0]?).getD (Str.ofString "")
theorem diff_nil' {l : List Str} : (l.filter fun x => !(x == fst0 l)) = [] ↔ AllEq l := by
  cases l with
  | nil => exact ⟨fun _ => (fun x hx => nomatch hx), fun _ => rfl⟩
  | cons a l => exact diff_nil (l := a :: l) (s0 := a) rfl
theorem filt_nil {vs : List Value} {l : List Str} (h : StrsAre vs l) : vs.filter (gs (fst0 l)) = [] ↔ AllEq l :=
  (strs_nil (strs_filter h)).trans diff_nil'
/-- the first text of a list of texts -/
theorem first_str {vs : List Value} {l : List Str} (h : StrsAre vs l) {i : Nat} {v : Value} (hv : vs[i]? = some v) : ∃ u t t0, v = .str u t ∧ vs[0]? = some (.str (fst0 l) t0) := by
  obtain ⟨u, t, e, _⟩ := h.item i v hv
  cases h with
  | nil => cases hv
  | cons x t0 h => exact ⟨u, t, t0, e, rfl⟩
section
variable {w : World} {A : Around} {E : Value → Shared → Prop} {s : Shared} {h₀ : Heap} {L : Addr} {m : Str → Option Value} {news : List (Addr × Obj)}
theorem item_first {value slice : PySem.Expr} {l : Addr} {c : Nat} {vs : List Value} {v : Value} {u : Tok} {Q : Value → Shared → Prop} (N : News h₀ L s.heap news) (hm : (l, listOf vs.toArray c) ∈ news) (h0 : vs[0]? = some v) (h : Q v s)
    (hs : subscripted slice false (.ref l) (.int 0 u) = operate [.ref l, .int 0 u] (getItem (.ref l) (.int 0 u)) := by with_unfolding_all rfl) : wpAny (model PG w) A (subscriptTail value slice (.ref l) (.int 0 u)) Q E s :=
  item_listA (News.isList N hm) (by decide) (by decide) h0 h hs
theorem ne_gs {x y : Str} {t u : Tok} {Q : Value → Shared → Prop} (h : Q (.bool (gs y (.str x t))) s) : wpAny (model PG w) A (compareOp .NotEq (.str x t) (.str y u)) Q E s :=
  PyProof.Rows.ne_str h
theorem slice_one {l : Addr} {vs : List Value} {g : Heap} {vk : Value} {value slice : PySem.Expr} {ops : List Value} {Q : Value → Shared → Prop} {gs : Array GenState} {dr : _} {tk : Nat} {os : _} (F : Fr h₀ L g m) (N : News h₀ L g news) (hl : g.IsList l vs.toArray) (pk : IsPart vk (some 1))
    (h : ∀ D h', Fr h₀ L h' m → News h₀ L h' ((D, listOf (vs.take 1).toArray 0) :: news) → (∀ p ∈ news, p.1 < D) → Q (.ref D) { heap := h', gens := gs, drawn := dr, toks := tk, os := os })
    (hs : subscripted slice false (.ref l) (.ref g.objs.size) = operate ops (getItem (.ref l) (.ref g.objs.size))) (ht : ∀ r, letTemporaryGo value (.ref l) r = pure ()) (hz : vs.length ≤ sizeLine) :
    wpAny (model PG w) A (subscriptTail value slice (.ref l) (.ref g.objs.size)) Q E { heap := g.push { cls := .type "slice", data := .fields #[.none, vk, .none] }, gens := gs, drawn := dr, toks := tk, os := os } := by
  refine slice_list3 (s := { heap := g, gens := gs, drawn := dr, toks := tk, os := os }) F N hl .none pk .none (by decide) (fun h' F' N' => ?_) hs ht (by simpa using hz)
  have e : slicePick vs.toArray none (some 1) none = (vs.take 1).toArray := slicePick_upto' vs.toArray 1
  rw [e] at N'
  exact h _ h' F' N' fun p hp => Nat.lt_succ_of_lt (Heap.lt_size (N p hp).1)
theorem eqAt_strNone {x : Str} {t : Tok} : SeqAt.EqAt A s (.str x t) .none false := fun prog w E Q hq => by
  unfold eqBool
  refine wpAny_holding ?_
  refine wpAny_ite_split (fun hab => absurd (eq_of_beq hab) (fun h => nomatch h)) (fun _ => ?_)
  show wpAny _ _ (richCompare CmpOp.Eq (.str x t) .none >>= truthOfDropped) Q E s
  exact wpAny_bind (SeqAt.RcAt.str_none x t prog w E _ (by wp_walk; exact hq))
theorem eqAt_strStr {x y : Str} {t u : Tok} : SeqAt.EqAt A s (.str x t) (.str y u) (x == y) := by
  have h := (SeqRoads2.EqGives.str x y t u).at A s
  have e : (x.cps.toList == y.cps.toList) = (x == y) := by
    by_cases q : x = y
    · subst q; simp
    · rw [beq_eq_false_iff_ne.mpr q]
      refine beq_eq_false_iff_ne.mpr fun h => q ?_
      obtain ⟨a⟩ := x
      obtain ⟨b⟩ := y
      simpa using h
  rw [e] at h
  exact h
/-- lists of one, compared -/
theorem ne_ones {a b : Addr} {ca cb : Nat} {v x : Value} {k : Bool} {Q : Value → Shared → Prop} (N : News h₀ L s.heap news) (ha : (a, listOf [v].toArray ca) ∈ news) (hb : (b, listOf #[x] cb) ∈ news) (hu : A.units < cLine) (he : SeqAt.EqAt A.in1 s v x k) (h : Q (.bool (!k)) s) :
    wpAny (model PG w) A (compareOp .NotEq (.ref a) (.ref b)) Q E s := by
  refine PySem.SeqAt.RcNeAt.lists (e := fun _ => k) (News.isList N ha) (News.isList N hb) (by simp) hu (fun j h1 h2 => ?_) PG w E Q (by simpa using h)
  have : j = 0 := by simpa using h1
  subst this
  exact he
end
/-- texts put together -/
theorem s_assoc (a b c : Str) : a ++ b ++ c = a ++ (b ++ c) := by
  obtain ⟨a⟩ := a
  obtain ⟨b⟩ := b
  obtain ⟨c⟩ := c
  exact congrArg Str.mk (Array.append_assoc ..)
theorem s_nil (a : Str) : a ++ Str.ofString "" = a := by
  obtain ⟨a⟩ := a
  exact congrArg Str.mk (Array.append_empty ..)
theorem s_nil' (a : Str) : Str.ofString "" ++ a = a := by
  obtain ⟨a⟩ := a
  exact congrArg Str.mk (Array.empty_append ..)
theorem join_nil : Txt.join (Str.ofString "") [] = Str.ofString "" := by
  unfold Txt.join
  rw [StrLaws.glued_eq_join]; rfl
theorem join_cons (x : Str) (r : List Str) : Txt.join (Str.ofString "") (x :: r) = x ++ Txt.join (Str.ofString "") r := by
  unfold Txt.join
  rw [StrLaws.glued_eq_join, StrLaws.glued_eq_join]
  cases r with
  | nil => exact (s_nil x).symm
  | cons y r =>
    show x ++ Str.ofString "" ++ Str.join (Str.ofString "") (y :: r) = _
    rw [s_nil]
def attrT (r : R3) : Str := (((Str.ofString " p:" ++ r.l) ++ Str.ofString "=\"") ++ r.v) ++ Str.ofString "\""
def nsT (u : Str) : Str := (Str.ofString " xmlns:p=\"" ++ u) ++ Str.ofString "\""
theorem tagA_rows {T : PT} : ∀ {ds : List (Nat × Tok)} {rs : List R3} {s : Str}, AtOk T ds rs → tagA T ds s = s ++ Txt.join (Str.ofString "") (rs.map attrT)
  | [], [], s, _ => by rw [List.map_nil, join_nil, s_nil]; rfl
  | d :: ds, r :: rs, s, ⟨⟨na, h1, _, h3, _, _, h6⟩, hr⟩ => by
    show tagA T ds (match T.ns[d.1]? with | some na => tag1 s na.name na.value | none => s) = _
    rw [h1]
    dsimp only
    rw [tagA_rows hr, List.map_cons, join_cons, h3, h6, ← s_assoc]
    refine congrArg (· ++ _) ?_
    unfold tag1 attrT
    rw [show (Str.ofString " p:") = Str.ofString " " ++ Str.ofString "p:" by decide +kernel]
    simp only [s_assoc]
  | [], _ :: _, _, h => h.elim
  | _ :: _, [], _, h => h.elim
theorem tagP_law (f : Option Str) (s : Str) : tagP f s = s ++ Txt.join (Str.ofString "") (f.toList.map nsT) := by
  cases f with
  | none => rw [Option.toList_none, List.map_nil, join_nil, s_nil]; rfl
  | some u =>
    rw [Option.toList_some, List.map_cons, List.map_nil, join_cons, join_nil, s_nil]
    unfold tagP nsT
    rw [show (Str.ofString " xmlns:p=\"") = (Str.ofString " xmlns:" ++ Str.ofString "p") ++ Str.ofString "=\"" by decide +kernel]
    simp only [s_assoc]
def outT (o : Option Str) : Str := match o with | none => Str.ofString "" | some u => nsT u
theorem text_law {T : PT} {n1 n2 : NR} {outer f : Option Str} {nm : Str} {rs : List R3} (h1 : n1.name = "r") (h2 : n1.at' = []) (h3 : n2.name = nm) (A : AtOk T n2.at' rs) :
    Txt.join (Str.ofString "") [tagT T n1 outer false, tagT T n2 f true, Str.ofString "</" ++ n1.name ++ Str.ofString ">"] =
      (((Str.ofString "<r" ++ outT outer) ++ Str.ofString ">") ++ ((((Str.ofString "<" ++ nm) ++ Txt.join (Str.ofString "") (f.toList.map nsT)) ++ Txt.join (Str.ofString "") (rs.map attrT)) ++ Str.ofString "/>")) ++ Str.ofString "</r>" := by
  have e1 : tagT T n1 outer false = (Str.ofString "<r" ++ outT outer) ++ Str.ofString ">" := by
    unfold tagT
    rw [h2, h1, if_neg (by decide)]
    show tagP outer (Str.ofString "<" ++ Str.ofString "r") ++ Str.ofString ">" = _
    rw [tagP_law, show (Str.ofString "<" ++ Str.ofString "r") = Str.ofString "<r" by decide +kernel]
    cases outer with
    | none => rw [Option.toList_none, List.map_nil, join_nil]; rfl
    | some u => rw [Option.toList_some, List.map_cons, List.map_nil, join_cons, join_nil, s_nil]; rfl
  have e2 : tagT T n2 f true = (((Str.ofString "<" ++ nm) ++ Txt.join (Str.ofString "") (f.toList.map nsT)) ++ Txt.join (Str.ofString "") (rs.map attrT)) ++ Str.ofString "/>" := by
    unfold tagT
    rw [tagA_rows A, tagP_law, h3]; rfl
  have e3 : Str.ofString "</" ++ n1.name ++ Str.ofString ">" = Str.ofString "</r>" := by rw [h1]; decide +kernel
  rw [e1, e2, e3, join_cons, join_cons, join_cons, join_nil, s_nil]
  simp only [s_assoc]
set_option linter.unusedVariables false
theorem strs_app {vs vs' : List Value} {ys ys' : List Str} (h : StrsAre vs ys) (h' : StrsAre vs' ys') : StrsAre (vs ++ vs') (ys ++ ys') := by
  induction h with
  | nil => exact h'
  | cons x t _ ih => exact .cons x t ih
theorem ds_none (o : Option Str) : (dstart o none).2.2 = o := by cases o <;> rfl
theorem wl_us {K : Nat → Wt} {eI : Nat} {n2 : NR} {kn : Wt} {rs : List R3} (h : wl K eI n2 = kn :: rs.map (fun r => .pre r.u)) (hk : kn ≠ .xml) (s : DS) : dfold s (wl K eI n2) = dfold s ((knL kn ++ rs.map (·.u)).map .pre) := by
  rw [h, show (rs.map fun r => Wt.pre r.u) = (rs.map (·.u)).map .pre by rw [List.map_map]; rfl, wl_pre hk]
theorem good_facts {T : PT} {K : Nat → Wt} {n1 n2 : NR} {outer own : Option Str} {eI : Nat} {t3 : Tok} {kn : Wt} {rs : List R3} {fs : List Str} (hwl : wl K eI n2 = kn :: rs.map (fun r => .pre r.u)) (hk : kn ≠ .xml)
    (h : ResOk T K n1 (dstart outer none).2.2 (some ((eI, t3), n2, own)) fs) :
    AllEq (spaces rs kn own) ∧ fs = [tagT T n1 outer false, tagT T n2 (if own.isSome = true ∨ (spaces rs kn own)[0]? ≠ outer then (spaces rs kn own)[0]? else none) true, "</" ++ n1.name ++ ">"] := by
  rw [ds_none] at h
  rcases h with ⟨h, _⟩ | ⟨c2, n2', own', st2, h, hst, rfl⟩
  · cases h
  · cases h
    dsimp only at hst
    rw [wl_us hwl hk] at hst
    have ha : AllEq (spaces rs kn own) := Classical.byContradiction fun hn => by
      rw [dfold_no fun q => hn (allEq_perm.mpr q)] at hst
      cases hst
    refine ⟨ha, ?_⟩
    obtain ⟨st, h1, h2⟩ := dfold_ok (us := knL kn ++ rs.map (·.u)) (outer := outer) (allEq_perm.mp ha)
    rw [hst] at h1
    cases h1
    rw [h2, found_first ha]
theorem bad_facts {K : Nat → Wt} {n2 : NR} {outer own : Option Str} {eI : Nat} {t3 : Tok} {kn : Wt} {rs : List R3} (hwl : wl K eI n2 = kn :: rs.map (fun r => .pre r.u)) (hk : kn ≠ .xml)
    (h : BadKid K (dstart outer none).2.2 (some ((eI, t3), n2, own))) : ¬ AllEq (spaces rs kn own) := by
  rw [ds_none] at h
  obtain ⟨c2, n2', own', h, hst⟩ := h
  cases h
  intro ha
  dsimp only at hst
  rw [wl_us hwl hk] at hst
  obtain ⟨st, h1, _⟩ := dfold_ok (us := knL kn ++ rs.map (·.u)) (outer := outer) (allEq_perm.mp ha)
  rw [hst] at h1
  cases h1
def oV (o : Option Str) (t : Tok) : Value := match o with | none => .none | some u => .str u t
theorem handed_oV (o : Option Str) (t : Tok) : handedIn (oV o t) = true := by cases o <;> rfl
theorem strs_take1 {vs : List Value} {l : List Str} (h : StrsAre vs l) : StrsAre (vs.take 1) (l[0]?).toList := by
  cases h with
  | nil => exact .nil
  | cons x t h => exact .cons x t .nil
section
variable {w : World} {A : Around} {E : Value → Shared → Prop} {s : Shared} {h₀ : Heap} {L : Addr} {m : Str → Option Value} {news : List (Addr × Obj)}
theorem ne_first_yes {a b : Addr} {ca cb : Nat} {sv : List Value} {l : List Str} {o : Option Str} {t : Tok} {Q : Value → Shared → Prop} (N : News h₀ L s.heap news) (ha : (a, listOf (sv.take 1).toArray ca) ∈ news) (hb : (b, listOf #[oV o t] cb) ∈ news) (hu : A.units < cLine)
    (sp : StrsAre sv l) (hq : ¬ (l ≠ [] ∧ l[0]? = o)) (h : Q (.bool true) s) : wpAny (model PG w) A (compareOp .NotEq (.ref a) (.ref b)) Q E s := by
  cases sp with
  | nil => exact PySem.SeqAt.RcNeAt.lists_lengths (News.isList N ha) (News.isList N hb) (by rfl) hu PG w E Q h
  | cons x u sp =>
    cases o with
    | none => exact ne_ones (k := false) N ha hb hu eqAt_strNone h
    | some y =>
      have e : (x == y) = false := beq_eq_false_iff_ne.mpr fun e => hq ⟨(fun h => nomatch h), congrArg some e⟩
      exact ne_ones (k := false) N ha hb hu (e ▸ eqAt_strStr) h
theorem ne_first_no {a b : Addr} {ca cb : Nat} {sv : List Value} {l : List Str} {o : Option Str} {t : Tok} {Q : Value → Shared → Prop} (N : News h₀ L s.heap news) (ha : (a, listOf (sv.take 1).toArray ca) ∈ news) (hb : (b, listOf #[oV o t] cb) ∈ news) (hu : A.units < cLine)
    (sp : StrsAre sv l) (hq : l ≠ [] ∧ l[0]? = o) (h : Q (.bool false) s) : wpAny (model PG w) A (compareOp .NotEq (.ref a) (.ref b)) Q E s := by
  cases sp with
  | nil => exact absurd rfl hq.1
  | cons x u sp =>
    obtain rfl : some x = o := hq.2
    have e : (x == x) = true := beq_iff_eq.mpr rfl
    exact ne_ones (k := true) N ha hb hu (e ▸ eqAt_strStr) h
end
theorem strs_of_get : ∀ {ys : List Value} {l : List Str}, ys.length = l.length → (∀ (i : Nat) y, ys[i]? = some y → ∃ x t, l[i]? = some x ∧ y = .str x t) → StrsAre ys l
  | [], [], _, _ => .nil
  | v :: vs, x :: l, hl, h => by
    obtain ⟨x', t, e, rfl⟩ := h 0 v rfl
    cases e
    exact .cons _ _ (strs_of_get (Nat.succ.inj hl) fun i y hy => h (i + 1) y hy)
  | [], _ :: _, hl, _ => nomatch hl
  | _ :: _, [], hl, _ => nomatch hl
theorem join_line {w : World} {A : Around} {E : Value → Shared → Prop} {s : Shared} {h₀ : Heap} {L : Addr} {news : List (Addr × Obj)} {D : Addr} {c : Nat} {vs : List Value} {ys : List Str} {x J : Str} {t : Tok} {Q : Value → Shared → Prop} (N : News h₀ L s.heap news) (hm : (D, listOf vs.toArray c) ∈ news) (hi : StrsAre vs ys)
    (hw : (ys.map (·.length)).sum + ys.length ≤ 1048576) (hj : J = Txt.join x ys) (hsep : x.length ≤ 16) (h : ∀ t' k, Q (.str J t') { s with toks := k }) : wpAny (model PG w) A (call (.builtin "str.join") [.str x t, .ref D]) Q E s := by
  subst hj
  exact join_listW (News.isList N hm) (by simpa using hi) hsep hw h
theorem len_nsT {u : Str} (h : Len 2 u) : Len 14 (nsT u) := by
  have h1 : Len 10 (Str.ofString " xmlns:p=\"") := by unfold Len; decide +kernel
  have h2 : Len 1 (Str.ofString "\"") := by unfold Len; decide +kernel
  exact ((h1.app h).app h2).up (by (k_extra "MY om"))
theorem len_attrT {r : R3} (h : Len 1 r.l) (g : Len 2 r.v) : Len 14 (attrT r) := by
  have h1 : Len 3 (Str.ofString " p:") := by unfold Len; decide +kernel
  have h2 : Len 1 (Str.ofString "\"") := by unfold Len; decide +kernel
  have h3 : Len 2 (Str.ofString "=\"") := by unfold Len; decide +kernel
  exact ((((h1.app h).app h3).app g).app h2).up (by (k_extra "MY om"))
theorem len_join : ∀ {l : List Str} {n : Nat}, l.length ≤ n → (∀ x ∈ l, Len 14 x) → Len (n * 14) (Txt.join (Str.ofString "") l)
  | [], n, _, _ => by rw [join_nil]; unfold Len; rw [show (Str.ofString "").length = 0 by decide +kernel]; (k_extra "MY om")
  | x :: l, 0, h, _ => nomatch h
  | x :: l, n + 1, h, g => by
    rw [join_cons]
    exact ((g x (.head _)).app (len_join (Nat.le_of_succ_le_succ h) fun y hy => g y (.tail _ hy))).up (by (k_extra "MY om"))
theorem sum_len : ∀ {l : List Str} {n : Nat}, l.length ≤ n → (∀ x ∈ l, Len 14 x) → (l.map (·.length)).sum + l.length ≤ n * 15
  | [], n, _, _ => by simp
  | x :: l, 0, h, _ => nomatch h
  | x :: l, n + 1, h, g => by
    have a : x.length ≤ 14 := g x (.head _)
    have b := sum_len (Nat.le_of_succ_le_succ h) fun y hy => g y (.tail _ hy)
    simp only [List.map_cons, List.sum_cons, List.length_cons]; (k_extra "MY om")
theorem UOk.len {u : Str} (h : UOk u) : Len 2 u := flen h.safe.s
theorem spaces_ok {nm uri : Str} {kn : Wt} {rs : List R3} {own : Option Str} (hn : NameOk nm uri kn) (hr : ∀ r ∈ rs, ROk r) (hw : ∀ u, own = some u → UOk u) : ∀ u ∈ spaces rs kn own, Len 2 u := by
  intro u hu
  simp only [spaces, List.mem_append] at hu
  rcases hu with (h | h) | h
  · obtain ⟨r, h1, rfl⟩ := List.mem_map.mp h
    exact (hr r h1).u.len
  · rcases hn with ⟨_, _, rfl⟩ | ⟨_, h2, rfl⟩
    · cases h
    · rw [List.mem_singleton.mp h]; exact h2.len
  · exact (hw u (by simpa using h)).len
theorem name_len {nm uri : Str} {kn : Wt} (hn : NameOk nm uri kn) : Len 3 nm := by
  rcases hn with ⟨rfl, _⟩ | ⟨rfl, _⟩ <;> (unfold Len; decide +kernel)
theorem ROk.len1 {r : R3} (h : ROk r) : Len 1 r.l := by rcases h.l with e | e <;> rw [e] <;> (unfold Len; decide +kernel)
set_option linter.unusedVariables false
theorem words_63 : True := by
  k_with "OFF 62" => (skip)
  k_with "MY enter" => ((fail_if_success k_extra "OFF 65"); (refine wpAny_call ?_; with_unfolding_all (refine' code_def ?k1ₘ ?k2ₘ ?k3ₘ ?k4ₘ ?k5ₘ ?kAₘ ?kFₘ ?kKₘ ?k6ₘ ?k7ₘ ?k8ₘ ?k9ₘ ?kBₘ ?_ ?c2ₘ ?c3ₘ ?c4ₘ ?c5ₘ; (case kAₘ => exact rfl); (case kFₘ => exact rfl); (case kKₘ => assumption); (case k1ₘ => k_asm); (case k2ₘ => k_asm); (case k3ₘ => k_asm); (case k4ₘ => k_asm); (case k5ₘ => k_asm); (case k6ₘ => k_is); (case k7ₘ => k_is); (case k8ₘ => ((try dsimp only [ktrTop]); (k_extra "MY om"))); (case k9ₘ => exact BindsTo.of_eq rfl); (case c5ₘ => decide); (case kBₘ => exact locs rfl); (case c2ₘ => exact rfl); (case c3ₘ => exact rfl); (case c4ₘ => exact rfl); k_whole)))
  k_with "MY k_room" => (((try dsimp only [ktrTop, Around.deeper]); (try simp only [depth_under_make, depth_under_kw, depth_in1, depth_deeper, depth_caller]); (k_extra "MY om")))
  k_with "MY k_inst" => (first | (refine' inst_treeN ?Fₘ; (case Fₘ => k_asm)) | (refine' inst_nodeN ?Fₘ ?h2ₘ; (case Fₘ => k_asm); (case h2ₘ => assumption)))
  k_with "MY k_all" => ((fail_if_success k_extra "OFF 64"); assumption)
  k_with "MY in" => ((repeat (first | assumption | with_reducible exact List.mem_cons_self | with_reducible refine List.mem_cons_of_mem _ ?_ | with_reducible refine List.mem_append_right _ ?_)))
  k_with "MY heldC" => ((fail_if_success k_extra "OFF 64"); (refine wpAny_call ?_; with_unfolding_all (refine' code_heldC ?k1ₘ ?k2ₘ ?k3ₘ ?k4ₘ ?k5ₘ ?kAₘ ?kFₘ ?kKₘ ?k6ₘ ?k7ₘ ?k8ₘ ?k9ₘ ?kBₘ ?kDₘ ?_ ?c2ₘ ?c3ₘ ?c4ₘ; (case kAₘ => exact rfl); (case kFₘ => exact rfl); (case kKₘ => assumption); (case k1ₘ => k_asm); (case k2ₘ => k_asm); (case k3ₘ => k_asm); (case k4ₘ => k_asm); (case k5ₘ => k_asm); (case k6ₘ => k_is); (case k7ₘ => k_is); (case k8ₘ => ((try dsimp only [ktrTop]); (k_extra "MY om"))); (case k9ₘ => exact BindsTo.of_eq rfl); (case kBₘ => exact rfl); (case kDₘ => decide +kernel); (case c2ₘ => exact rfl); (case c3ₘ => exact rfl); (case c4ₘ => exact rfl); k_whole)))
  k_with "assign Tuple" => ((fail_if_success k_extra "OFF 64"); (k_dflt (refine' unpackB ?Fₘ ?Nₘ ?dₘ ?k1ₘ ?k2ₘ ?k3ₘ ?_; (case Fₘ => k_asm); (case Nₘ => k_asm); (case dₘ => assumption); (case k1ₘ => exact rfl); (case k2ₘ => exact rfl); (case k3ₘ => exact rfl)); intro h'ₘ F'ₘ N'ₘ))
  k_with "MY in" => ((fail_if_success k_extra "OFF 64"); first | assumption | with_reducible exact List.mem_cons_self | exact List.mem_append_left _ (by assumption) | (with_reducible refine List.mem_cons_of_mem _ ?_; k_extra "MY in") | (with_reducible refine List.mem_append_right _ ?_; k_extra "MY in"))
  k_with "exec If Compare cons nil" => ((fail_if_success k_extra "OFF 64"); ((fail_if_success (have _gₘ : Go := by assumption)); refine halt_of ?_))
  k_with "exec For Tuple Name cons nil" => ((fail_if_success k_extra "OFF 65"); (k_here; (rename Fr _ _ _ _ => lF'ₘ); (with_unfolding_all refine' For_turns lF'ₘ ?_; k_whole)))
  k_with "exec Try cons cons nil nil" => ((fail_if_success k_extra "OFF 64"); refine wpAny_Try_except ?_)
  k_with "eval IfExp" => ((fail_if_success k_extra "OFF 64"); ((fail_if_success (have _gₘ : Go := by assumption)); refine halt_of ?_))
  k_with "call ref" => ((fail_if_success k_extra "OFF 64"); first | ((with_reducible show wpAny _ _ (call (Value.ref 354) _) _ _ _); refine halt_of ?_) | ((with_reducible show wpAny _ _ (call (Value.ref 368) _) _ _ _); refine halt_of ?_) | ((with_reducible show wpAny _ _ (call (Value.ref 410) _) _ _ _); refine halt_of ?_) | ((with_reducible show wpAny _ _ (call (Value.ref 403) _) _ _ _); refine halt_of ?_) | ((with_reducible show wpAny _ _ (call (Value.ref 585) _) _ _ _); refine halt_of ?_))
  trivial
theorem item_pairB0 {w : World} {A : Around} {E : Value → Shared → Prop} {s : Shared} {value slice : PySem.Expr} {h₀ : Heap} {L t : Addr} {m : Str → Option Value} {x y : Value} {u : Tok} {Q : Value → Shared → Prop} (F : Fr h₀ L s.heap m) (ht : h₀.get? t = some (tupObj [x, y])) (h : Q x s)
    (hs : subscripted slice false (.ref t) (.int 0 u) = operate [.ref t, .int 0 u] (getItem (.ref t) (.int 0 u)) := by with_unfolding_all rfl) : wpAny (model PG w) A (subscriptTail value slice (.ref t) (.int 0 u)) Q E s :=
  item_tupleT (l := [x, y]) (j := 0) ⟨_, F.keep _ _ ht, rfl, _, rfl⟩ (by decide) (by decide) (by rfl) rfl h hs
theorem item_pairB1 {w : World} {A : Around} {E : Value → Shared → Prop} {s : Shared} {value slice : PySem.Expr} {h₀ : Heap} {L t : Addr} {m : Str → Option Value} {x y : Value} {u : Tok} {Q : Value → Shared → Prop} (F : Fr h₀ L s.heap m) (ht : h₀.get? t = some (tupObj [x, y])) (h : Q y s)
    (hs : subscripted slice false (.ref t) (.int 1 u) = operate [.ref t, .int 1 u] (getItem (.ref t) (.int 1 u)) := by with_unfolding_all rfl) : wpAny (model PG w) A (subscriptTail value slice (.ref t) (.int 1 u)) Q E s :=
  item_tupleT (l := [x, y]) (j := 1) ⟨_, F.keep _ _ ht, rfl, _, rfl⟩ (by decide) (by decide) (by rfl) rfl h hs
theorem words_64 : True := by
  k_with "subscriptTail Name Constant ref int" => ((fail_if_success k_extra "OFF 64"); (first | ((with_reducible show wpAny _ _ (subscriptTail _ _ _ (Value.int 0 _)) _ _ _); k_dflt (refine' item_pairB0 ?Fₘ ?mₘ ?_ ?sₘ; (case Fₘ => k_asm); (case mₘ => assumption); (case sₘ => with_unfolding_all rfl))) | ((with_reducible show wpAny _ _ (subscriptTail _ _ _ (Value.int 1 _)) _ _ _); k_dflt (refine' item_pairB1 ?Fₘ ?mₘ ?_ ?sₘ; (case Fₘ => k_asm); (case mₘ => assumption); (case sₘ => with_unfolding_all rfl))) | ((with_reducible show wpAny _ _ (subscriptTail _ _ _ (Value.int 0 _)) _ _ _); k_dflt (refine' item_first ?Nₘ ?mₘ ?vₘ ?_ ?sₘ; (case Nₘ => k_asm); (case mₘ => k_extra "MY in"); (case vₘ => assumption); (case sₘ => with_unfolding_all rfl)))))
  k_with "compareOp NotEq str str" => ((fail_if_success k_extra "OFF 64"); (k_dflt refine ne_gs ?_))
  k_with "compareOp NotEq ref ref" => ((fail_if_success k_extra "OFF 64"); (k_here; k_dflt (first | (refine' ne_first_yes ?wNₘ ?waₘ ?wbₘ ?wuₘ ?wsₘ ?wqₘ ?_; (case wNₘ => k_asm); (case wbₘ => k_extra "MY in"); (case waₘ => k_extra "MY in"); (case wsₘ => with_reducible assumption); (case wqₘ => with_reducible assumption); (case wuₘ => ((try dsimp only [ktrTop, Around.deeper, Around.mark]); (k_extra "MY om")))) | (refine' ne_first_no ?wNₘ ?waₘ ?wbₘ ?wuₘ ?wsₘ ?wqₘ ?_; (case wNₘ => k_asm); (case wbₘ => k_extra "MY in"); (case waₘ => k_extra "MY in"); (case wsₘ => with_reducible assumption); (case wqₘ => with_reducible assumption); (case wuₘ => ((try dsimp only [ktrTop, Around.deeper, Around.mark]); (k_extra "MY om")))) | (refine' ne_nil ?wNₘ ?waₘ ?wbₘ ?wuₘ ?_; (case wNₘ => k_asm); (case wbₘ => k_extra "MY in"); (case waₘ => k_extra "MY in"); (case wuₘ => ((try dsimp only [ktrTop, Around.deeper, Around.mark]); (k_extra "MY om")))) | (refine' ne_snoc ?wNₘ ?waₘ ?wbₘ ?wuₘ ?_; (case wNₘ => k_asm); (case wbₘ => k_extra "MY in"); (case waₘ => k_extra "MY in"); (case wuₘ => ((try dsimp only [ktrTop, Around.deeper, Around.mark]); (k_extra "MY om")))))))
  k_with "subscriptTail Name Slice ref ref" => ((fail_if_success k_extra "OFF 64"); (k_here; k_dflt (refine' slice_one ?wFₘ ?wNₘ ?wlₘ ?wkₘ ?_ ?wsₘ ?wtₘ ?wzₘ; (case wFₘ => k_asm); (case wNₘ => k_asm); (case wlₘ => exact News.isList (by k_asm) (by k_extra "MY in")); (case wkₘ => exact IsPart.int _ _); (case wsₘ => with_unfolding_all rfl); (case wtₘ => (intro _; with_unfolding_all rfl)); (case wzₘ => (rw [PySem.sizeLine_eq]; (k_extra "MY om")))); (intros D'ₘ h'ₘ; intro F'ₘ N'ₘ l1ₘ); (try dsimp only at N'ₘ); (try k_lt l1ₘ)))
  k_with "MY k_handed" => ((fail_if_success k_extra "OFF 64"); exact handed_oV _ _)
  k_with "call builtin:str.join" => ((fail_if_success k_extra "OFF 64"); (k_here; k_dflt (refine' join_line ?Nₘ ?mₘ ?iₘ ?wₘ ?jₘ ?sₘ ?_; (case Nₘ => k_asm); (case mₘ => k_extra "MY in"); (case iₘ => assumption); (case wₘ => with_reducible assumption); (case jₘ => with_reducible assumption); (case sₘ => decide)); (intros t'ₘ k'ₘ)))
  k_with "compareOp Eq str str" => ((fail_if_success k_extra "OFF 64"); (k_dflt refine eq_str_on (by assumption) ?_))
  trivial
theorem drop2 {g h : Heap} {L : Addr} {a b c : Addr × Obj} {l : List (Addr × Obj)} (N : News g L h (a :: b :: c :: l)) : News g L h (a :: l) := News.of_sub N fun q hq => by
  cases hq with
  | head => exact .head _
  | tail _ h => exact .tail _ (.tail _ (.tail _ h))
theorem lt_drop2 {x a b : Nat} {l : List (Addr × Obj)} (h : a < x ∧ b < x ∧ AllLt x l) : ∀ p ∈ l, p.1 < x := fun p hp => tb_ltOf h.2.2 p hp
def AttrAt (rs : List R3) (i : Nat) (y : Value) : Prop := ∃ r t, rs[i]? = some r ∧ y = .str (attrT r) t
theorem AttrAt.mk {rs : List R3} {i : Nat} {r : R3} {x : Str} {t : Tok} (h : rs[i]? = some r) (e : x = attrT r) : AttrAt rs i (.str x t) := ⟨r, t, h, by rw [e]⟩
def HeldPre (na rl : Addr) (nm uri : Str) (tn tu : Tok) (rs : List R3) (ce : Nat) (h : Heap) : Prop := h.get? na = some (tupObj [.str nm tn, .str uri tu]) ∧ h.get? rl = some (listOf (rs.map fun r => Value.ref r.a).toArray ce) ∧ ∀ r ∈ rs, h.get? r.a = some r.ob
set_option maxRecDepth 100000 in
set_option maxHeartbeats 8000000 in
theorem law_is_held_of : ∀ (w : World) (outer own : Option Str) (to tw : Tok) (na rl : Addr) (nm uri : Str) (tn tu : Tok) (kn : Wt) (rs : List R3) (ce : Nat) (hn : NameOk nm uri kn) (hr : ∀ r ∈ rs, ROk r) (hl : rs.length ≤ 2) (hlx : ∀ (i j : Nat) (a b : R3), rs[i]? = some a → rs[j]? = some b → a.l = b.l → i = j) (ho : ∀ u, outer = some u → UOk u) (hw : ∀ u, own = some u → UOk u),
    HSpec w 628 40 [oV outer to, oV own tw, .ref na, .ref rl] (HeldPre na rl nm uri tn tu rs ce) := by
  have hEpsₑ : EpsOn 0 := ⟨True.intro⟩
  intros w outer own to tw na rl nm
  intros uri tn tu
  intro kn
  intros rs ce
  intro hn
  intro hr
  intro hl
  intro hlx
  intro ho
  intro hw
  (intros dp un gd cn cs a ccd cl A₀ base h₀ L m news s p loose mean mg mb Q E; intro B F Xb Tb N hk9 hd hu pre ret)
  (injection pre with hna hₜ1; (injection hₜ1 with hrl hrt))
  have X := Xb.keeps B.stays
  have Tp := Tb.keeps B.stays
  k_extra "MY heldC"
  (intros L' h' tk' cells; intro F' N' Y B' X' T' lv)
  refine cells1 Y ?_; clear Y; intro oc; refine fun hEₖ dc => ?_; subst hEₖ
  try dsimp only
  try k_fold
  k_steps
  unfold Halt
  rename (Fr _ _ _ _) => F1
  rename (News _ _ _ _) => N1
  (have hₜ2 := tree_start (X := [(L' + 1, oc)]) N1 (List.nodup_cons.mpr ⟨(fun h => nomatch h), List.nodup_nil⟩) ⟨by assumption, trivial⟩ (by assumption) ⟨by (k_extra "MY om"), by (k_extra "MY om"), by (k_extra "MY om"), trivial⟩; (injection hₜ2 with T0 hₜ1; (injection hₜ1 with hT0 hₜ2; (injection hₜ2 with ht0 hₜ3; (injection hₜ3 with N2 nd2)))))
  (replace F1 := F1; rw [← ht0] at F1)
  clear N1
  have SP := new_root_of w T0 [(L' + 1, oc)] nd2 (by rw [hT0]; simp)
  (replace SP := SP; rw [ht0] at SP)
  refine MSpec.use SP B' F1 X' N2 T' rfl (by (try dsimp only [ktrTop, Around.deeper]); (k_extra "MY om")) (by (try dsimp only [ktrTop, Around.deeper]); (k_extra "MY om")) ?_
  ((intros r news' h2 tk2; intro F2 N3); (intro hₜ4; (injection hₜ4 with n1 hₜ1; (injection hₜ1 with e1 hₜ2; (injection hₜ2 with t1 hₜ3; (refine And.elim ?_ (hₜ3); (try clear hₜ3); intro hₜ4 hₜ5; rcases hₜ4 with rfl; (injection hₜ5 with hn1 hₜ6; (refine And.elim ?_ (hₜ6); (try clear hₜ6); intro hₜ7 nd3; rcases hₜ7 with rfl))))))))
  have hb1 : (T0.more e1 n1).b.t = T0.b.t := rfl
  have hl0 : T0.ns.length = 0 := by rw [hT0]; rfl
  have hm1 : (T0.more e1 n1).ns = [n1] := by unfold PT.more; rw [hT0]; rfl
  (replace F2 := F2; rw [← hb1] at F2)
  (have hₜ9 : ∃ T1, T1 = T0.more e1 n1 := (⟨_, rfl⟩); (injection hₜ9 with T1 hT1))
  (replace F2 := F2; replace N3 := N3; replace nd3 := nd3; replace hm1 := hm1; rw [← hT1] at F2 N3 nd3 hm1)
  rw [hl0]
  clear hT1 hb1
  k_steps
  unfold Halt
  rename (Fr _ _ _ _) => F3
  rename (News _ _ _ _) => N4
  have hnr : T1.ns[0]? = some n1 := by rw [hm1]; rfl
  have sm1 : T1.Small := ⟨by rw [hm1]; simp, fun n hn9 => by (replace hn9 := hn9; rw [hm1] at hn9); rw [List.mem_singleton.mp hn9, hn1.ch, hn1.at', hn1.ns]; simp⟩
  refine MSpec.use (add_element_of w T1 [(L' + 1, oc)] 0 n1 "r" "" "r" t1 _ _ _ hnr (.inl hn1.kind) nd3 sm1) B' F3 X' N4 T' rfl (by (try dsimp only [ktrTop, Around.deeper]); (k_extra "MY om")) (by (try dsimp only [ktrTop, Around.deeper]); (k_extra "MY om")) ?_
  ((intros r news' h4 tk4; intro F4 N5); (intro hₜ1; (injection hₜ1 with n2 hₜ1; (injection hₜ1 with e2 hₜ2; (injection hₜ2 with t2 hₜ3; (refine And.elim ?_ (hₜ3); (try clear hₜ3); intro hₜ4 hₜ5; rcases hₜ4 with rfl; (injection hₜ5 with hn2 hₜ6; (refine And.elim ?_ (hₜ6); (try clear hₜ6); intro hₜ7 nd4; rcases hₜ7 with rfl))))))))
  (injection (start_ok (e2 := e2) (t2 := t2) hm1 hnr hn1 hn2) with ro2 hₜ1; (injection hₜ1 with hl2 ti2))
  (have hₜ2 : ∃ T2, T2 = T1.child e2 n2 0 n1 t2 := (⟨_, rfl⟩); (injection hₜ2 with T2 hT2))
  have ht2 : T1.b.t = T2.b.t := by rw [hT2]; rfl
  have hl1 : T1.ns.length = 1 := by rw [hm1]; rfl
  (replace N5 := N5; replace nd4 := nd4; replace ro2 := ro2; replace hl2 := hl2; replace ti2 := ti2; rw [← hT2] at N5 nd4 ro2 hl2 ti2)
  (replace F4 := F4; rw [ht2] at F4)
  rw [hl1]
  clear hT2 F3 N4 nd3 hn2 hn1
  k_steps
  unfold Halt
  rename (Fr _ _ _ _) => F5
  rename (News _ _ _ _) => N6
  refine cut_tree (x := T2.b.t) (rest := [(L' + 1, oc)]) (P := w.params) F5 (fun T => RootOk T [] outer ∧ T.ns.length ≤ 3 ∧ 2 ≤ T.ns.length ∧ T.Tiny 3) ?_ ?_
  · have hgo : Go := True.intro
    (first | ((rcases optE outer with hᵤ1 | hᵤ2) <;> (first | ((fail_if_success (fail_if_success clear hᵤ1)); subst hᵤ1) | (refine Exists.elim hᵤ2 ?_; clear hᵤ2; intro u hᵤ3; subst hᵤ3))) | rcases outer with _ | u)
    · simp only [oV] at F5
      k_steps
      exact ⟨_, _, T2, rfl, by assumption, by assumption, nd4, rfl, ro2, by (k_extra "MY om"), by (k_extra "MY om"), (by have := ti2.1; (k_extra "MY om")), fun n hn9 => by have := ti2.2 n hn9; (k_extra "MY om")⟩
    · simp only [oV] at F5
      k_steps
      unfold Halt
      rename (Fr _ _ _ _) => F7
      rename (News _ _ _ _) => N7
      (injection (id ro2) with n0' hₜ1; (injection hₜ1 with n1' hₜ2; (injection hₜ2 with t1' hₜ3; (injection hₜ3 with g0 hₜ4; (injection hₜ4 with g1 hₜ5; (injection hₜ5 with g2 hₜ6; (injection hₜ6 with q0 hₜ7; (injection hₜ7 with q1 hₜ8; (injection hₜ8 with q2 hₜ9; (injection hₜ9 with q3 hₜ10; (injection hₜ10 with q4 hₜ11; (injection hₜ11 with q5 q6))))))))))))
      have q7 : n1'.ns = [] := by
        ((rcases q6 with hᵤ4 | hᵤ5) <;> (first | ((fail_if_success (fail_if_success clear hᵤ4)); (injection hᵤ4 with z hₜ1; rcases hₜ1 with _)) | ((fail_if_success (fail_if_success clear hᵤ5)); (first | (refine And.elim ?_ (hᵤ5); (try clear hᵤ5); intro hₜ1 hₜ2; rcases hₜ1 with _; (refine And.elim ?_ (hₜ2); (try clear hₜ2); intro hₜ3 hₜ4; rcases hₜ3 with _; (refine And.elim ?_ (hₜ4); (try clear hₜ4); intro hₜ5 hₜ6; rcases hₜ5 with _; (refine And.elim ?_ (hₜ6); (try clear hₜ6); intro hₜ7 hₜ8; rcases hₜ7 with _; (refine And.elim ?_ (hₜ8); (try clear hₜ8); intro hₜ9 hₜ10; rcases hₜ9 with _; (refine And.elim ?_ (hₜ10); (try clear hₜ10); intro hₜ11 hₜ12; rcases hₜ11 with _; (refine And.elim ?_ (hₜ12); (try clear hₜ12); intro hₜ13 hₜ14; rcases hₜ13 with _; (refine And.elim ?_ (hₜ14); (try clear hₜ14); intro hₜ15 z; rcases hₜ15 with _)))))))) | rcases hᵤ5 with ⟨_, _, _, _, _, _, _, _, z⟩))))
        · exact z
        · cases z
      refine MSpec.use (add_namespace_of w T2 [(L' + 1, oc)] 1 n1' "p" u t2 _ _ q0 q1 q7 nd4 (ti2.small (by (k_extra "MY om")))) B' F7 X' N7 T' rfl (by (try dsimp only [ktrTop, Around.deeper]); (k_extra "MY om")) (by (try dsimp only [ktrTop, Around.deeper]); (k_extra "MY om")) ?_
      ((intros r news' h8 tk8; intro F8 N8); (intro hₜ17; (injection hₜ17 with n8 hₜ1; (injection hₜ1 with e8 hₜ2; (injection hₜ2 with t8 hₜ3; (refine And.elim ?_ (hₜ3); (try clear hₜ3); intro hₜ4 hₜ5; rcases hₜ4 with rfl; (injection hₜ5 with hn8 hₜ6; (refine And.elim ?_ (hₜ6); (try clear hₜ6); intro hₜ7 nd8; rcases hₜ7 with rfl))))))))
      have ro8 := outer_ok (e := e8) (t9 := t8) ro2 q0 hn8
      have ti8 := Tiny.nsp (e := e8) (t9 := t8) ti2 q0 hn8
      have hl8 : (T2.nsp e8 n8 1 n1' t8).ns.length = 3 := by
        show ((T2.more e8 n8).setN 1 _).ns.length = 3
        rw [ms_len, hl2]
      k_steps
      exact ⟨_, _, _, rfl, by assumption, by assumption, nd8, rfl, ro8, by (k_extra "MY om"), by (k_extra "MY om"), ti8⟩
  · clear F5 N6 nd4 ro2 ti2 hl2
    ((intros h5 tk5; intro T3 F6 N7 nd5 hx3); (first | (refine prodI ?_; intro ro3; refine prodI ?_; intro hl3; refine prodI ?_; intro hl3'; intro ti3) | (intro hₜ9; (injection hₜ9 with ro3 hₜ1; (injection hₜ1 with hl3 hₜ2; (injection hₜ2 with hl3' ti3))))))
    (replace F6 := F6; rw [← hx3] at F6)
    k_steps
    unfold Halt
    rename (Fr _ _ _ _) => F8
    rename (News _ _ _ _) => N8
    (injection (id ro3) with n0' hₜ1; (injection hₜ1 with n1' hₜ2; (injection hₜ2 with t1' hₜ3; (injection hₜ3 with g0 hₜ4; (injection hₜ4 with g1 hₜ5; (injection hₜ5 with g2 hₜ6; (injection hₜ6 with q0 hₜ7; (injection hₜ7 with q1 hₜ8; (injection hₜ8 with q2 hₜ9; (injection hₜ9 with q3 hₜ10; (injection hₜ10 with q4 hₜ11; (injection hₜ11 with q5 q6))))))))))))
    refine MSpec.use (add_element_of w T3 [(L' + 1, oc)] 1 n1' nm uri "e" t2 _ _ _ q0 (.inr q1) nd5 (ti3.small (by (k_extra "MY om")))) B' F8 X' N8 T' rfl (by (try dsimp only [ktrTop, Around.deeper]); (k_extra "MY om")) (by (try dsimp only [ktrTop, Around.deeper]); (k_extra "MY om")) ?_
    ((intros r news' h9 tk9; intro F9 N9); (intro hₜ12; (injection hₜ12 with n3 hₜ1; (injection hₜ1 with e3 hₜ2; (injection hₜ2 with t3 hₜ3; (refine And.elim ?_ (hₜ3); (try clear hₜ3); intro hₜ4 hₜ5; rcases hₜ4 with rfl; (injection hₜ5 with hn3 hₜ6; (refine And.elim ?_ (hₜ6); (try clear hₜ6); intro hₜ7 nd6; rcases hₜ7 with rfl))))))))
    (injection (elem_ok (e := e3) (t9 := t3) ro3 q0 hn3) with ro4 el4)
    have ti4 := Tiny.child (e := e3) (t9 := t3) ti3 q0 hn3
    have hl4 : (T3.child e3 n3 1 n1' t3).ns.length = T3.ns.length + 1 := child_len
    have hx4 : T3.b.t = (T3.child e3 n3 1 n1' t3).b.t := rfl
    (have hₜ1 : ∃ eI, eI = T3.ns.length := (⟨_, rfl⟩); (injection hₜ1 with eI heI))
    (have hₜ1 : ∃ T4, T4 = T3.child e3 n3 1 n1' t3 := (⟨_, rfl⟩); (injection hₜ1 with T4 hT4))
    (replace ro4 := ro4; replace el4 := el4; rw [← hT4, ← heI] at ro4 el4)
    (replace N9 := N9; replace nd6 := nd6; replace ti4 := ti4; replace hl4 := hl4; replace hx4 := hx4; rw [← hT4] at N9 nd6 ti4 hl4 hx4)
    (replace F9 := F9; rw [hx4] at F9)
    rw [← heI]
    have heI2 : 2 ≤ eI := by (k_extra "MY om")
    have hl4' : T4.ns.length ≤ 4 := by (k_extra "MY om")
    clear hT4 F8 N8 nd5 hn3
    k_steps
    unfold Halt
    rename (Fr _ _ _ _) => F10
    rename (News _ _ _ _) => N10
    refine cut_tree (x := T4.b.t) (rest := [(L' + 1, oc)]) (P := w.params) F10 (fun T => RootOk T [(eI, t3)] outer ∧ ElemOk T eI nm uri own [] ∧ T.Tiny 5) ?_ ?_
    · have hgo : Go := True.intro
      (first | ((rcases optE own with hᵤ6 | hᵤ7) <;> (first | ((fail_if_success (fail_if_success clear hᵤ6)); subst hᵤ6) | (refine Exists.elim hᵤ7 ?_; clear hᵤ7; intro u hᵤ8; subst hᵤ8))) | rcases own with _ | u)
      · simp only [oV] at F10
        k_steps
        exact ⟨_, _, T4, rfl, by assumption, by assumption, nd6, rfl, ro4, el4, (by have := ti4.1; (k_extra "MY om")), fun n hn9 => by have := ti4.2 n hn9; (k_extra "MY om")⟩
      · simp only [oV] at F10
        k_steps
        unfold Halt
        rename (Fr _ _ _ _) => F11
        rename (News _ _ _ _) => N11
        (injection (id el4) with n2' hₜ1; (injection hₜ1 with c0 hₜ2; (injection hₜ2 with c1 hₜ3; (injection hₜ3 with c2 hₜ4; (injection hₜ4 with c3 hₜ5; (injection hₜ5 with c4 hₜ6; (injection hₜ6 with c5 c6)))))))
        have c7 : n2'.ns = [] := by
          ((rcases c5 with hᵤ9 | hᵤ10) <;> (first | ((fail_if_success (fail_if_success clear hᵤ9)); (injection hᵤ9 with z hₜ1; rcases hₜ1 with _)) | ((fail_if_success (fail_if_success clear hᵤ10)); (first | (refine And.elim ?_ (hᵤ10); (try clear hᵤ10); intro hₜ1 hₜ2; rcases hₜ1 with _; (refine And.elim ?_ (hₜ2); (try clear hₜ2); intro hₜ3 hₜ4; rcases hₜ3 with _; (refine And.elim ?_ (hₜ4); (try clear hₜ4); intro hₜ5 hₜ6; rcases hₜ5 with _; (refine And.elim ?_ (hₜ6); (try clear hₜ6); intro hₜ7 hₜ8; rcases hₜ7 with _; (refine And.elim ?_ (hₜ8); (try clear hₜ8); intro hₜ9 hₜ10; rcases hₜ9 with _; (refine And.elim ?_ (hₜ10); (try clear hₜ10); intro hₜ11 hₜ12; rcases hₜ11 with _; (refine And.elim ?_ (hₜ12); (try clear hₜ12); intro hₜ13 hₜ14; rcases hₜ13 with _; (refine And.elim ?_ (hₜ14); (try clear hₜ14); intro hₜ15 z; rcases hₜ15 with _)))))))) | rcases hᵤ10 with ⟨_, _, _, _, _, _, _, _, z⟩))))
          · exact z
          · cases z
        refine MSpec.use (add_namespace_of w T4 [(L' + 1, oc)] eI n2' "p" u t3 _ _ c0 c1 c7 nd6 (ti4.small (by (k_extra "MY om")))) B' F11 X' N11 T' rfl (by (try dsimp only [ktrTop, Around.deeper]); (k_extra "MY om")) (by (try dsimp only [ktrTop, Around.deeper]); (k_extra "MY om")) ?_
        ((intros r news' h12 tk12; intro F12 N12); (intro hₜ17; (injection hₜ17 with n8 hₜ1; (injection hₜ1 with e8 hₜ2; (injection hₜ2 with t8 hₜ3; (refine And.elim ?_ (hₜ3); (try clear hₜ3); intro hₜ4 hₜ5; rcases hₜ4 with rfl; (injection hₜ5 with hn8 hₜ6; (refine And.elim ?_ (hₜ6); (try clear hₜ6); intro hₜ7 nd8; rcases hₜ7 with rfl))))))))
        (injection (own_ok (e := e8) (t9 := t8) el4 c0 hn8) with S8 el8)
        have ro8 := ro4.same S8 heI2
        have ti8 := Tiny.nsp (e := e8) (t9 := t8) ti4 c0 hn8
        k_steps
        exact ⟨_, _, _, rfl, by assumption, by assumption, nd8, rfl, ro8, el8, ti8⟩
    · clear F10 N10 nd6 ro4 el4 ti4 hl4 hl4'
      ((intros h13 tk13; intro T5 F13 N13 nd13 hx5); (first | (refine prodI ?_; intro ro5; refine prodI ?_; intro el5; intro ti5) | (intro hₜ1; (injection hₜ1 with ro5 hₜ1; (injection hₜ1 with el5 ti5)))))
      (replace F13 := F13; rw [← hx5] at F13)
      k_steps
      unfold Halt
      rename (Fr _ _ _ _) => F14
      rename (News _ _ _ _) => N14
      (injection (map_of F14) with M hM)
      refine for_listT (vs := rs.map fun r => Value.ref r.a) (fun i m' news' => (∃ u, m' = mix [Str.ofString "local", Str.ofString "uri", Str.ofString "value"] u M) ∧ ∃ T : PT, news' = T.objs w.params ++ [(L' + 1, oc)] ∧ ND (T.objs w.params ++ [(L' + 1, oc)]) ∧ T.b.t = T5.b.t ∧
        RootOk T [(eI, t3)] outer ∧ ElemOk T eI nm uri own (rs.take i) ∧ T.Tiny (5 + i)) (by exact rfl) F14 N14 (fun _ _ _ _ => .inr hrl) ⟨⟨M, by rw [mix_self]; exact hM.symm⟩, T5, rfl, nd13, rfl, ro5, el5, ti5⟩ ?_ ?_
      · clear F14 N14
        ((intros i v m₁ news₁ h tk9 I oI; intro hv); (intro hₜ1; (refine And.elim ?_ (hₜ1); (try clear hₜ1); intro hₜ1 hₜ2; (injection hₜ1 with u2 hₜ3; rcases hₜ3 with rfl); (injection hₜ2 with T hₜ4; (refine And.elim ?_ (hₜ4); (try clear hₜ4); intro hₜ5 hₜ6; rcases hₜ5 with rfl; (injection hₜ6 with nd15 hₜ7; (injection hₜ7 with hx15 hₜ8; (injection hₜ8 with ro15 hₜ9; (injection hₜ9 with el15 ti15)))))))); intro ap F15 N15)
        subst hM
        have hₜ1 : ∃ r, rs[i]? = some r ∧ Value.ref r.a = v := by
          (replace hv := hv; rw [List.getElem?_map] at hv)
          cases hq : rs[i]? with
          | none => (replace hv := hv; rw [hq] at hv); cases hv
          | some r => (replace hv := hv; rw [hq] at hv); exact ⟨r, rfl, Option.some.inj hv⟩
        (injection hₜ1 with r hₜ1; (injection hₜ1 with hri hₜ2; rcases hₜ2 with rfl))
        have hrm := List.mem_of_getElem? hri
        have hrr : s.heap.get? r.a = some (tupObj [.str r.l r.tl, .str r.u r.tu, .str r.v r.tv]) := hrt r hrm
        have hll : Len 1 r.l := by rcases (hr r hrm).l with e | e <;> rw [e] <;> (unfold Len; decide +kernel)
        have hi2 : i < 2 := by (injection (List.getElem?_eq_some_iff.mp hri) with q hₜ1; rcases hₜ1 with _); (k_extra "MY om")
        have nd16 := nd_ne (o := oI) ap nd15
        have N16 := News.pm N15 (perm1 _ _ _)
        (replace F15 := F15; rw [← hx15] at F15)
        clear N15
        k_steps
        unfold Halt
        rename (Fr _ _ _ _) => F17
        rename (News _ _ _ _) => N17
        (injection (id el15) with n2' hₜ1; (injection hₜ1 with c0 hₜ2; (injection hₜ2 with c1 hₜ3; (injection hₜ3 with c2 hₜ4; (injection hₜ4 with c3 hₜ5; (injection hₜ5 with c4 hₜ6; (injection hₜ6 with c5 c6)))))))
        have hloc : ∀ c ∈ n2'.at', ∃ na : NR, T.ns[c.1]? = some na ∧ na.loc ≠ r.l := by
          intro c hc
          (injection (c6.mem c hc) with r' hₜ1; (injection hₜ1 with hr1 hₜ2; (injection hₜ2 with na hₜ3; (injection hₜ3 with g1 hₜ4; (injection hₜ4 with g2 hₜ5; (injection hₜ5 with g3 hₜ6; (injection hₜ6 with g4 hₜ7; (injection hₜ7 with g5 g6))))))))
          refine ⟨na, g1, fun e => ?_⟩
          (injection (List.mem_iff_getElem?.mp hr1) with j hj)
          have hji : j < i := by
            (injection (List.getElem?_eq_some_iff.mp hj) with q hₜ1; rcases hₜ1 with _)
            (replace q := q; rw [List.length_take] at q); (k_extra "MY om")
          (replace hj := hj; rw [List.getElem?_take_of_lt hji] at hj)
          have := hlx j i r' r hj hri (g5 ▸ e)
          (k_extra "MY om")
        refine MSpec.use (set_attribute_of w T [(I, oI), (L' + 1, oc)] eI n2' ("p:" ++ r.l) r.u r.l r.v t3 _ _ _ _ c0 c1 hloc (nd16.perm (perm1 _ _ _)) (ti15.small (by (k_extra "MY om")))) B' F17 X' N17 T' rfl (by (try dsimp only [ktrTop, Around.deeper]); (k_extra "MY om")) (by (try dsimp only [ktrTop, Around.deeper]); (k_extra "MY om")) ?_
        ((intros r9 news' h18 tk18; intro F18 N18); (intro hₜ2; (injection hₜ2 with n8 hₜ1; (injection hₜ1 with e8 hₜ2; (injection hₜ2 with t8 hₜ3; (refine And.elim ?_ (hₜ3); (try clear hₜ3); intro hₜ4 hₜ5; rcases hₜ4 with rfl; (injection hₜ5 with hn8 hₜ6; (refine And.elim ?_ (hₜ6); (try clear hₜ6); intro hₜ7 nd18; rcases hₜ7 with rfl))))))))
        (injection (attr_ok (r := r) (e := e8) (t9 := t8) el15 c0 hn8) with S8 el8)
        have ro8 := ro15.same S8 heI2
        have ti8 := Tiny.attr (e := e8) (t9 := t8) ti15 c0 hn8
        have nd19 := nd18.perm (perm1 _ _ _).symm
        k_steps
        rename (Fr _ _ _ _) => F19
        rename (News _ _ _ _) => N19
        (replace F19 := F19; rw [hx15] at F19)
        refine TurnQ.intro F19 (News.pm N19 (perm1 _ _ _).symm) (nd_head nd19) ?_
        refine ⟨⟨_, mix_three rfl rfl rfl⟩, _, rfl, nd_tail nd19, hx15, ro8, ?_, ti8⟩
        rw [List.take_add_one, hri]
        exact el8
      · clear F14 N14
        ((intros m₁ news₁ h20 tk20); (intro hₜ1; (refine And.elim ?_ (hₜ1); (try clear hₜ1); intro hₜ1 hₜ2; (injection hₜ1 with u2 hₜ3; rcases hₜ3 with rfl); (injection hₜ2 with T hₜ4; (refine And.elim ?_ (hₜ4); (try clear hₜ4); intro hₜ5 hₜ6; rcases hₜ5 with rfl; (injection hₜ6 with nd20 hₜ7; (injection hₜ7 with hx20 hₜ8; (injection hₜ8 with ro20 hₜ9; (injection hₜ9 with el20 ti20)))))))); intro F20 N20)
        subst hM
        (replace el20 := el20; rw [List.length_map, List.take_length] at el20)
        (replace ti20 := ti20; rw [List.length_map] at ti20)
        (replace F20 := F20; rw [← hx20] at F20)
        have nd21 : ND ((L' + 1, oc) :: T.objs w.params) := nd20.perm (List.perm_append_comm (l₁ := T.objs w.params) (l₂ := [(L' + 1, oc)]))
        have hce := nd_head nd21
        replace N20 := News.pm N20 (List.perm_append_comm (l₁ := T.objs w.params) (l₂ := [(L' + 1, oc)]))
        simp only [List.cons_append, List.nil_append] at N20
        k_steps
        unfold Halt
        rename (Fr _ _ _ _) => F21
        rename (News _ _ _ _) => N21
        refine ListComp_G F21 rfl (by decide) rfl (by decide) ?_
        k_steps
        rename (Fr _ _ _ _) => F22
        rename (News _ _ _ _) => N22
        refine ⟨rl, rs.map fun r => Value.ref r.a, ce, _, rfl, F22, N22, F22.keep _ _ hrl, ?_⟩
        (intros C I D h23 tk23; intro Bk G hD)
        refine compT_loop (fun i y => ∃ r, rs[i]? = some r ∧ y = .str r.u r.tu) rfl Bk rfl rfl rfl rfl (by decide) (by decide) (by decide) (by rw [List.length_map, PySem.sizeLine_eq]; (k_extra "MY om")) (.inr hrl) (fun v hv => ?_) G hD ?_ ?_
        · (injection (List.mem_map.mp hv) with r hₜ1; (injection hₜ1 with hr1 hₜ2; rcases hₜ2 with rfl))
          exact ⟨r.a, _, _, _, rfl, hrt r hr1⟩
        · (intros i t v1 v2 v3 h24 tk24 oC oI oD m2 E'; intro hv ht F24 N24 hC; intros e1 e2 e3)
          have hₜ3 : ∃ r, rs[i]? = some r ∧ r.a = t := by
            (replace hv := hv; rw [List.getElem?_map] at hv)
            cases hq : rs[i]? with
            | none => (replace hv := hv; rw [hq] at hv); cases hv
            | some r => (replace hv := hv; rw [hq] at hv); exact ⟨r, rfl, by cases hv; rfl⟩
          (injection hₜ3 with r hₜ1; (injection hₜ1 with hri hra))
          have hob := hrt r (List.mem_of_getElem? hri)
          (replace hob := hob; rw [hra, ht] at hob)
          cases hob
          k_steps
          all_goals assumption
        · (intros h24 tk24 ys k24 mC; intro F24 hC N24 hf hlen)
          refine ⟨rfl, h24, tk24, ys, k24, mC, rfl, F24, hC, N24, ?_⟩
          (intros h25 tk25; intro F25 N25)
          (replace hlen := hlen; rw [List.length_map] at hlen)
          obtain rfl := list_of_get hlen hf
          have aD := allNe_of fun p hp => (G.ap p hp).2.2
          simp only [AllNe, and_true] at aD
          clear F24 N24 hf hlen F22 N22 G hD
          k_steps
          unfold Halt
          rename (Fr _ _ _ _) => F26
          rename (News _ _ _ _) => N26
          refine cut_list F26 N26 (fun ys => StrsAre ys (knL kn)) ?_ ?_
          · have hgo : Go := True.intro
            ((rcases hn with hᵤ11 | hᵤ12) <;> (first | ((fail_if_success (fail_if_success clear hᵤ11)); (refine And.elim ?_ (hᵤ11); (try clear hᵤ11); intro hₜ1 hₜ2; rcases hₜ1 with rfl; (refine And.elim ?_ (hₜ2); (try clear hₜ2); intro hₜ3 hₜ4; rcases hₜ3 with rfl; rcases hₜ4 with rfl))) | ((fail_if_success (fail_if_success clear hᵤ12)); (refine And.elim ?_ (hᵤ12); (try clear hᵤ12); intro hₜ1 hₜ2; rcases hₜ1 with rfl; (injection hₜ2 with hu9 hₜ3; rcases hₜ3 with rfl)))))
            · k_steps
              rename (Fr _ _ _ _) => F28
              rename (News _ _ _ _) => N28
              exact ⟨_, [], _, _, _, rfl, rfl, F28, N28, fun p hp => tb_ltOf (by assumption) p hp, .nil⟩
            · k_steps
              rename (Fr _ _ _ _) => F28
              rename (News _ _ _ _) => N28
              exact ⟨_, [_], _, _, _, rfl, rfl, F28, N28, fun p hp => tb_ltOf (by assumption) p hp, .cons _ _ .nil⟩
          · (intros D27 ys27 k27 h27 tk27; intro F27 N27 hlt27 hs27)
            have hb27 : ys27.length ≤ 1 := by
              rw [strs_len hs27]
              cases kn <;> simp [knL]
            k_lt hlt27
            clear F26 N26
            k_steps
            unfold Halt
            rename (Fr _ _ _ _) => F29
            rename (News _ _ _ _) => N29
            refine cut_list F29 N29 (fun ys => StrsAre ys own.toList) ?_ ?_
            · have hgo : Go := True.intro
              (first | ((rcases optE own with hᵤ13 | hᵤ14) <;> (first | ((fail_if_success (fail_if_success clear hᵤ13)); subst hᵤ13) | (refine Exists.elim hᵤ14 ?_; clear hᵤ14; intro u hᵤ15; subst hᵤ15))) | rcases own with _ | u)
              · simp only [oV] at F29
                k_steps
                rename (Fr _ _ _ _) => F28
                rename (News _ _ _ _) => N28
                exact ⟨_, [], _, _, _, rfl, rfl, F28, N28, fun p hp => tb_ltOf (by assumption) p hp, .nil⟩
              · simp only [oV] at F29
                k_steps
                rename (Fr _ _ _ _) => F28
                rename (News _ _ _ _) => N28
                exact ⟨_, [_], _, _, _, rfl, rfl, F28, N28, fun p hp => tb_ltOf (by assumption) p hp, .cons _ _ .nil⟩
            · (intros D30 ys30 k30 h30 tk30; intro F30 N30 hlt30 hs30)
              have hb30 : ys30.length ≤ 1 := by
                rw [strs_len hs30]
                cases own <;> simp
              k_lt hlt30
              clear F29 N29
              k_steps
              unfold Halt
              rename (Fr _ _ _ _) => F31
              rename (News _ _ _ _) => N31
              (injection (held_facts w ro20 el20 heI2 hn hr (by (k_extra "MY om")) ho hw) with n0 hₜ1; (injection hₜ1 with n1 hₜ2; (injection hₜ2 with n2 hₜ3; (injection hₜ3 with t1 hₜ4; (injection hₜ4 with K hₜ5; (injection hₜ5 with a0 hₜ6; (injection hₜ6 with a1 hₜ7; (injection hₜ7 with a2 hₜ8; (injection hₜ8 with b0 hₜ9; (injection hₜ9 with b1 hₜ10; (injection hₜ10 with b2 hₜ11; (injection hₜ11 with b5 hₜ12; (injection hₜ12 with c0 hₜ13; (injection hₜ13 with c2 hₜ14; (injection hₜ14 with c6 hₜ15; (injection hₜ15 with W1 hₜ16; (injection hₜ16 with G1 hₜ17; (injection hₜ17 with hst hₜ18; (injection hₜ18 with hs1 hₜ19; (injection hₜ19 with KO hwl))))))))))))))))))))
              have hl20 := ti20.1
              (have hₜ20 : ∃ sv, sv = rs.map (fun r => Value.str r.u r.tu) ++ ys27 ++ ys30 := (⟨_, rfl⟩); (injection hₜ20 with sv hsv))
              have sp : StrsAre sv (spaces rs kn own) := hsv ▸ strs_app (strs_app (strs_rows rs) hs27) hs30
              have lsp : sv.length ≤ 4 := by rw [hsv, List.length_append, List.length_append, List.length_map]; (k_extra "MY om")
              (replace N31 := N31; rw [← hsv] at N31)
              clear hsv
              have hkx : kn ≠ .xml := by rcases hn with ⟨_, _, h⟩ | ⟨_, _, h⟩ <;> rw [h] <;> exact fun h => nomatch h
              refine ESpec.use (write_of w T _ n0 n1 (1, t1) outer K (dstart outer none) (some ((eI, t3), n2, own)) a0 a1 a2 b0 b1 W1 G1 hst hs1 KO) B' F31 X' N31 T' rfl (by (try dsimp only [ktrTop, Around.deeper]); (k_extra "MY om")) (by (try dsimp only [ktrTop, Around.deeper]); (k_extra "MY om")) (at_mem N31 (by intro q hq; simp only [List.mem_append, List.mem_cons, hq, true_or, or_true]) (by (k_extra "MY om")) (ti20.room (by (k_extra "MY om")))) ?_ ?_
              · ((intros r new h32 tk32; intro F32 N32 S32 O32); (intro hₜ1; (injection hₜ1 with fs hₜ1; (injection hₜ1 with t' hₜ2; (injection hₜ2 with hres hₜ3; rcases hₜ3 with rfl)))))
                (injection (good_facts hwl hkx hres) with hae hfs)
                (have hₜ1 : ∃ fo, fo = (if own.isSome = true ∨ (spaces rs kn own)[0]? ≠ outer then (spaces rs kn own)[0]? else none) := (⟨_, rfl⟩); (injection hₜ1 with fo hfo))
                (replace hfs := hfs; rw [← hfo] at hfs)
                (have hₜ1 : ∃ tx, tx = Txt.join (Str.ofString "") fs := (⟨_, rfl⟩); (injection hₜ1 with tx htx))
                have hbody : tx = (((Str.ofString "<r" ++ outT outer) ++ Str.ofString ">") ++ ((((Str.ofString "<" ++ nm) ++ Txt.join (Str.ofString "") (fo.toList.map nsT)) ++ Txt.join (Str.ofString "") (rs.map attrT)) ++ Str.ofString "/>")) ++ Str.ofString "</r>" := by
                  rw [htx, hfs]
                  exact text_law b2 b5 c2 c6
                replace htx : Txt.join "" fs = tx := htx.symm
                rw [htx]
                clear hfs hres htx
                replace N32 := News.of_sub N32 (fun q hq => List.mem_append_right _ hq)
                k_steps
                unfold Halt
                have hgo : Go := True.intro
                k_steps
                unfold Halt
                rename (Fr _ _ _ _) => F34
                rename (News _ _ _ _) => N34
                refine ListComp_G F34 rfl (by decide) rfl (by decide) ?_
                k_steps
                rename (Fr _ _ _ _) => F35
                rename (News _ _ _ _) => N35
                refine ⟨_, sv, _, _, rfl, F35, N35, N35.get (.head _), ?_⟩
                (intros C I D h35 tk35; intro Bk G hD)
                refine compF_loop (gs (fst0 (spaces rs kn own))) (.inl rfl) Bk rfl rfl (by rw [PySem.sizeLine_eq]; (k_extra "MY om")) (.inl (.head _)) G hD ?_ ?_
                · (intros i v h36 tk36 oC oI oD m2; intro E'; intro hv F36 N36 hC hm2)
                  (injection (first_str sp hv) with u hₜ1; (injection hₜ1 with t hₜ2; (injection hₜ2 with t0 hₜ3; (refine And.elim ?_ (hₜ3); (try clear hₜ3); intro hₜ4 hv0; rcases hₜ4 with rfl))))
                  clear F35 N35 G hD
                  k_steps
                  all_goals first | assumption
                · (intros h36 tk36 ys k36 mC; intro F36 hC N36 hys)
                  refine ⟨rfl, h36, tk36, ys, k36, mC, rfl, F36, hC, N36, ?_⟩
                  (intros h37 tk37; intro F37 N37)
                  have hne : ys = [] := hys.trans ((filt_nil sp).mpr hae)
                  have aD := allNe_of fun p hp => (G.ap p hp).2.2
                  simp only [AllNe, and_true] at aD
                  clear F35 N35 G hD hys F36 N36 hgo
                  subst hne
                  k_steps
                  unfold Halt
                  rename (Fr _ _ _ _) => F38
                  rename (News _ _ _ _) => N38
                  refine cut_list F38 N38 (fun ys => StrsAre ys fo.toList) ?_ ?_
                  · have hgo : Go := True.intro
                    have tk1 := strs_take1 sp
                    (first | ((rcases optE own with hᵤ16 | hᵤ17) <;> (first | ((fail_if_success (fail_if_success clear hᵤ16)); subst hᵤ16) | (refine Exists.elim hᵤ17 ?_; clear hᵤ17; intro ow hᵤ18; subst hᵤ18))) | rcases own with _ | ow)
                    · by_cases hq : spaces rs kn none ≠ [] ∧ (spaces rs kn none)[0]? = outer
                      · obtain rfl : fo = none := by rw [hfo, if_neg]; rintro (h | h); exact absurd h (by decide); exact h hq.2
                        (replace F38 := F38; rw [show oV none tw = Value.none from rfl] at F38)
                        k_steps
                        rename (Fr _ _ _ _) => F40
                        rename (News _ _ _ _) => N40
                        exact ⟨_, [], _, _, _, rfl, rfl, F40, drop2 N40, lt_drop2 (by assumption), .nil⟩
                      · have hfe : fo.toList = ((spaces rs kn none)[0]?).toList := by
                          rw [hfo]
                          split
                          · rfl
                          · rename_i h
                            have h1 : (spaces rs kn none)[0]? = outer := Classical.byContradiction fun q => h (.inr q)
                            have h2 : spaces rs kn none = [] := Classical.byContradiction fun q => hq ⟨q, h1⟩
                            rw [h2]; rfl
                        rw [hfe]
                        (replace F38 := F38; rw [show oV none tw = Value.none from rfl] at F38)
                        k_steps
                        rename (Fr _ _ _ _) => F40
                        rename (News _ _ _ _) => N40
                        exact ⟨_, sv.take 1, _, _, _, rfl, rfl, F40, drop2 N40, lt_drop2 (by assumption), tk1⟩
                    · have hfe : fo.toList = ((spaces rs kn (some ow))[0]?).toList := by rw [hfo, if_pos (.inl rfl)]
                      rw [hfe]
                      (replace F38 := F38; rw [show oV (some ow) tw = Value.str ow tw from rfl] at F38)
                      k_steps
                      rename (Fr _ _ _ _) => F40
                      rename (News _ _ _ _) => N40
                      exact ⟨_, sv.take 1, _, _, _, rfl, rfl, F40, N40, fun p hp => tb_ltOf (by assumption) p hp, tk1⟩
                  · (intros D41 ys41 k41 h41 tk41; intro F41 N41 hlt41 hs41)
                    have hb41 : ys41.length ≤ 1 := by
                      rw [strs_len hs41]
                      cases fo <;> simp
                    k_lt hlt41
                    clear F38 N38
                    k_steps
                    unfold Halt
                    rename (Fr _ _ _ _) => F42
                    rename (News _ _ _ _) => N42
                    have hfu : ∀ u ∈ fo.toList, Len 2 u := by
                      intro u hu
                      refine spaces_ok hn hr hw u ?_
                      (replace hu := hu; rw [hfo] at hu)
                      split at hu
                      · exact List.mem_of_getElem? (by simpa using hu)
                      · cases hu
                    have hlo : ∀ u, outer = some u → Len 2 u := fun u h => (ho u h).len
                    have hln := name_len hn
                    have hfl : (fo.toList.map nsT).length ≤ 1 := by rw [List.length_map]; cases fo <;> simp
                    have hfn : ∀ x ∈ fo.toList.map nsT, Len 14 x := by
                      intro x hx
                      (injection (List.mem_map.mp hx) with u hₜ1; (injection hₜ1 with h1 hₜ2; rcases hₜ2 with rfl))
                      exact len_nsT (hfu u h1)
                    have hfw : ((fo.toList.map nsT).map (·.length)).sum + (fo.toList.map nsT).length ≤ 1048576 := Nat.le_trans (sum_len hfl hfn) (by decide)
                    (have hₜ3 : ∃ J, J = Txt.join (Str.ofString "") (fo.toList.map nsT) := (⟨_, rfl⟩); (injection hₜ3 with J1 hJ1))
                    (replace hbody := hbody; rw [← hJ1] at hbody)
                    have hJ1l : Len 14 J1 := by rw [hJ1]; exact len_join hfl hfn
                    have hal : (rs.map attrT).length ≤ 2 := by rw [List.length_map]; exact hl
                    have han : ∀ x ∈ rs.map attrT, Len 14 x := by
                      intro x hx
                      (injection (List.mem_map.mp hx) with r hₜ1; (injection hₜ1 with h1 hₜ2; rcases hₜ2 with rfl))
                      exact len_attrT (hr r h1).len1 (flen (hr r h1).v)
                    have haw : ((rs.map attrT).map (·.length)).sum + (rs.map attrT).length ≤ 1048576 := Nat.le_trans (sum_len hal han) (by decide)
                    (have hₜ3 : ∃ J, J = Txt.join (Str.ofString "") (rs.map attrT) := (⟨_, rfl⟩); (injection hₜ3 with J2 hJ2))
                    (replace hbody := hbody; rw [← hJ2] at hbody)
                    have hJ2l : Len 28 J2 := by rw [hJ2]; exact len_join hal han
                    refine ListComp_G F42 rfl (by decide) rfl (by decide) ?_
                    k_steps
                    rename (Fr _ _ _ _) => F43
                    rename (News _ _ _ _) => N43
                    refine ⟨_, ys41, _, _, rfl, F43, N43, N43.get (.head _), ?_⟩
                    (intros C I D h44 tk44; intro Bk G hD)
                    refine compE_loop (fun i y => ∃ u t, fo.toList[i]? = some u ∧ y = .str (nsT u) t) (.inl rfl) Bk rfl rfl (by rw [PySem.sizeLine_eq]; (k_extra "MY om")) (.inl (.head _)) G hD ?_ ?_
                    · (intros i v h45 tk45 oC oI oD m2; intro E'; intro hv F45 N45 hC hm2)
                      (injection (hs41.item i v hv) with u hₜ1; (injection hₜ1 with t hₜ2; (refine And.elim ?_ (hₜ2); (try clear hₜ2); intro hₜ3 hu9; rcases hₜ3 with rfl)))
                      have hlu : Len 2 u := hfu u (List.mem_of_getElem? hu9)
                      clear F43 N43 G hD
                      k_steps
                      all_goals first | assumption
                    · (intros h45 tk45 ys k45 mC; intro F45 hC N45 hf hlen)
                      refine ⟨rfl, h45, tk45, ys, k45, mC, rfl, F45, hC, N45, ?_⟩
                      (intros h46 tk46; intro F46 N46)
                      have s46 : StrsAre ys (fo.toList.map nsT) := by
                        refine strs_of_get (by rw [hlen, strs_len hs41, List.length_map]) fun i y hy => ?_
                        (injection (hf i y hy) with u hₜ1; (injection hₜ1 with t hₜ2; (injection hₜ2 with h1 h2)))
                        exact ⟨nsT u, t, by rw [List.getElem?_map, h1]; rfl, h2⟩
                      have aD := allNe_of fun p hp => (G.ap p hp).2.2
                      simp only [AllNe, and_true] at aD
                      clear F43 N43 G hD hf F45 N45
                      k_steps
                      unfold Halt
                      rename (Fr _ _ _ _) => F47
                      rename (News _ _ _ _) => N47
                      refine ListComp_G F47 rfl (by decide) rfl (by decide) ?_
                      k_steps
                      rename (Fr _ _ _ _) => F48
                      rename (News _ _ _ _) => N48
                      refine ⟨rl, rs.map fun r => Value.ref r.a, ce, _, rfl, F48, N48, F48.keep _ _ hrl, ?_⟩
                      (intros C I D h49 tk49; intro Bk G hD)
                      refine compT_loop (AttrAt rs) rfl Bk rfl rfl rfl rfl (by decide) (by decide) (by decide) (by rw [List.length_map, PySem.sizeLine_eq]; (k_extra "MY om")) (.inr hrl) (fun v hv => ?_) G hD ?_ ?_
                      · (injection (List.mem_map.mp hv) with r hₜ1; (injection hₜ1 with hr1 hₜ2; rcases hₜ2 with rfl))
                        exact ⟨r.a, _, _, _, rfl, hrt r hr1⟩
                      · (intros i t v1 v2 v3 h50 tk50 oC oI oD m2 E'; intro hv ht F50 N50 hC; intros e1 e2 e3)
                        have hₜ2 : ∃ r, rs[i]? = some r ∧ r.a = t := by
                          (replace hv := hv; rw [List.getElem?_map] at hv)
                          cases hq : rs[i]? with
                          | none => (replace hv := hv; rw [hq] at hv); cases hv
                          | some r => (replace hv := hv; rw [hq] at hv); exact ⟨r, rfl, by cases hv; rfl⟩
                        (injection hₜ2 with r hₜ1; (injection hₜ1 with hri hra))
                        have hob := hrt r (List.mem_of_getElem? hri)
                        (replace hob := hob; rw [hra, ht] at hob)
                        cases hob
                        have hl1 := (hr r (List.mem_of_getElem? hri)).len1
                        have hl2 : Len 2 r.v := flen (hr r (List.mem_of_getElem? hri)).v
                        clear F48 N48 G hD
                        k_steps
                        all_goals first | exact .mk hri rfl | assumption
                      · (intros h50 tk50 ys50 k50 mC50; intro F50 hC50 N50 hf50 hlen50)
                        refine ⟨rfl, h50, tk50, ys50, k50, mC50, rfl, F50, hC50, N50, ?_⟩
                        (intros h51 tk51; intro F51 N51)
                        (replace hlen50 := hlen50; rw [List.length_map] at hlen50)
                        have s51 : StrsAre ys50 (rs.map attrT) := by
                          refine strs_of_get (by rw [hlen50, List.length_map]) fun i y hy => ?_
                          (injection (hf50 i y hy) with r hₜ1; (injection hₜ1 with t hₜ2; (injection hₜ2 with h1 h2)))
                          exact ⟨attrT r, t, by rw [List.getElem?_map, h1]; rfl, h2⟩
                        have aD := allNe_of fun p hp => (G.ap p hp).2.2
                        simp only [AllNe, and_true] at aD
                        clear F48 N48 G hD hf50 F50 N50
                        k_steps
                        unfold Halt
                        rename (Fr _ _ _ _) => F52
                        have hgo : Go := True.intro
                        (first | ((rcases optE outer with hᵤ19 | hᵤ20) <;> (first | ((fail_if_success (fail_if_success clear hᵤ19)); subst hᵤ19) | (refine Exists.elim hᵤ20 ?_; clear hᵤ20; intro ou hᵤ21; subst hᵤ21))) | rcases outer with _ | ou)
                        · (replace F52 := F52; rw [show oV none to = Value.none from rfl] at F52)
                          k_steps
                          rename (Fr _ _ _ _) => F53
                          rename (News _ _ _ _) => N53
                          exact lv (.bool true) _ s.heap _ _ _ KtsTurn.refl F53 N53 (fun a b => ret _ _ a b)
                        · (replace F52 := F52; rw [show oV (some ou) to = Value.str ou to from rfl] at F52)
                          have hlo9 := hlo ou rfl
                          k_steps
                          rename (Fr _ _ _ _) => F53
                          rename (News _ _ _ _) => N53
                          exact lv (.bool true) _ s.heap _ _ _ KtsTurn.refl F53 N53 (fun a b => ret _ _ a b)
              · ((intros e h32 tk32; intro hbad R32))
                refine raise_catch B' rfl F31 N31 R32 Xb Tb (by k_is) (by k_is) rfl rfl rfl ?_
                (intros h33 g33 oe vs33 Tu; intro F33 N33 hd33; intro h2v; intro B33 X33; intro Tp33)
                have hna : ¬ AllEq (spaces rs kn own) := bad_facts hwl hkx hbad
                have hgo : Go := True.intro
                k_steps
                unfold Halt
                rename (Fr _ _ _ _) => F34
                rename (News _ _ _ _) => N34
                refine ListComp_G F34 rfl (by decide) rfl (by decide) ?_
                k_steps
                rename (Fr _ _ _ _) => F35
                rename (News _ _ _ _) => N35
                refine ⟨_, sv, _, _, rfl, F35, N35, N35.get (.tail _ (.head _)), ?_⟩
                (intros C I D h35 tk35; intro Bk G hD)
                refine compF_loop (gs (fst0 (spaces rs kn own))) (.inr ⟨e, oe, vs33, rfl, .head _, hd33, h2v⟩) Bk rfl rfl (by rw [PySem.sizeLine_eq]; (k_extra "MY om")) (.inl (.tail _ (.head _))) G hD ?_ ?_
                · (intros i v h36 tk36 oC oI oD m2; intro E'; intro hv F36 N36 hC hm2)
                  (injection (first_str sp hv) with u hₜ1; (injection hₜ1 with t hₜ2; (injection hₜ2 with t0 hₜ3; (refine And.elim ?_ (hₜ3); (try clear hₜ3); intro hₜ4 hv0; rcases hₜ4 with rfl))))
                  clear F35 N35 G hD
                  k_steps
                  all_goals first | assumption
                · (intros h36 tk36 ys k36 mC; intro F36 hC N36 hys)
                  refine ⟨rfl, h36, tk36, ys, k36, mC, rfl, F36, hC, N36, ?_⟩
                  (intros h37 tk37; intro F37 N37)
                  have hne : ys ≠ [] := fun q => hna ((filt_nil sp).mp (hys ▸ q))
                  have aD := allNe_of fun p hp => (G.ap p hp).2.2
                  simp only [AllNe, and_true] at aD
                  clear F35 N35 G hD hys F36 N36
                  have hₜ2 : ∃ p y, ys = p ++ [y] := by
                    ((rcases List.eq_nil_or_concat ys with q | hᵤ22) <;> (first | ((fail_if_success (fail_if_success clear q))) | ((fail_if_success (fail_if_success clear hᵤ22)); (injection hᵤ22 with p hₜ1; (injection hₜ1 with y q)))))
                    · exact absurd q hne
                    · exact ⟨p, y, by rw [q, List.concat_eq_append]⟩
                  (injection hₜ2 with p9 hₜ1; (injection hₜ1 with y9 hₜ2; rcases hₜ2 with rfl))
                  k_steps
                  rename (Fr _ _ _ _) => F39
                  rename (News _ _ _ _) => N39
                  exact lv (.bool true) _ g33 _ _ _ Tu F39 N39 (fun a b => ret _ _ a b)
set_option linter.unusedVariables false
section
variable {prog : Program} {w : World} {A : Around} {E : Value → Shared → Prop} {s : Shared} {env : Env} {h₀ : Heap} {x : Str} {body : List Stmt} {Q : Flow → Shared → Prop}
theorem for_tupT : ∀ {prog : Program} {w : World} {A : Around} {E : Value → Shared → Prop} {s : Shared} {env : Env} {h₀ : Heap} {body : List Stmt} {Q : Flow → Shared → Prop} {target : PySem.Expr} {l : Addr} {vs : List Value} {m₀ : Str → Option Value} {news : List (Addr × Obj)} (J : Nat → (Str → Option Value) → List (Addr × Obj) → Prop) (hh : A.handled = none) (F : Fr h₀ env.locals s.heap m₀) (N : News h₀ env.locals s.heap news) (hin : ∀ i m news, J i m news → (l, tupObj vs) ∈ news ∨ h₀.get? l = some (tupObj vs)) (hj : J 0 m₀ news) (turn : ∀ i v m₁ news₁ h tk I oI, vs[i]? = some v → J i m₁ news₁ → (∀ p ∈ news₁, p.1 ≠ I) → Fr h₀ env.locals h m₁ → News h₀ env.locals h ((I, oI) :: news₁) →
      wpAny (model prog w) A (assign target env v) (fun _ s₃ => wpAny (model prog w) A (execs body env) (TurnQ h₀ env.locals I oI (J (i + 1)) s Q) E s₃) E { s with heap := h, toks := tk }) (done : ∀ m₁ news₁ h tk, J vs.length m₁ news₁ → Fr h₀ env.locals h m₁ → News h₀ env.locals h news₁ → Q .next { s with heap := h, toks := tk }),
    wpAny (model prog w) A (pyIter (.ref l)) (fun it s₂ => TurnsAt prog w A h₀ env target body Q E it s₂) E s := by
  have hEpsₑ : EpsOn 0 := ⟨True.intro⟩
  intros prog w A E s env h₀ body Q target l vs
  intros m₀ news J
  intro hh
  intro F
  intro N
  intro hin
  intro hj
  intro turn
  intro done
  have at_ : ∀ {i m news} {h : Heap}, J i m news → Fr h₀ env.locals h m → News h₀ env.locals h news → h.get? l = some (tupObj vs) := fun hJ F N => (hin _ _ _ hJ).elim (fun q => (N _ q).1) fun q => F.keep _ _ q
  have hol := at_ hj F N
  have hls : s.heap.IsTuple l vs.toArray := ⟨_, hol, rfl, _, rfl⟩
  have hlt : l < s.heap.objs.size := Heap.lt_size hol
  have hne : l ≠ s.heap.objs.size := Nat.ne_of_lt hlt
  have hlL : l ≠ env.locals := by
    rcases hin _ _ _ hj with q | q
    · exact (N _ q).2.1
    · exact Nat.ne_of_lt (Nat.lt_of_lt_of_le (Heap.lt_size q) F.above)
  refine wpAny_pyIter_tuple hls ?_
  have W := Walks.tuple (prog := prog) (w := w) hh s.heap.objs.size l hne vs.toArray
  have hlen : vs.toArray.size = vs.length := by simp
  (replace W := W; rw [hlen] at W)
  refine ⟨_, _, _, vs.length, _, _, _, m₀, news, J, rfl, KTurns.ofWalks W (fun i v s Q E st q => letGo_tupleiter st.1 q), ?_, ?_, ?_, ⟨⟨_, Heap.get?_push_size _ rfl, rfl, rfl⟩, hls.at fun o e => Heap.get?_push_of_some _ e⟩, F.push _, (fun p hp => ⟨Heap.get?_push_of_some _ (N p hp).1, (N p hp).2⟩), hj, ?_, ?_⟩
  · intro hm
    rcases List.mem_cons.mp hm with e | hm
    · exact absurd F.ns.lt (e ▸ Nat.lt_irrefl _)
    · exact hlL (List.mem_singleton.mp hm).symm
  · intro b hb
    rw [List.mem_singleton.mp hb]
    exact next_is_new F
  · intro p hp hI
    exact absurd (Heap.lt_size (N p hp).1) ((List.mem_singleton.mp hI) ▸ Nat.lt_irrefl _)
  · ((intros i v m₁ news₁ hh' tk'; intro own; intro hi hP hJ hoff hown hownget hmem hst; intros F₁ N₁))
    (refine And.elim ?_ (hst); (try clear hst); intro hₜ1 hₜ2; (injection hₜ1 with oi hₜ3; (injection hₜ3 with hoi hₜ4; rcases hₜ4 with _)); rcases hₜ2 with _)
    have hI : (s.heap.objs.size, oi) ∈ own := hmem _ (.head _) (next_is_new F) oi hoi
    have hv : vs[i]? = some v := by simpa using hP
    have hI1 : ∀ p ∈ news₁, p.1 ≠ s.heap.objs.size := fun p hp e => hoff p hp (e ▸ .head _)
    have N₂ : News h₀ env.locals hh' ((s.heap.objs.size, oi) :: news₁) := fun p hp => N₁ p ((List.mem_cons.mp hp).elim (fun e => List.mem_append.mpr (.inl (e ▸ hI))) fun h => List.mem_append.mpr (.inr h))
    have hl₁ : hh'.get? l = some (tupObj vs) := by
      have q := hin _ _ _ hJ
      rcases q with q | q
      · exact (N₂ _ (.tail _ q)).1
      · exact F₁.keep _ _ q
    refine wpAny_mono (turn i v m₁ news₁ hh' tk' s.heap.objs.size oi hv hJ hI1 F₁ N₂) ?_ fun _ _ e => e
    (intros xz s₃ h₃)
    refine wpAny_mono h₃ ?_ fun _ _ e => e
    (intros f s₂ p)
    have fin : (∃ h' tk' m' news', s₂ = { s with heap := h', toks := tk' } ∧ Fr h₀ env.locals h' m' ∧ News h₀ env.locals h' ((s.heap.objs.size, oi) :: news') ∧ (∀ p ∈ news', p.1 ≠ s.heap.objs.size) ∧ J (i + 1) m' news') →
        LoopStepU h₀ env.locals [s.heap.objs.size] own (J (i + 1)) { s with heap := hh', toks := tk' } .next s₂ := by
      ((intro hₜ5; (injection hₜ5 with h' hₜ1; (injection hₜ1 with tk2 hₜ2; (injection hₜ2 with m' hₜ3; (injection hₜ3 with news' hₜ4; (refine And.elim ?_ (hₜ4); (try clear hₜ4); intro hₜ5 hₜ6; rcases hₜ5 with rfl; (injection hₜ6 with F' hₜ7; (injection hₜ7 with N' hₜ8; (injection hₜ8 with hI2 hJ'))))))))))
      refine ⟨rfl, h', tk2, m', news', rfl, F', fun p hp => ?_, fun p hp hq => hI2 p hp (List.mem_singleton.mp hq), hJ'⟩
      rcases List.mem_append.mp hp with hp | hp
      · have h1 := hown p hp
        have h2 := hownget p hp
        rcases List.mem_cons.mp h1 with e | e
        · have : p = (s.heap.objs.size, oi) := by
            (first | (injection p with a o) | rcases p with ⟨a, o⟩)
            dsimp only at e h2
            subst e
            (replace h2 := h2; rw [hoi] at h2)
            cases h2; rfl
          exact this ▸ N' _ (.head _)
        · have e := List.mem_singleton.mp e
          (first | (injection p with a o) | rcases p with ⟨a, o⟩)
          dsimp only at e h2
          subst e
          (replace h2 := h2; rw [hl₁] at h2)
          cases h2
          refine ⟨?_, hlL, (N₁ _ (List.mem_append_left _ hp)).2.2⟩
          rcases hin _ _ _ hJ' with q | q
          · exact (N' _ (.tail _ q)).1
          · exact F'.keep _ _ q
      · exact N' _ (.tail _ hp)
    cases f with
    | ret v => exact .ret p
    | brk => exact .brk p
    | next => exact .next (fin p)
    | cont => exact .cont (fin p)
  · ((intros h' tk m' news'; intro F' N' _ hJ))
    exact done m' news' h' tk hJ F' N'
end
set_option linter.unusedVariables false
theorem words_65 : True := by
  k_with "OFF 64" => (skip)
  k_with "MY k_handed" => ((fail_if_success k_extra "OFF 65"); exact handed_par _)
  k_with "MY use" => ((fail_if_success k_extra "OFF 65"); ((try dsimp only); (try k_fold)))
  k_with "MY rd" => ((fail_if_success k_extra "OFF 65"); ((case k1ₘ => k_asm); (case k2ₘ => k_asm); (case k3ₘ => k_asm); (case k4ₘ => k_asm); (case k5ₘ => k_asm); (case kKₘ => first | exact rfl | assumption); (case kdₘ => ((try dsimp only [ktrTop, Around.deeper]); (k_extra "MY om"))); (case kuₘ => ((try dsimp only [ktrTop, Around.deeper]); (k_extra "MY om")))))
  k_with "Halt" => ((fail_if_success k_extra "OFF 65"); fail "halt")
  k_with "assign Tuple" => ((fail_if_success k_extra "OFF 65"); (k_dflt (refine' unpackN ?Fₘ ?Nₘ ?dₘ ?k1ₘ ?k2ₘ ?k3ₘ ?_; (case Fₘ => k_asm); (case Nₘ => k_asm); (case dₘ => k_extra "MY in"); (case k1ₘ => exact rfl); (case k2ₘ => exact rfl); (case k3ₘ => exact rfl)); intro h'ₘ F'ₘ N'ₘ))
  k_with "MY reader" => ((fail_if_success k_extra "OFF 65"); (refine wpAny_call ?_; with_unfolding_all (refine' code_reader ?k1ₘ ?k2ₘ ?k3ₘ ?k4ₘ ?k5ₘ ?kAₘ ?kFₘ ?kKₘ ?k6ₘ ?k7ₘ ?k8ₘ ?k9ₘ ?kBₘ ?_ ?c2ₘ ?c3ₘ ?c4ₘ ?c5ₘ; (case kAₘ => exact rfl); (case kFₘ => exact rfl); (case kKₘ => assumption); (case k1ₘ => k_asm); (case k2ₘ => k_asm); (case k3ₘ => k_asm); (case k4ₘ => k_asm); (case k5ₘ => k_asm); (case k6ₘ => k_is); (case k7ₘ => k_is); (case k8ₘ => ((try dsimp only [ktrTop]); (k_extra "MY om"))); (case k9ₘ => exact BindsTo.of_eq rfl); (case c5ₘ => decide); (case kBₘ => exact locs rfl); (case c2ₘ => exact rfl); (case c3ₘ => exact rfl); (case c4ₘ => exact rfl); k_whole)))
  k_with "LeaveK" => ((fail_if_success k_extra "OFF 65"); ((rename (∀ _ _ _ _ _, Fr _ _ _ _ → News _ _ _ _ → _ → LeaveK _ _ _ _ _ _ _) => lv9ₘ); k_dflt (refine' lv9ₘ _ _ _ _ _ ?k1ₘ ?k2ₘ ?_; (case k1ₘ => k_asm); (case k2ₘ => k_asm); k_whole); (intros kFₘ kNₘ kSₘ kOₘ); (try dsimp only)))
  k_with "exec While Compare cons nil" => ((fail_if_success k_extra "OFF 65"); refine halt_of ?_)
  k_with "exec For Name Name cons nil" => ((fail_if_success k_extra "OFF 65"); refine halt_of ?_)
  k_with "MY k_inst" => ((fail_if_success k_extra "OFF 65"); first | (refine' inst_tree ?Fₘ ?h1ₘ; (case Fₘ => k_asm); (case h1ₘ => assumption)) | (refine' inst_node ?Fₘ ?h1ₘ ?h2ₘ; (case Fₘ => k_asm); (case h1ₘ => assumption); (case h2ₘ => assumption)))
  k_with "MY rp" => ((fail_if_success k_extra "OFF 67"); (case kpₘ => exact PT.At.sub (by assumption) (Fr.keep (by k_asm))))
  k_with "MY size" => ((fail_if_success k_extra "OFF 65"); (simp only [List.size_toArray, List.length_map, Array.size_push, PySem.sizeLine_eq]; (k_extra "MY om")))
  k_with "call builtin:list.append" => ((fail_if_success k_extra "OFF 65"); (k_here; (with_reducible show wpAny _ _ (call (Value.builtin _) [Value.ref _, _]) _ _ _); k_dflt (refine' append_K ?k1ₘ ?k2ₘ ?k3ₘ ?_ ?zₘ; (case k1ₘ => k_asm); (case k2ₘ => k_asm); (case k3ₘ => k_upd); (case zₘ => k_extra "MY size"); k_whole); intro h'ₘ F'ₘ N'ₘ))
  k_with "subscriptTail Name Slice ref ref" => ((fail_if_success k_extra "OFF 65"); (k_here; k_dflt (refine' krv_lit ?Fₘ ?Nₘ ?lₘ ?kₘ ?eₘ ?_ ?sₘ ?tₘ ?zₘ; (case Fₘ => k_asm); (case Nₘ => k_asm); (case lₘ => exact News.isList (by k_asm) (by k_mem)); (case kₘ => exact IsPart.int _ _); (case eₘ => exact rfl); (case sₘ => with_unfolding_all rfl); (case tₘ => (intro _; with_unfolding_all rfl)); (case zₘ => k_extra "MY size")); (intros D'ₘ h'ₘ; intro F'ₘ N'ₘ l1ₘ); (try k_lt l1ₘ)))
  k_with "call ref" => ((fail_if_success k_extra "OFF 65"); first | ((with_reducible show wpAny _ _ (call (Value.ref 354) _) _ _ _); refine halt_of ?_) | ((with_reducible show wpAny _ _ (call (Value.ref 368) _) _ _ _); refine halt_of ?_) | ((with_reducible show wpAny _ _ (call (Value.ref 403) _) _ _ _); refine halt_of ?_) | ((with_reducible show wpAny _ _ (call (Value.ref 290) _) _ _ _); refine halt_of ?_) | ((with_reducible show wpAny _ _ (call (Value.ref 297) _) _ _ _); refine halt_of ?_) | ((with_reducible show wpAny _ _ (call (Value.ref 431) _) _ _ _); k_dflt (refine' RSpec.use2 (name_of _ _ _ _ _ ?hkₘ) ?k1ₘ ?k2ₘ ?k3ₘ ?k4ₘ ?k5ₘ ?kKₘ ?kdₘ ?kuₘ ?kpₘ ?_; (case hkₘ => assumption); k_extra "MY rd"; k_extra "MY rp"; k_whole); (intros r9ₘ new9ₘ h9ₘ tk9ₘ; intro F9ₘ N9ₘ S9ₘ O9ₘ p9ₘ); ((injection p9ₘ with p9ₘ p9'ₘ); subst p9ₘ; subst p9'ₘ); simp only [List.nil_append] at N9ₘ; k_extra "MY use") | ((with_reducible show wpAny _ _ (call (Value.ref 459) _) _ _ _); k_dflt (refine' RSpec.use2 (parent_of _ _ _ _ _ ?hkₘ) ?k1ₘ ?k2ₘ ?k3ₘ ?k4ₘ ?k5ₘ ?kKₘ ?kdₘ ?kuₘ ?kpₘ ?_; (case hkₘ => assumption); k_extra "MY rd"; k_extra "MY rp"; k_whole); (intros r9ₘ new9ₘ h9ₘ tk9ₘ; intro F9ₘ N9ₘ S9ₘ O9ₘ p9ₘ); ((injection p9ₘ with p9ₘ p9'ₘ); subst p9ₘ; subst p9'ₘ); simp only [List.nil_append] at N9ₘ; k_extra "MY use"))
  k_with "MY rp" => ((fail_if_success k_extra "OFF 65"); (case kpₘ => exact at_mem (by k_asm) (by intro qₘ hqₘ; simp only [List.mem_append, List.mem_cons, hqₘ, true_or, or_true]) (by (k_extra "MY om")) (by assumption)))
  k_with "compareOp NotEq str str" => ((fail_if_success k_extra "OFF 65"); (k_dflt refine ne_str_same (by assumption) ?_))
  trivial
def LangA (T : PT) (tp t1 : Tok) : Prop := T.ns.length = 2 ∧ T.Tiny 2 ∧ ∃ n0 n1 : NR, T.ns[0]? = some n0 ∧ n0.kind = "root" ∧ n0.ch = [(1, t1)] ∧ T.ns[1]? = some n1 ∧ n1.Is "element" "a" "" "a" "" (some (0, tp))
def LangB (T : PT) (tp t1 : Tok) : Prop := T.Tiny 3 ∧ ∃ (n0 n1 na : NR) (t2 : Tok), T.ns[0]? = some n0 ∧ n0.kind = "root" ∧ n0.ch = [(1, t1)] ∧ T.ns[1]? = some n1 ∧ n1.kind = "element" ∧ n1.name = "a" ∧ n1.uri = "" ∧ n1.par = some (0, tp) ∧ n1.ch = [] ∧ n1.ns = [] ∧ n1.at' = [(2, t2)] ∧
  T.ns[2]? = some na ∧ na.kind = "attribute" ∧ na.name = "xml:lang" ∧ na.uri = "" ∧ na.value = "en"
theorem lang_a {T1 : PT} {n2 nr : NR} {e2 : Nat} {t2 tp : Tok} (h1 : T1.ns = [nr]) (hr : nr.Is "root" "" "" "" "" none) (hn2 : n2.Is "element" "a" "" "a" "" (some (0, tp))) : LangA (T1.child e2 n2 0 nr t2) tp t2 := by
  have hl : T1.ns.length = 1 := by rw [h1]; rfl
  have hr0 : T1.ns[0]? = some nr := by rw [h1]; rfl
  have g0 := child_at (e := e2) (n' := n2) (t9 := t2) hr0 0 (by (k_extra "MY om"))
  (replace g0 := g0; rw [if_pos rfl] at g0)
  have g1 := child_last (e := e2) (n' := n2) (t9 := t2) hr0
  (replace g1 := g1; rw [hl] at g1)
  have ty : T1.Tiny 1 := ⟨by (k_extra "MY om"), fun x hx => by
    (replace hx := hx; rw [h1] at hx)
    rw [List.mem_singleton.mp hx, hr.ch, hr.at', hr.ns]; simp⟩
  refine ⟨by rw [child_len, hl], Tiny.child ty hr0 hn2, _, _, g0, hr.kind, ?_, g1, hn2⟩
  show nr.ch ++ [(T1.ns.length, t2)] = _
  rw [hr.ch, hl]; rfl
theorem lang_b {T : PT} {n1 n' : NR} {e : Nat} {t9 tp t1 : Tok} {par : Option (Nat × Tok)} (h : LangA T tp t1) (h1 : T.ns[1]? = some n1) (hn : n'.Is "attribute" "xml:lang" "" "xml:lang" "en" par) : LangB (T.attr e n' 1 n1 t9) tp t1 := by
  (injection h with hl hₜ1; (injection hₜ1 with ty hₜ2; (injection hₜ2 with n0 hₜ3; (injection hₜ3 with n1' hₜ4; (injection hₜ4 with a0 hₜ5; (injection hₜ5 with a1 hₜ6; (injection hₜ6 with a2 hₜ7; (injection hₜ7 with b0 b1))))))))
  obtain rfl : n1 = n1' := Option.some.inj (h1.symm.trans b0)
  have g0 : (T.attr e n' 1 n1 t9).ns[0]? = some n0 := by
    show ((T.more e n').setN 1 _).ns[0]? = _
    rw [ms_at h1 0 (by (k_extra "MY om")), if_neg (by decide)]; exact a0
  have g1 : (T.attr e n' 1 n1 t9).ns[1]? = some (n1.addAt (T.ns.length, t9)) := by
    show ((T.more e n').setN 1 _).ns[1]? = _
    rw [ms_at h1 1 (by (k_extra "MY om")), if_pos rfl]
  have g2 : (T.attr e n' 1 n1 t9).ns[T.ns.length]? = some n' := ms_last h1
  (replace g2 := g2; rw [hl] at g2)
  refine ⟨Tiny.attr ty h1 hn, n0, _, n', t9, g0, a1, a2, g1, b1.kind, b1.name, b1.uri, b1.par, b1.ch, b1.ns, ?_, g2, hn.kind, hn.name, hn.uri, hn.value⟩
  show n1.at' ++ [(T.ns.length, t9)] = _
  rw [b1.at', hl]; rfl
set_option maxRecDepth 100000 in
set_option maxHeartbeats 8000000 in
theorem add_start_of : ∀ (w : World) (T : PT) (rest : List (Addr × Obj)) (nr : NR) (tp t4 k3 k4 : Tok) (ta tb : Addr) (hT : T.ns = [nr]) (hr : nr.Is "root" "" "" "" "" none) (m3 : (ta, tupObj [.ref tb]) ∈ rest) (m4 : (tb, tupObj [.str "xml:lang" k3, .str "en" k4]) ∈ rest) (nd : ND (T.objs w.params ++ rest)),
    MSpec w 290 9 [.ref T.b.t, .int ((0 : Nat) : Int) tp, .str "a" t4, .ref ta, .none] (T.objs w.params ++ rest) (fun r news' => ∃ (T' : PT) (t1 t9 : Tok), r = .int ((1 : Nat) : Int) t9 ∧ T'.b.t = T.b.t ∧ LangB T' tp t1 ∧ news' = T'.objs w.params ++ rest ∧ ND (T'.objs w.params ++ rest)) := by
  have hEpsₑ : EpsOn 0 := ⟨True.intro⟩
  intros w T rest nr tp t4 k3 k4
  intros ta tb
  intro hT
  intro hr
  intro m3
  intro m4
  intro nd
  (intros dp un gd cn cs a ccd cl outer A₀ base h₀ L m s p9 loose mean mg mb Q E; intro B F X0 N Tp hk9 hd hu ret)
  k_extra "MY enter"
  (intros g L' h'; intro FG F' N' B' X' T')
  try dsimp only
  try k_fold
  k_steps
  unfold Halt
  rename (Fr _ _ _ _) => F1
  rename (News _ _ _ _) => N1
  have hnr : T.ns[0]? = some nr := by rw [hT]; rfl
  have hl1 : T.ns.length = 1 := by rw [hT]; rfl
  have sm1 : T.Small := ⟨by rw [hT]; simp, fun n hn9 => by (replace hn9 := hn9; rw [hT] at hn9); rw [List.mem_singleton.mp hn9, hr.ch, hr.at', hr.ns]; simp⟩
  refine MSpec.use (add_element_of w T rest 0 nr "a" "" "a" tp _ _ _ hnr (.inl hr.kind) nd sm1) B' F1 X' N1 T' rfl (by (try dsimp only [ktrTop, Around.deeper]); (k_extra "MY om")) (by (try dsimp only [ktrTop, Around.deeper]); (k_extra "MY om")) ?_
  ((intros r news' h2 tk2; intro F2 N2); (intro hₜ8; (injection hₜ8 with n2 hₜ1; (injection hₜ1 with e2 hₜ2; (injection hₜ2 with t2 hₜ3; (refine And.elim ?_ (hₜ3); (try clear hₜ3); intro hₜ4 hₜ5; rcases hₜ4 with rfl; (injection hₜ5 with hn2 hₜ6; (refine And.elim ?_ (hₜ6); (try clear hₜ6); intro hₜ7 nd2; rcases hₜ7 with rfl))))))))
  have la := lang_a (e2 := e2) (t2 := t2) hT hr hn2
  (have hₜ9 : ∃ T2, T2 = T.child e2 n2 0 nr t2 := (⟨_, rfl⟩); (injection hₜ9 with T2 hT2))
  have ht2 : T.b.t = T2.b.t := by rw [hT2]; rfl
  (replace N2 := N2; replace nd2 := nd2; replace la := la; rw [← hT2] at N2 nd2 la)
  (replace F2 := F2; rw [ht2] at F2)
  rw [hl1]
  clear hT2 F1 N1 nd
  k_steps
  unfold Halt
  rename (Fr _ _ _ _) => F3
  rename (News _ _ _ _) => N3
  (injection (map_of F3) with M hM)
  refine for_tupT (vs := [.ref tb]) (fun i m' news' => (∃ u, m' = mix [Str.ofString "told", Str.ofString "value"] u M) ∧ ∃ T' : PT, news' = T'.objs w.params ++ rest ∧ ND (T'.objs w.params ++ rest) ∧ T'.b.t = T2.b.t ∧ ((i = 0 ∧ LangA T' tp t2) ∨ (i = 1 ∧ LangB T' tp t2)))
    (by exact rfl) F3 N3 (fun _ _ _ h => by obtain ⟨_, T', rfl, _⟩ := h; exact .inl (List.mem_append_right _ m3)) ⟨⟨M, by rw [mix_self]; exact hM.symm⟩, T2, rfl, nd2, rfl, .inl ⟨rfl, la⟩⟩ ?_ ?_
  · clear F3 N3
    ((intros i v m₁ news₁ h tk9 I oI; intro hv); (intro hₜ1; (refine And.elim ?_ (hₜ1); (try clear hₜ1); intro hₜ1 hₜ2; (injection hₜ1 with u2 hₜ3; rcases hₜ3 with rfl); (injection hₜ2 with T hₜ4; (refine And.elim ?_ (hₜ4); (try clear hₜ4); intro hₜ5 hₜ6; rcases hₜ5 with rfl; (injection hₜ6 with nd5 hₜ7; (injection hₜ7 with hx5 hc)))))); intro ap F5 N5)
    subst hM
    ((rcases hc with hᵤ1 | hᵤ2) <;> (first | ((fail_if_success (fail_if_success clear hᵤ1)); (refine And.elim ?_ (hᵤ1); (try clear hᵤ1); intro hₜ1 la5; rcases hₜ1 with rfl)) | ((fail_if_success (fail_if_success clear hᵤ2)); (refine And.elim ?_ (hᵤ2); (try clear hᵤ2); intro hₜ1 hₜ2; rcases hₜ1 with rfl; rcases hₜ2 with _))))
    · obtain rfl : Value.ref tb = v := by simpa using hv
      have nd6 := nd_ne (o := oI) ap nd5
      have N6 := News.pm N5 (perm1 _ _ _)
      (replace F5 := F5; rw [← hx5] at F5)
      clear N5
      k_steps
      unfold Halt
      rename (Fr _ _ _ _) => F7
      rename (News _ _ _ _) => N7
      (injection (id la5) with hl5 hₜ1; (injection hₜ1 with ty5 hₜ2; (injection hₜ2 with n0 hₜ3; (injection hₜ3 with n1 hₜ4; (injection hₜ4 with a0 hₜ5; (injection hₜ5 with a1 hₜ6; (injection hₜ6 with a2 hₜ7; (injection hₜ7 with b0 b1))))))))
      refine MSpec.use (set_attribute_of w T ((I, oI) :: rest) 1 n1 "xml:lang" "" "xml:lang" "en" t2 _ _ _ _ b0 b1.kind (fun c hc => by (replace hc := hc; rw [b1.at'] at hc); cases hc) (nd6.perm (perm1 _ _ _)) (ty5.small (by (k_extra "MY om")))) B' F7 X' N7 T' rfl (by (try dsimp only [ktrTop, Around.deeper]); (k_extra "MY om")) (by (try dsimp only [ktrTop, Around.deeper]); (k_extra "MY om")) ?_
      ((intros r9 news' h8 tk8; intro F8 N8); (intro hₜ8; (injection hₜ8 with n8 hₜ1; (injection hₜ1 with e8 hₜ2; (injection hₜ2 with t8 hₜ3; (refine And.elim ?_ (hₜ3); (try clear hₜ3); intro hₜ4 hₜ5; rcases hₜ4 with rfl; (injection hₜ5 with hn8 hₜ6; (refine And.elim ?_ (hₜ6); (try clear hₜ6); intro hₜ7 nd8; rcases hₜ7 with rfl))))))))
      have lb := lang_b (e := e8) (t9 := t8) la5 b0 hn8
      have nd9 := nd8.perm (perm1 _ _ _).symm
      k_steps
      rename (Fr _ _ _ _) => F9
      rename (News _ _ _ _) => N9
      (replace F9 := F9; rw [hx5] at F9)
      exact TurnQ.intro F9 (News.pm N9 (perm1 _ _ _).symm) (nd_head nd9) ⟨⟨_, mix_two rfl rfl⟩, _, rfl, nd_tail nd9, hx5, .inr ⟨by first | exact rfl | trivial, lb⟩⟩
    · simp at hv
  · clear F3 N3
    ((intros m₁ news₁ h5 tk5); (intro hₜ9; (refine And.elim ?_ (hₜ9); (try clear hₜ9); intro hₜ1 hₜ2; (injection hₜ1 with u2 hₜ3; rcases hₜ3 with rfl); (injection hₜ2 with T hₜ4; (refine And.elim ?_ (hₜ4); (try clear hₜ4); intro hₜ5 hₜ6; rcases hₜ5 with rfl; (injection hₜ6 with nd5 hₜ7; (injection hₜ7 with hx5 hc)))))); intro F5 N5)
    subst hM
    ((rcases hc with hᵤ3 | hᵤ4) <;> (first | ((fail_if_success (fail_if_success clear hᵤ3)); (injection hᵤ3 with h0 hₜ1; rcases hₜ1 with _)) | ((fail_if_success (fail_if_success clear hᵤ4)); (refine And.elim ?_ (hᵤ4); (try clear hᵤ4); intro hₜ1 lb; rcases hₜ1 with _))))
    · cases h0
    · k_steps
      exact ret _ _ _ _ (by assumption) (by assumption) ⟨T, t2, t2, rfl, hx5.trans ht2.symm, lb, rfl, nd5⟩
set_option maxRecDepth 100000 in
set_option maxHeartbeats 8000000 in
theorem left_end_of : ∀ (w : World) (T : PT) (n1 : NR) (tk t4 tr tp : Tok) (h1 : T.ns[1]? = some n1) (hn : n1.name = "a") (hp : n1.par = some (0, tp)),
    RSpec w 297 3 [.ref T.b.t, .int ((1 : Nat) : Int) tk, .str "a" t4, .int ((0 : Nat) : Int) tr] (fun h => T.At w.params h) (fun _ r new => r = .int ((0 : Nat) : Int) tp ∧ new = []) := by
  have hEpsₑ : EpsOn 0 := ⟨True.intro⟩
  intros w T n1 tk t4 tr
  intro tp
  intro h1
  intro hn
  intro hp
  (intros dp un gd cn cs a ccd cl outer A₀ base h₀ L m news s p loose mean mg mb Q E; intro B F X N Tp hk9 hd hu pre ret)
  have hT := pre.2.1
  k_extra "MY reader"
  (intros L' h'; intro F' N' B' X' T' lv)
  try dsimp only
  try k_fold
  k_steps
  all_goals exact ret _ _ _ _ (by assumption) (by assumption) (by assumption) (by assumption) ⟨by rw [hp]; rfl, rfl⟩
set_option linter.unusedVariables false
theorem words_66 : True := by
  k_with "OFF 65" => (skip)
  k_with "MY enter" => ((fail_if_success k_extra "OFF 67"); (refine wpAny_call ?_; with_unfolding_all (refine' code_def ?k1ₘ ?k2ₘ ?k3ₘ ?k4ₘ ?k5ₘ ?kAₘ ?kFₘ ?kKₘ ?k6ₘ ?k7ₘ ?k8ₘ ?k9ₘ ?kBₘ ?_ ?c2ₘ ?c3ₘ ?c4ₘ ?c5ₘ; (case kAₘ => exact rfl); (case kFₘ => exact rfl); (case kKₘ => assumption); (case k1ₘ => k_asm); (case k2ₘ => k_asm); (case k3ₘ => k_asm); (case k4ₘ => k_asm); (case k5ₘ => k_asm); (case k6ₘ => k_is); (case k7ₘ => k_is); (case k8ₘ => ((try dsimp only [ktrTop]); (k_extra "MY om"))); (case k9ₘ => first | exact BindsTo.of_eq rfl | exact binds_K (by k_in) rfl (by k_is) rfl rfl rfl); (case c5ₘ => decide); (case kBₘ => exact locs rfl); (case c2ₘ => exact rfl); (case c3ₘ => exact rfl); (case c4ₘ => exact rfl); k_whole)))
  k_with "exec For Name Name cons nil" => ((fail_if_success k_extra "OFF 67"); (k_here; (rename Fr _ _ _ _ => lF'ₘ); (with_unfolding_all refine' For_invVF lF'ₘ ?k1ₘ ?k2ₘ ?_; (case k1ₘ => exact rfl); (case k2ₘ => exact rfl); k_whole)))
  k_with "call ref" => ((fail_if_success k_extra "OFF 67"); first | ((with_reducible show wpAny _ _ (call (Value.ref 354) _) _ _ _); refine halt_of ?_) | ((with_reducible show wpAny _ _ (call (Value.ref 290) _) _ _ _); refine halt_of ?_) | ((with_reducible show wpAny _ _ (call (Value.ref 297) _) _ _ _); refine halt_of ?_))
  trivial
theorem item_tupN {w : World} {A : Around} {E : Value → Shared → Prop} {s : Shared} {value slice : PySem.Expr} {h₀ : Heap} {L t : Addr} {news : List (Addr × Obj)} {l : List Value} {k : Int} {j : Nat} {v : Value} {u : Tok} {Q : Value → Shared → Prop} (N : News h₀ L s.heap news) (hm : (t, tupObj l) ∈ news) (h0 : -(2 ^ 63) ≤ k) (h1 : k < 2 ^ 63) (hj : seqIndex? k l.length = some j) (hv : l[j]? = some v) (h : Q v s)
    (hs : subscripted slice false (.ref t) (.int k u) = operate [.ref t, .int k u] (getItem (.ref t) (.int k u)) := by with_unfolding_all rfl) : wpAny (model PG w) A (subscriptTail value slice (.ref t) (.int k u)) Q E s :=
  item_tupleT (l := l) ⟨_, (N _ hm).1, rfl, _, rfl⟩ h0 h1 hj hv h hs
theorem words_67 : True := by
  k_with "subscriptTail Name Constant ref int" => ((fail_if_success k_extra "OFF 67"); (k_dflt (refine' item_tupN ?Nₘ ?mₘ ?aₘ ?bₘ ?jₘ ?vₘ ?_ ?sₘ; (case Nₘ => k_asm); (case mₘ => k_extra "MY in"); (case aₘ => decide); (case bₘ => decide); (case jₘ => exact rfl); (case vₘ => exact rfl); (case sₘ => with_unfolding_all rfl))))
  trivial
set_option maxRecDepth 100000 in
set_option maxHeartbeats 8000000 in
theorem build_of : ∀ (w : World) (T0 : PT) (rest : List (Addr × Obj)) (el t1 t2 ta tb : Addr) (ce : Nat) (k1 k2 k3 k4 k5 k6 : Tok) (hT0 : T0.ns = []) (m0 : (el, listOf [.ref t1, .ref t2].toArray ce) ∈ rest) (m1 : (t1, tupObj [.str "start" k1, .str "a" k2, .ref ta]) ∈ rest) (m3 : (ta, tupObj [.ref tb]) ∈ rest) (m4 : (tb, tupObj [.str "xml:lang" k3, .str "en" k4]) ∈ rest) (m5 : (t2, tupObj [.str "end" k5, .str "a" k6]) ∈ rest) (nd : ND (T0.objs w.params ++ rest)),
    MSpec w 283 20 [.ref T0.b.t, .ref el, .bool false] (T0.objs w.params ++ rest) (fun r news' => ∃ (T' : PT) (tr q1 : Tok), r = .int ((0 : Nat) : Int) tr ∧ T'.b.t = T0.b.t ∧ LangB T' tr q1 ∧ news' = T'.objs w.params ++ rest ∧ ND (T'.objs w.params ++ rest)) := by
  have hEpsₑ : EpsOn 0 := ⟨True.intro⟩
  intros w T0 rest el t1 t2 ta tb ce k1 k2 k3
  intros k4 k5 k6
  intro hT0
  intro m0
  intro m1
  intro m3
  intro m4
  intro m5
  intro nd
  (intros dp un gd cn cs a ccd cl outer A₀ base h₀ L m s p9 loose mean mg mb Q E; intro B F X0 N Tp hk9 hd hu ret)
  k_extra "MY enter"
  (intros g L' h'; intro FG F' N' B' X' T')
  try dsimp only
  try k_fold
  k_steps
  unfold Halt
  rename (Fr _ _ _ _) => F1
  rename (News _ _ _ _) => N1
  refine MSpec.use (new_root_of w T0 rest nd (by rw [hT0]; simp)) B' F1 X' N1 T' rfl (by (try dsimp only [ktrTop, Around.deeper]); (k_extra "MY om")) (by (try dsimp only [ktrTop, Around.deeper]); (k_extra "MY om")) ?_
  ((intros r news' h2 tk2; intro F2 N2); (intro hₜ3; (injection hₜ3 with nr hₜ1; (injection hₜ1 with e1 hₜ2; (injection hₜ2 with tr hₜ3; (refine And.elim ?_ (hₜ3); (try clear hₜ3); intro hₜ4 hₜ5; rcases hₜ4 with rfl; (injection hₜ5 with hr hₜ6; (refine And.elim ?_ (hₜ6); (try clear hₜ6); intro hₜ7 nd1; rcases hₜ7 with rfl))))))))
  have hb1 : (T0.more e1 nr).b.t = T0.b.t := rfl
  have hm1 : (T0.more e1 nr).ns = [nr] := by unfold PT.more; rw [hT0]; rfl
  have hl0 : T0.ns.length = 0 := by rw [hT0]; rfl
  (replace F2 := F2; rw [← hb1] at F2)
  (have hₜ9 : ∃ T1, T1 = T0.more e1 nr := (⟨_, rfl⟩); (injection hₜ9 with T1 hT1))
  (replace F2 := F2; replace N2 := N2; replace nd1 := nd1; replace hm1 := hm1; replace hb1 := hb1; rw [← hT1] at F2 N2 nd1 hm1 hb1)
  rw [hl0]
  clear hT1 F1 N1 nd
  k_steps
  unfold Halt
  rename (Fr _ _ _ _) => F3
  rename (News _ _ _ _) => N3
  (injection (map_of F3) with M hM)
  refine for_list (vs := [.ref t1, .ref t2]) (fun i m' news' => ∃ hv : Value, (∃ u : Str → Option Value, m' = fun y => if y = Str.ofString "here" then some hv else if ([Str.ofString "event", Str.ofString "word"] : List Str).contains y = true then u y else M y) ∧
    ∃ T' : PT, news' = T'.objs w.params ++ rest ∧ ND (T'.objs w.params ++ rest) ∧ T'.b.t = T1.b.t ∧ ((i = 0 ∧ hv = .int ((0 : Nat) : Int) tr ∧ T'.ns = [nr]) ∨ (i = 1 ∧ ∃ t q1, hv = .int ((1 : Nat) : Int) t ∧ LangB T' tr q1) ∨ (i = 2 ∧ hv = .int ((0 : Nat) : Int) tr ∧ ∃ q1, LangB T' tr q1)))
    (by exact rfl) F3 N3 (fun _ _ _ h => by obtain ⟨_, _, T', rfl, _⟩ := h; exact .inl (List.mem_append_right _ m0)) ⟨_, mixL rfl (fun y e1 e2 => by rw [hM]), T1, rfl, nd1, rfl, .inl ⟨rfl, rfl, hm1⟩⟩ ?_ ?_
  · clear F3 N3
    ((intros i v m₁ news₁ h tk9 I oI; intro hv); (intro hₜ1; (injection hₜ1 with hv9 hₜ1; (refine And.elim ?_ (hₜ1); (try clear hₜ1); intro hₜ2 hₜ3; (injection hₜ2 with u2 hₜ4; rcases hₜ4 with rfl); (injection hₜ3 with T hₜ5; (refine And.elim ?_ (hₜ5); (try clear hₜ5); intro hₜ6 hₜ7; rcases hₜ6 with rfl; (injection hₜ7 with nd5 hₜ8; (injection hₜ8 with hx5 hc))))))); intro ap F5 N5)
    subst hM
    have nd6 := nd_ne (o := oI) ap nd5
    have N6 := News.pm N5 (perm1 _ _ _)
    (replace F5 := F5; rw [← hx5] at F5)
    clear N5
    ((rcases hc with hᵤ1 | hᵤ2 | hᵤ3) <;> (first | ((fail_if_success (fail_if_success clear hᵤ1)); (refine And.elim ?_ (hᵤ1); (try clear hᵤ1); intro hₜ1 hₜ2; rcases hₜ1 with rfl; (refine And.elim ?_ (hₜ2); (try clear hₜ2); intro hₜ3 hT; rcases hₜ3 with rfl))) | ((fail_if_success (fail_if_success clear hᵤ2)); (refine And.elim ?_ (hᵤ2); (try clear hᵤ2); intro hₜ1 hₜ2; rcases hₜ1 with rfl; (injection hₜ2 with t9 hₜ3; (injection hₜ3 with q1 hₜ4; (refine And.elim ?_ (hₜ4); (try clear hₜ4); intro hₜ5 lb; rcases hₜ5 with rfl))))) | ((fail_if_success (fail_if_success clear hᵤ3)); (refine And.elim ?_ (hᵤ3); (try clear hᵤ3); intro hₜ1 hₜ2; rcases hₜ1 with rfl; rcases hₜ2 with _))))
    · obtain rfl : Value.ref t1 = v := by simpa using hv
      k_steps
      unfold Halt
      rename (Fr _ _ _ _) => F7
      rename (News _ _ _ _) => N7
      refine MSpec.use (add_start_of w T ((I, oI) :: rest) nr tr _ _ _ ta tb hT hr (.tail _ m3) (.tail _ m4) (nd6.perm (perm1 _ _ _))) B' F7 X' N7 T' rfl (by (try dsimp only [ktrTop, Around.deeper]); (k_extra "MY om")) (by (try dsimp only [ktrTop, Around.deeper]); (k_extra "MY om")) ?_
      ((intros r9 news' h8 tk8; intro F8 N8); (intro hₜ3; (injection hₜ3 with T2 hₜ1; (injection hₜ1 with q1 hₜ2; (injection hₜ2 with t9 hₜ3; (refine And.elim ?_ (hₜ3); (try clear hₜ3); intro hₜ4 hₜ5; rcases hₜ4 with rfl; (injection hₜ5 with hx2 hₜ6; (injection hₜ6 with lb hₜ7; (refine And.elim ?_ (hₜ7); (try clear hₜ7); intro hₜ8 nd8; rcases hₜ8 with rfl)))))))))
      have nd9 := nd8.perm (perm1 _ _ _).symm
      (replace F8 := F8; rw [← hx2] at F8)
      k_steps
      rename (Fr _ _ _ _) => F9
      rename (News _ _ _ _) => N9
      (replace F9 := F9; rw [hx2, hx5] at F9)
      refine TurnQ.intro F9 (News.pm N9 (perm1 _ _ _).symm) (nd_head nd9) ⟨_, mixL rfl (fun y e1 e2 => ?_), _, rfl, nd_tail nd9, hx2.trans hx5, .inr (.inl ⟨by first | exact rfl | trivial, _, _, rfl, lb⟩)⟩
      · have ne : ∀ a : Str, ([Str.ofString "event", Str.ofString "word"] : List Str).contains a = true → y ≠ a := fun a ha e => by (replace e2 := e2; rw [e, ha] at e2); cases e2
        have a1 := ne (Str.ofString "event") (by decide +kernel)
        have a2 := ne (Str.ofString "word") (by decide +kernel)
        simp only [if_neg e1, if_neg a1, if_neg a2, e2]
        simp
    · obtain rfl : Value.ref t2 = v := by simpa using hv
      (injection (id lb) with ty hₜ1; (injection hₜ1 with n0 hₜ2; (injection hₜ2 with n1 hₜ3; (injection hₜ3 with na hₜ4; (injection hₜ4 with t2' hₜ5; (injection hₜ5 with a0 hₜ6; (injection hₜ6 with a1 hₜ7; (injection hₜ7 with a2 hₜ8; (injection hₜ8 with b0 hₜ9; (injection hₜ9 with b1 hₜ10; (injection hₜ10 with b2 hₜ11; (injection hₜ11 with b3 hₜ12; (injection hₜ12 with b4 hₜ13; (injection hₜ13 with b5 hₜ14; (injection hₜ14 with b6 hₜ15; (injection hₜ15 with b7 hₜ16; (injection hₜ16 with c0 hₜ17; (injection hₜ17 with c1 hₜ18; (injection hₜ18 with c2 hₜ19; (injection hₜ19 with c3 c4))))))))))))))))))))
      have hty := ty.room (by (k_extra "MY om"))
      have htl := ty.1
      k_steps
      unfold Halt
      rename (Fr _ _ _ _) => F7
      rename (News _ _ _ _) => N7
      refine RSpec.use2 (left_end_of w T n1 _ _ _ _ b0 b2 b4) B' F7 X' N7 T' rfl (by (try dsimp only [ktrTop, Around.deeper]); (k_extra "MY om")) (by (try dsimp only [ktrTop, Around.deeper]); (k_extra "MY om")) (at_mem N7 (by intro q hq; simp only [List.mem_append, List.mem_cons, hq, true_or, or_true]) (by (k_extra "MY om")) hty) ?_
      ((intros r9 new9 h9 tk9; intro F9 N9 S9 O9); (intro hₜ20; (refine And.elim ?_ (hₜ20); (try clear hₜ20); intro hₜ1 hₜ2; rcases hₜ1 with rfl; rcases hₜ2 with rfl)))
      simp only [List.nil_append] at N9
      k_steps
      rename (Fr _ _ _ _) => F10
      rename (News _ _ _ _) => N10
      (replace F10 := F10; rw [hx5] at F10)
      refine TurnQ.intro F10 (News.pm N10 (perm1 _ _ _).symm) (nd_head nd6) ⟨_, mixL rfl (fun y e1 e2 => ?_), _, rfl, nd5, hx5, .inr (.inr ⟨by first | exact rfl | trivial, rfl, _, lb⟩)⟩
      · have ne : ∀ a : Str, ([Str.ofString "event", Str.ofString "word"] : List Str).contains a = true → y ≠ a := fun a ha e => by (replace e2 := e2; rw [e, ha] at e2); cases e2
        have a1 := ne (Str.ofString "event") (by decide +kernel)
        have a2 := ne (Str.ofString "word") (by decide +kernel)
        simp only [if_neg e1, if_neg a1, if_neg a2, e2]
        simp
    · simp at hv
  · clear F3 N3
    ((intros m₁ news₁ h5 tk5); (intro hₜ3; (injection hₜ3 with hv9 hₜ1; (refine And.elim ?_ (hₜ1); (try clear hₜ1); intro hₜ2 hₜ3; (injection hₜ2 with u2 hₜ4; rcases hₜ4 with rfl); (injection hₜ3 with T hₜ5; (refine And.elim ?_ (hₜ5); (try clear hₜ5); intro hₜ6 hₜ7; rcases hₜ6 with rfl; (injection hₜ7 with nd5 hₜ8; (injection hₜ8 with hx5 hc))))))); intro F5 N5)
    subst hM
    ((rcases hc with hᵤ4 | hᵤ5 | hᵤ6) <;> (first | ((fail_if_success (fail_if_success clear hᵤ4)); (injection hᵤ4 with h0 hₜ1; rcases hₜ1 with _)) | ((fail_if_success (fail_if_success clear hᵤ5)); (injection hᵤ5 with h0 hₜ1; rcases hₜ1 with _)) | ((fail_if_success (fail_if_success clear hᵤ6)); (refine And.elim ?_ (hᵤ6); (try clear hᵤ6); intro hₜ1 hₜ2; rcases hₜ1 with _; (refine And.elim ?_ (hₜ2); (try clear hₜ2); intro hₜ3 hₜ4; rcases hₜ3 with rfl; (injection hₜ4 with q1 lb))))))
    · cases h0
    · cases h0
    · k_steps
      exact ret _ _ _ _ (by assumption) (by assumption) ⟨T, tr, q1, rfl, hx5.trans hb1, lb, rfl, nd5⟩
set_option linter.unusedVariables false
theorem safes_en : Safes (Str.ofString "en") := by
  have e : (Str.ofString "en").cps.toList = [101, 110] := by decide +kernel
  refine ⟨by decide +kernel, fun c hc => ?_, by rw [e]; decide⟩
  rw [e] at hc
  rcases List.mem_cons.mp hc with rfl | hc
  · refine ⟨by decide +kernel, by decide +kernel, by decide +kernel, by decide +kernel, by decide +kernel, ?_⟩ <;> decide +kernel
  · rw [List.mem_singleton.mp hc]
    refine ⟨by decide +kernel, by decide +kernel, by decide +kernel, by decide +kernel, by decide +kernel, ?_⟩ <;> decide +kernel
def KL (j : Nat) : Wt := if j = 2 then .xml else .no
theorem lang_write (w : World) {T : PT} {tr q1 : Tok} (h : LangB T tr q1) (tk0 : Tok) :
    RSpec w 585 20 [.ref T.b.t, .int ((0 : Nat) : Int) tk0] (fun h => T.At w.params h) (fun _ r new => ∃ t', r = .str (Str.ofString "<a xml:lang=\"en\"/>") t') := by
  obtain ⟨ty, n0, n1, na, t2, a0, a1, a2, b0, b1, b2, b3, b4, b5, b6, b7, c0, c1, c2, c3, c4⟩ := h
  have W1 : Wants w T 1 n1 none KL := ⟨b0, by rw [b2]; exact prefix_of_5 w, by rw [b3]; rfl, by rw [b7]; simp, fun d hd => by
    rw [b7] at hd
    rw [List.mem_singleton.mp hd]
    exact ⟨na, c0, by rw [c2]; exact prefix_of_6 w, by rw [c3]; rfl, fun h => nomatch h⟩, .inl ⟨b6, rfl⟩, fun j u hj => by
    unfold KL at hj
    split at hj <;> cases hj⟩
  have G1 : TagOk T n1 := ⟨by rw [b2]; unfold Len; decide +kernel, by rw [b7]; simp, fun d hd => by
    rw [b7] at hd
    rw [List.mem_singleton.mp hd]
    exact ⟨na, c0, by rw [c2]; unfold Len; decide +kernel, by rw [c4]; exact safes_en⟩⟩
  have hf : dfold (dstart none none) (wl KL 1 n1) = some (dstart none none) := by unfold wl; rw [b7]; rfl
  have S := write_of w T tk0 n0 n1 (1, q1) none KL (dstart none none) none a0 a1 a2 b0 b1 W1 G1 hf (fun u h => by cases h) b5
  have tx : ∀ fs, ResOk T KL n1 (dstart none none).2.2 none fs → Txt.join "" fs = Str.ofString "<a xml:lang=\"en\"/>" := by
    rintro fs (⟨_, rfl⟩ | ⟨_, _, _, _, h, _⟩)
    · rw [join_cons, join_nil, s_nil]
      unfold tagT
      rw [b7]
      show (match T.ns[2]? with | some na => tag1 (tagP none (Str.ofString "<" ++ n1.name)) na.name na.value | none => tagP none (Str.ofString "<" ++ n1.name)) ++ Str.ofString "/>" = Str.ofString "<a xml:lang=\"en\"/>"
      rw [c0, b2]
      dsimp only
      rw [c2, c4]
      decide +kernel
    · cases h
  intro dp un gd cn cs a ccd cl outer A₀ base h₀ L m news s p loose mean mg mb Q E B F X N Tp hk9 hd hu pre ret
  refine S dp un gd cn cs a ccd cl outer A₀ base h₀ L m news s p loose mean mg mb Q E B F X N Tp hk9 hd hu pre (fun r new h' tk' F' N' S' O' ⟨fs, t', hres, hr⟩ => ret r new h' tk' F' N' S' O' ⟨t', by rw [hr, tx fs hres]⟩) ?_
  rintro e h' tk' ⟨_, _, _, h, _⟩ _
  cases h
set_option linter.unusedVariables false
theorem uok_u : UOk (Str.ofString "u") := ⟨⟨by decide +kernel, by decide +kernel, by decide +kernel, by decide +kernel, by decide +kernel, by decide +kernel⟩, by decide +kernel, by decide +kernel⟩
theorem uok_v : UOk (Str.ofString "v") := ⟨⟨by decide +kernel, by decide +kernel, by decide +kernel, by decide +kernel, by decide +kernel, by decide +kernel⟩, by decide +kernel, by decide +kernel⟩
theorem safes_1 : Safes (Str.ofString "1") := Safe.s ⟨by decide +kernel, by decide +kernel, by decide +kernel, by decide +kernel, by decide +kernel, by decide +kernel⟩
theorem HSpec.mono {w : World} {f : Addr} {dep : Nat} {vs : List Value} {pre pre' : Heap → Prop} (S : HSpec w f dep vs pre) (h : ∀ g, pre' g → pre g) : HSpec w f dep vs pre' :=
  fun dp un gd cn cs a ccd cl A₀ base h₀ L m news s p loose mean mg mb Q E B F X T N hk hd hu hp ret => S dp un gd cn cs a ccd cl A₀ base h₀ L m news s p loose mean mg mb Q E B F X T N hk hd hu (h _ hp) ret
theorem held_one (w : World) (nm uri : Str) (kn : Wt) (hn : NameOk nm uri kn) (to tn tu k1 k2 k3 : Tok) (na rl a : Addr) (ce : Nat) :
    HSpec w 628 40 [.str (Str.ofString "v") to, .none, .ref na, .ref rl] (fun h => h.get? na = some (tupObj [.str nm tn, .str uri tu]) ∧ h.get? rl = some (listOf #[.ref a] ce) ∧ h.get? a = some (tupObj [.str (Str.ofString "x") k1, .str (Str.ofString "u") k2, .str (Str.ofString "1") k3])) := by
  have S := law_is_held_of w (some (Str.ofString "v")) none to 0 na rl nm uri tn tu kn [⟨a, Str.ofString "x", k1, Str.ofString "u", k2, Str.ofString "1", k3⟩] ce hn (fun r hr => by
    rw [List.mem_singleton.mp hr]
    exact ⟨.inl rfl, uok_u, safes_1⟩) (by simp) (fun i j x y h1 h2 _ => by
    have a1 := (List.getElem?_eq_some_iff.mp h1).1
    have a2 := (List.getElem?_eq_some_iff.mp h2).1
    simp at a1 a2
    (k_extra "MY om")) (fun u h => by cases h; exact uok_v) (fun u h => by cases h)
  exact HSpec.mono S fun g ⟨h1, h2, h3⟩ => ⟨h1, h2, fun r hr => by rw [List.mem_singleton.mp hr]; exact h3⟩
theorem ints_len9 {vs : List Value} {ns : List Int} (h : IntsAre vs ns) : vs.length = ns.length := by
  induction h with
  | nil => rfl
  | cons n t h ih => exact congrArg (· + 1) ih
theorem ints_all9 {vs : List Value} {ns : List Int} (h : IntsAre vs ns) : ∀ v ∈ vs, ∃ (i : Int) (t : Tok), v = .int i t := by
  induction h with
  | nil => exact fun v hv => absurd hv List.not_mem_nil
  | cons n t h ih => exact fun v hv => (List.mem_cons.mp hv).elim (fun e => ⟨n, t, e⟩) (ih v)
theorem nd_pair {g hp : Heap} {L : Addr} {a b : Addr} {o o' : Obj} (N : News g L hp [(a, o), (b, o')]) (h : @Ne Nat b a) : ND [(a, o), (b, o')] := List.nodup_cons.mpr ⟨fun hm => h (List.mem_singleton.mp hm).symm, List.nodup_cons.mpr ⟨(fun h => nomatch h), List.nodup_nil⟩⟩
set_option linter.unusedVariables false
def robjs (rs : List R3) : List (Addr × Obj) := rs.map fun r => (r.a, r.ob)
theorem robjs_snoc (rs : List R3) (r : R3) : robjs (rs ++ [r]) = robjs rs ++ [(r.a, r.ob)] := by simp [robjs]
theorem pick_o {r : Value} {t1 t2 : Tok} (h : r ∈ [Value.none, .str (Str.ofString "u") t1, .str (Str.ofString "v") t2]) : ∃ o t, r = oV o t ∧ ∀ u, o = some u → UOk u := by
  simp only [List.mem_cons, List.not_mem_nil, or_false] at h
  rcases h with rfl | rfl | rfl
  · exact ⟨none, 0, rfl, fun u h => by cases h⟩
  · exact ⟨some _, t1, rfl, fun u h => by cases h; exact uok_u⟩
  · exact ⟨some _, t2, rfl, fun u h => by cases h; exact uok_v⟩
theorem pick_o2 {r : Value} {t1 t2 : Tok} (h : r ∈ [Value.none, Value.none, .str (Str.ofString "u") t1, .str (Str.ofString "v") t2]) : ∃ o t, r = oV o t ∧ ∀ u, o = some u → UOk u :=
  pick_o ((List.mem_cons.mp h).elim (fun e => e ▸ .head _) fun h => h)
theorem pick_u {r : Value} {t1 t2 t3 : Tok} (h : r ∈ [Value.str (Str.ofString "u") t1, .str (Str.ofString "u") t2, .str (Str.ofString "v") t3]) : ∃ u t, r = .str u t ∧ UOk u := by
  simp only [List.mem_cons, List.not_mem_nil, or_false] at h
  rcases h with rfl | rfl | rfl
  · exact ⟨_, _, rfl, uok_u⟩
  · exact ⟨_, _, rfl, uok_u⟩
  · exact ⟨_, _, rfl, uok_v⟩
theorem pick_n {r : Value} {a1 a2 a3 : Addr} {S : Nat} {t1 t2 t3 t4 t5 t6 : Tok} {news : List (Addr × Obj)} (h : r ∈ [Value.ref a1, .ref a2, .ref a3]) (h1 : (a1, tupObj [.str (Str.ofString "e") t1, .str (Str.ofString "") t2]) ∈ news) (h2 : (a2, tupObj [.str (Str.ofString "p:e") t3, .str (Str.ofString "u") t4]) ∈ news) (h3 : (a3, tupObj [.str (Str.ofString "p:e") t5, .str (Str.ofString "v") t6]) ∈ news)
    (hS : ∀ p ∈ news, p.1 ≠ S) :
    ∃ (na : Addr) (nm uri : Str) (kn : Wt) (tn tu : Tok), r = .ref na ∧ (na, tupObj [.str nm tn, .str uri tu]) ∈ news ∧ NameOk nm uri kn ∧ @Ne Nat na S := by
  simp only [List.mem_cons, List.not_mem_nil, or_false] at h
  rcases h with rfl | rfl | rfl
  · exact ⟨a1, _, _, .no, _, _, rfl, h1, .inl ⟨rfl, rfl, rfl⟩, hS _ h1⟩
  · exact ⟨a2, _, _, .pre _, _, _, rfl, h2, .inr ⟨rfl, uok_u, rfl⟩, hS _ h2⟩
  · exact ⟨a3, _, _, .pre _, _, _, rfl, h3, .inr ⟨rfl, uok_v, rfl⟩, hS _ h3⟩
/-- a ledger that keeps away from S -/
theorem apart6 {g hp : Heap} {L : Addr} {a1 a2 a3 a4 a5 a6 S : Nat} {oS o1 o2 o3 o4 o5 o6 : Obj} (N : News g L hp ((S, oS) :: [(a1, o1), (a2, o2), (a3, o3), (a4, o4), (a5, o5), (a6, o6)])) (h1 : S < a5) (h2 : a5 < a4) (h3 : a4 < a3) (h4 : a3 < a2) (h5 : a2 < a1) (h6 : a6 ≠ S) : ∀ p ∈ ([(a1, o1), (a2, o2), (a3, o3), (a4, o4), (a5, o5), (a6, o6)] : List (Addr × Obj)), p.1 ≠ S := by
  intro p hp
  simp only [List.mem_cons, List.not_mem_nil, or_false] at hp
  rcases hp with rfl | rfl | rfl | rfl | rfl | rfl <;> first | exact h6 | (refine Nat.ne_of_gt ?_; show S < _; (k_extra "MY om"))
/-- the end of a row's making -/
def RowEnd (h₀ : Heap) (L : Addr) (m : Str → Option Value) (s₁ : Shared) (C I D S : Addr) (oC oI oD : Obj) (R rest : List (Addr × Obj)) (lx : Str) (y : Value) (s₃ : Shared) : Prop :=
  ∃ h' tk' r a b ta tb e, y = .ref r.a ∧ s₃ = { s₁ with heap := h', toks := tk' } ∧ Fr h₀ L h' m ∧ News h₀ L h' ((r.a, R3.ob r) :: (C, oC) :: (I, oI) :: (D, oD) :: (S, srcO a b ta tb e) :: (R ++ rest)) ∧
        (∀ p ∈ ((C, oC) :: (I, oI) :: (D, oD) :: (S, srcO a b ta tb e) :: (R ++ rest) : List (Addr × Obj)), p.1 < r.a) ∧ r.l = lx ∧ ROk r
section
variable {w : World} {A : Around} {h₀ : Heap} {L : Addr} {m : Str → Option Value} {env : Env}
theorem comp_rows : ∀ {w : World} {A : Around} {h₀ : Heap} {L : Addr} {m : Str → Option Value} {env : Env} {scope : Scope} {cl : List (Str × Addr)} {x : Str} {elt : PySem.Expr} {done : Nat → Addr → List Value → Nat → List (Addr × Obj) → (Nat → List Value → List (Addr × Obj) → Prop) → Shared → Heap → Nat → Prop} {s₁ : Shared} {S l c : Addr} {a b : Int} {ta tb : Tok} {e : Nat} {vs : List Value} {names : List Str} {rest : List (Addr × Obj)} (F : Fr h₀ L s₁.heap m) (N : News h₀ L s₁.heap ((S, srcO a b ta tb e) :: rest)) (hm : (l, listOf vs.toArray c) ∈ rest) (sn : StrsAre vs names) (hz : vs.length ≤ 1000) (turn : ∀ (lx : Str) (tlx : Tok) C I D oC oI oD m₂ h tk a b ta tb e R E', lx ∈ names → @Ne Nat S C → @Ne Nat S I → @Ne Nat S D → (∀ p ∈ R, p.1 ≠ S) → Fr h₀ L h m → News h₀ L h ((C, oC) :: (I, oI) :: (D, oD) :: (S, srcO a b ta tb e) :: (R ++ rest)) → LCg.NsObj oC m₂ → m₂ x = some (.str lx tlx) →
      wpAny (model PG w) A (eval elt (compEnvC scope cl C env)) (RowEnd h₀ L m s₁ C I D S oC oI oD R rest lx) E' { s₁ with heap := h, toks := tk }) (hln : ∀ x ∈ names, x = Str.ofString "x" ∨ x = Str.ofString "y") (fin : ∀ J D rs k h' tk a b ta tb e, rs.map (·.l) = names → (∀ r ∈ rs, ROk r) → News h₀ L h' ((D, listOf (rs.map fun r => Value.ref r.a).toArray k) :: (S, srcO a b ta tb e) :: (robjs rs ++ rest)) → done vs.length D (rs.map fun r => Value.ref r.a) k ((S, srcO a b ta tb e) :: (robjs rs ++ rest)) J s₁ h' tk),
    CompAtL PG w A h₀ L m env scope cl x elt done (.ref l) s₁ := by
  have hEpsₑ : EpsOn 0 := ⟨True.intro⟩
  intros w A h₀ L m env scope cl x elt done s₁ S l c a b ta tb e vs names rest
  intro F
  intro N
  intro hm
  intro sn
  intro hz
  intro turn
  intro hln
  intro fin
  refine ⟨l, vs, c, (S, srcO a b ta tb e) :: rest, fun i ys news' => ∃ (rs : List R3) (a b : Int) (ta tb : Tok) (e : Nat), rs.map (·.l) = names.take i ∧ (∀ r ∈ rs, ROk r) ∧ ys = (rs.map fun r => Value.ref r.a) ∧ news' = (S, srcO a b ta tb e) :: (robjs rs ++ rest) ∧ ∀ p ∈ robjs rs, p.1 ≠ S, rfl, ?_, F, N, ?_, ?_, ?_, ?_⟩
  · rw [PySem.sizeLine_eq]; (k_extra "MY om")
  · ((intros i ys news'); (intro hₜ5; (injection hₜ5 with rs hₜ1; (injection hₜ1 with a hₜ2; (injection hₜ2 with b hₜ3; (injection hₜ3 with ta hₜ4; (injection hₜ4 with tb hₜ5; (injection hₜ5 with e hₜ6; (refine And.elim ?_ (hₜ6); (try clear hₜ6); intro hₜ7 hₜ8; rcases hₜ7 with _; (refine And.elim ?_ (hₜ8); (try clear hₜ8); intro hₜ9 hₜ10; rcases hₜ9 with _; (refine And.elim ?_ (hₜ10); (try clear hₜ10); intro hₜ11 hₜ12; rcases hₜ11 with _; (refine And.elim ?_ (hₜ12); (try clear hₜ12); intro hₜ13 hₜ14; rcases hₜ13 with rfl; rcases hₜ14 with _))))))))))))
    exact .inl (List.mem_cons_of_mem _ (List.mem_append_right _ hm))
  · exact ⟨[], a, b, ta, tb, e, rfl, (fun r h => nomatch h), rfl, rfl, fun p h => nomatch h⟩
  · ((intros C I D i v ys news₁ h tk oC oI oD; intros m₂ E' blk; intro hv); (intro hₜ15; (injection hₜ15 with rs hₜ1; (injection hₜ1 with a hₜ2; (injection hₜ2 with b hₜ3; (injection hₜ3 with ta hₜ4; (injection hₜ4 with tb hₜ5; (injection hₜ5 with e hₜ6; (injection hₜ6 with hrs hₜ7; (injection hₜ7 with hok hₜ8; (refine And.elim ?_ (hₜ8); (try clear hₜ8); intro hₜ9 hₜ10; rcases hₜ9 with rfl; (refine And.elim ?_ (hₜ10); (try clear hₜ10); intro hₜ11 hR; rcases hₜ11 with rfl))))))))))); intro ap F' N' hC hx)
    (injection (sn.item i v hv) with lx hₜ1; (injection hₜ1 with tlx hₜ2; (refine And.elim ?_ (hₜ2); (try clear hₜ2); intro hₜ3 hlx; rcases hₜ3 with rfl)))
    have apS := ap _ (List.mem_cons_self ..)
    refine wpAny_mono (turn lx tlx C I D oC oI oD m₂ h tk a b ta tb e (robjs rs) E' (List.mem_of_getElem? hlx) apS.1 apS.2.1 apS.2.2 hR F' N' hC hx) ?_ fun _ _ e => e
    (intros y s₃)
    ((intro hₜ5; (injection hₜ5 with h' hₜ1; (injection hₜ1 with tk' hₜ2; (injection hₜ2 with r hₜ3; (injection hₜ3 with a' hₜ4; (injection hₜ4 with b' hₜ5; (injection hₜ5 with ta' hₜ6; (injection hₜ6 with tb' hₜ7; (injection hₜ7 with e' hₜ8; (refine And.elim ?_ (hₜ8); (try clear hₜ8); intro hₜ9 hₜ10; rcases hₜ9 with rfl; (refine And.elim ?_ (hₜ10); (try clear hₜ10); intro hₜ11 hₜ12; rcases hₜ11 with rfl; (injection hₜ12 with F'' hₜ13; (injection hₜ13 with N'' hₜ14; (injection hₜ14 with hlt hₜ15; (injection hₜ15 with hrl hro))))))))))))))))
    have hn5 : ∀ p ∈ (S, srcO a' b' ta' tb' e') :: (robjs rs ++ rest), p.1 < r.a := fun p hp => hlt p (.tail _ (.tail _ (.tail _ hp)))
    refine ⟨h', tk', (S, srcO a' b' ta' tb' e') :: (robjs (rs ++ [r]) ++ rest), rfl, F'', News.of_sub N'' fun q hq => ?_, fun p hp => ?_, rs ++ [r], a', b', ta', tb', e', ?_, fun r' hr' => ?_, by simp, rfl, fun p hp => ?_⟩
    · simp only [robjs_snoc, List.mem_cons, List.mem_append, List.append_assoc, List.not_mem_nil, or_false] at hq ⊢
      rcases hq with h | h | h | h | h | h | h <;> simp [h]
    · simp only [robjs_snoc, List.mem_cons, List.mem_append, List.append_assoc, List.not_mem_nil, or_false] at hp
      rcases hp with h | h | h | h
      · rw [h]; exact apS
      · exact ap p (.tail _ (List.mem_append_left _ h))
      · rw [h]
        exact ⟨(Nat.ne_of_lt (hlt (C, oC) (.head _))).symm, (Nat.ne_of_lt (hlt (I, oI) (.tail _ (.head _)))).symm, (Nat.ne_of_lt (hlt (D, oD) (.tail _ (.tail _ (.head _))))).symm⟩
      · exact ap p (.tail _ (List.mem_append_right _ h))
    · rw [List.map_append, hrs, List.take_add_one, hlx, ← hrl]; rfl
    · rcases List.mem_append.mp hr' with h | h
      · exact hok r' h
      · rw [List.mem_singleton.mp h]; exact hro
    · (replace hp := hp; rw [robjs_snoc] at hp)
      rcases List.mem_append.mp hp with h | h
      · exact hR p h
      · rw [List.mem_singleton.mp h]
        exact (Nat.ne_of_lt (hn5 _ (.head _))).symm
  · ((intros D ys k news' h' tk; intro hD0 hne); (intro hₜ16; (injection hₜ16 with rs hₜ1; (injection hₜ1 with a hₜ2; (injection hₜ2 with b hₜ3; (injection hₜ3 with ta hₜ4; (injection hₜ4 with tb hₜ5; (injection hₜ5 with e hₜ6; (injection hₜ6 with hrs hₜ7; (injection hₜ7 with hok hₜ8; (refine And.elim ?_ (hₜ8); (try clear hₜ8); intro hₜ9 hₜ10; rcases hₜ9 with rfl; (refine And.elim ?_ (hₜ10); (try clear hₜ10); intro hₜ11 hR; rcases hₜ11 with rfl))))))))))); intro hlen N')
    have hl9 : vs.length = names.length := strs_len sn
    (replace hrs := hrs; rw [hl9, List.take_length] at hrs)
    exact fin _ D rs k h' tk a b ta tb e hrs hok N'
end
theorem slice_upn {w : World} {A : Around} {E : Value → Shared → Prop} {h₀ : Heap} {L : Addr} {m : Str → Option Value} {news : List (Addr × Obj)} {l : Addr} {vs : List Value} {n : Nat} {g : Heap} {vk : Value} {value slice : PySem.Expr} {ops : List Value} {Q : Value → Shared → Prop} {gs : Array GenState} {dr : _} {tk : Nat} {os : _} (F : Fr h₀ L g m) (N : News h₀ L g news) (hl : g.IsList l vs.toArray) (pk : IsPart vk (some (n : Int)))
    (h : ∀ D h', Fr h₀ L h' m → News h₀ L h' ((D, listOf (vs.take n).toArray 0) :: news) → (∀ p ∈ news, p.1 < D) → Q (.ref D) { heap := h', gens := gs, drawn := dr, toks := tk, os := os })
    (hs : subscripted slice false (.ref l) (.ref g.objs.size) = operate ops (getItem (.ref l) (.ref g.objs.size))) (hz : vs.length ≤ sizeLine) :
    wpAny (model PG w) A (subscriptTail value slice (.ref l) (.ref g.objs.size)) Q E { heap := g.push { cls := .type "slice", data := .fields #[.none, vk, .none] }, gens := gs, drawn := dr, toks := tk, os := os } := by
  refine kba_turn (value' := PySem.Expr.Name (PySem.Str.ofString "_") ⟨0, 0, 0, 0⟩) (fun _ => rfl) ?_
  refine slice_list3 (s := { heap := g, gens := gs, drawn := dr, toks := tk, os := os }) F N hl .none pk .none (by decide) ?_ hs (fun _ => rfl) (by simpa using hz)
  intro h' F' N'
  have e : slicePick vs.toArray none (some (n : Int)) none = (vs.take n).toArray := slicePick_upto' vs.toArray n
  (replace N' := N'; rw [e] at N')
  exact h _ h' F' N' fun p hp => Nat.lt_succ_of_lt (Heap.lt_size (N p hp).1)
theorem strs_take {vs : List Value} {l : List Str} (n : Nat) (h : StrsAre vs l) : StrsAre (vs.take n) (l.take n) := by
  induction h generalizing n with
  | nil => rw [List.take_nil, List.take_nil]; exact .nil
  | cons x t _ ih => exact Nat.rec (motive := fun n => StrsAre ((Value.str x t :: _).take n) ((x :: _).take n)) .nil (fun n _ => .cons x t (ih n)) n
theorem apart3 {g hp : Heap} {L : Addr} {a1 a2 a3 S : Nat} {oS o1 o2 o3 : Obj} (N : News g L hp ((S, oS) :: [(a1, o1), (a2, o2), (a3, o3)])) (h1 : S < a1) (h2 : a2 ≠ S) (h3 : a3 ≠ S) : ∀ p ∈ ([(a1, o1), (a2, o2), (a3, o3)] : List (Addr × Obj)), p.1 ≠ S := by
  intro p hp
  simp only [List.mem_cons, List.not_mem_nil, or_false] at hp
  rcases hp with rfl | rfl | rfl <;> first | exact h2 | exact h3 | (refine Nat.ne_of_gt ?_; show S < _; (k_extra "MY om"))
theorem apart4 {g hp : Heap} {L : Addr} {a1 a2 a3 a4 S : Nat} {oS o1 o2 o3 o4 : Obj} (N : News g L hp ((S, oS) :: [(a1, o1), (a2, o2), (a3, o3), (a4, o4)])) (h0 : S < a1) (h1 : S < a2) (h2 : a3 ≠ S) (h3 : a4 ≠ S) : ∀ p ∈ ([(a1, o1), (a2, o2), (a3, o3), (a4, o4)] : List (Addr × Obj)), p.1 ≠ S := by
  intro p hp
  simp only [List.mem_cons, List.not_mem_nil, or_false] at hp
  rcases hp with rfl | rfl | rfl | rfl <;> first | exact h2 | exact h3 | (refine Nat.ne_of_gt ?_; show S < _; (k_extra "MY om"))
theorem apartR {C I D S : Nat} {oC oI oD : Obj} {R rest : List (Addr × Obj)} (h1 : S ≠ C) (h2 : S ≠ I) (h3 : S ≠ D) (hR : ∀ p ∈ R, p.1 ≠ S) (hr : ∀ p ∈ rest, p.1 ≠ S) : ∀ p ∈ ((C, oC) :: (I, oI) :: (D, oD) :: (R ++ rest) : List (Addr × Obj)), p.1 ≠ S := by
  intro p hp
  simp only [List.mem_cons, List.mem_append] at hp
  rcases hp with rfl | rfl | rfl | h | h
  · exact h1.symm
  · exact h2.symm
  · exact h3.symm
  · exact hR p h
  · exact hr p h
theorem apartX {a S : Nat} {o : Obj} {l : List (Addr × Obj)} (h : S < a) (hr : ∀ p ∈ l, p.1 ≠ S) : ∀ p ∈ ((a, o) :: l : List (Addr × Obj)), p.1 ≠ S := by
  intro p hp
  rcases List.mem_cons.mp hp with rfl | hp
  · exact (Nat.ne_of_lt h).symm
  · exact hr p hp
theorem safes_digit {d : Int} (h0 : 0 ≤ d) (h9 : d < 9) : Safes (Str.ofString (toString d)) := by
  (injection (Int.eq_ofNat_of_zero_le h0) with n hₜ1; rcases hₜ1 with rfl)
  have h : n = 0 ∨ n = 1 ∨ n = 2 ∨ n = 3 ∨ n = 4 ∨ n = 5 ∨ n = 6 ∨ n = 7 ∨ n = 8 := (by decide : ∀ i : Fin 9, i.1 = 0 ∨ i.1 = 1 ∨ i.1 = 2 ∨ i.1 = 3 ∨ i.1 = 4 ∨ i.1 = 5 ∨ i.1 = 6 ∨ i.1 = 7 ∨ i.1 = 8) ⟨n, Int.ofNat_lt.mp h9⟩
  rcases h with rfl | rfl | rfl | rfl | rfl | rfl | rfl | rfl | rfl <;>
    exact Safe.s ⟨by decide +kernel, by decide +kernel, by decide +kernel, by decide +kernel, by decide +kernel, by decide +kernel⟩
theorem row_end {h₀ h' : Heap} {L : Addr} {m : Str → Option Value} {s₁ : Shared} {t C I D S : Addr} {oC oI oD : Obj} {R rest : List (Addr × Obj)} {lx u v : Str} {tlx tu tv tk' : Tok} {a b : Int} {ta tb : Tok} {e : Nat} (F : Fr h₀ L h' m)
    (N : News h₀ L h' ((t, tupObj [.str lx tlx, .str u tu, .str v tv]) :: (S, srcO a b ta tb e) :: (C, oC) :: (I, oI) :: (D, oD) :: (R ++ rest))) (hlt : AllLt t ((S, srcO a b ta tb e) :: (C, oC) :: (I, oI) :: (D, oD) :: (R ++ rest)))
    (hl : lx = Str.ofString "x" ∨ lx = Str.ofString "y") (hu : UOk u) (hv : Safes v) : RowEnd h₀ L m s₁ C I D S oC oI oD R rest lx (.ref t) { s₁ with heap := h', toks := tk' } := by
  have pm : ((S, srcO a b ta tb e) :: (C, oC) :: (I, oI) :: (D, oD) :: (R ++ rest)).Perm ((C, oC) :: (I, oI) :: (D, oD) :: (S, srcO a b ta tb e) :: (R ++ rest)) := List.perm_append_comm_assoc [(S, srcO a b ta tb e)] [(C, oC), (I, oI), (D, oD)] (R ++ rest)
  exact ⟨h', tk', ⟨t, lx, tlx, u, tu, v, tv⟩, a, b, ta, tb, e, rfl, rfl, F, News.pm N (pm.cons _), fun p hp => tb_ltOf hlt p (pm.mem_iff.mpr hp), rfl, ⟨hl, hu, hv⟩⟩
theorem rows_distinct {rs : List R3} {n : Nat} (h : rs.map (·.l) = [Str.ofString "x", Str.ofString "y"].take n) : rs.length ≤ 2 ∧ ∀ (i j : Nat) (a b : R3), rs[i]? = some a → rs[j]? = some b → a.l = b.l → i = j := by
  have hlen : rs.length ≤ 2 := by
    have := congrArg List.length h
    (replace this := this; rw [List.length_map, List.length_take] at this)
    simp at this; (k_extra "MY om")
  refine ⟨hlen, ?_⟩
  (intros i j a b; intro ha hb hab)
  have get : ∀ (i : Nat) (a : R3), rs[i]? = some a → [Str.ofString "x", Str.ofString "y"][i]? = some a.l := by
    (intros i a; intro ha)
    have h1 : (rs.map (·.l))[i]? = some a.l := by rw [List.getElem?_map, ha]; rfl
    (replace h1 := h1; rw [h] at h1)
    by_cases hin : i < n
    · rwa [List.getElem?_take_of_lt hin] at h1
    · (replace h1 := h1; rw [List.getElem?_eq_none (by rw [List.length_take]; (k_extra "MY om"))] at h1); cases h1
  have h1 := get i a ha
  have h2 := get j b hb
  (replace h1 := h1; rw [hab] at h1)
  have hne : Str.ofString "x" ≠ Str.ofString "y" := by decide +kernel
  match i, j, h1, h2 with
  | 0, 0, _, _ => rfl
  | 1, 1, _, _ => rfl
  | 0, 1, h1, h2 => exact absurd (Option.some.inj (h1.trans h2.symm)) hne
  | 1, 0, h1, h2 => exact absurd (Option.some.inj (h2.trans h1.symm)) hne
  | i + 2, _, h1, _ => simp at h1
  | _, j + 2, _, h2 => simp at h2
set_option linter.unusedVariables false
theorem words_68 : True := by
  k_with "OFF 67" => (skip)
  k_with "MY enter" => ((refine wpAny_call ?_; with_unfolding_all (refine' code_def ?k1ₘ ?k2ₘ ?k3ₘ ?k4ₘ ?k5ₘ ?kAₘ ?kFₘ ?kKₘ ?k6ₘ ?k7ₘ ?k8ₘ ?k9ₘ ?kBₘ ?_ ?c2ₘ ?c3ₘ ?c4ₘ ?c5ₘ; (case kAₘ => exact rfl); (case kFₘ => exact rfl); (case kKₘ => assumption); (case k1ₘ => k_asm); (case k2ₘ => k_asm); (case k3ₘ => k_asm); (case k4ₘ => k_asm); (case k5ₘ => k_asm); (case k6ₘ => k_is); (case k7ₘ => k_is); (case k8ₘ => ((try dsimp only [ktrTop]); (k_extra "MY om"))); (case k9ₘ => exact BindsTo.of_eq rfl); (case c5ₘ => decide); (case kBₘ => exact locs rfl); (case c2ₘ => exact rfl); (case c3ₘ => exact rfl); (case c4ₘ => exact rfl); k_whole)))
  k_with "MY in" => (first | assumption | with_reducible exact List.mem_cons_self | exact List.mem_append_left _ (by assumption) | (with_reducible refine List.mem_cons_of_mem _ ?_; k_extra "MY in") | (with_reducible refine List.mem_append_right _ ?_; k_extra "MY in"))
  k_with "eval Name" => ((k_dflt (first | (refine' LCgL.ld_own ?Nₘ ?mₘ ?Cₘ ?xₘ ?_; (case Nₘ => k_asm); (case mₘ => k_extra "MY in"); (case Cₘ => assumption); (case xₘ => assumption)) | (refine' lcf_cell ?Nₘ ?cₘ ?mₘ ?dₘ ?_ ?aₘ ?bₘ; (case aₘ => rfl); (case bₘ => rfl); (case Nₘ => k_asm); (case cₘ => rfl); (case mₘ => k_extra "MY in"); (case dₘ => assumption); k_whole) | (refine' lcf_free ?Nₘ ?cₘ ?mₘ ?dₘ ?_ ?aₘ ?bₘ; (case aₘ => rfl); (case bₘ => rfl); (case Nₘ => k_asm); (case cₘ => rfl); (case mₘ => k_extra "MY in"); (case dₘ => assumption); k_whole) | (refine' nameX_C ?Nₘ ?cₘ ?mₘ ?dₘ ?_ ?aₘ ?bₘ; (case aₘ => rfl); (case bₘ => rfl); (case Nₘ => k_asm); (case cₘ => rfl); (case mₘ => k_extra "MY in"); (case dₘ => assumption); k_whole))))
  k_with "assign Tuple" => ((k_dflt (refine' unpackN ?Fₘ ?Nₘ ?dₘ ?k1ₘ ?k2ₘ ?k3ₘ ?_; (case Fₘ => k_asm); (case Nₘ => k_asm); (case dₘ => k_extra "MY in"); (case k1ₘ => exact rfl); (case k2ₘ => exact rfl); (case k3ₘ => exact rfl)); intro h'ₘ F'ₘ N'ₘ))
  k_with "MY r3" => (((case k1ₘ => k_asm); (case k3ₘ => k_asm); (case k5ₘ => k_asm); (case kdₘ => decide +kernel); (case kuₘ => decide +kernel)))
  k_with "exec Assign cons ListComp" => (refine halt_of ?_)
  k_with "subscriptTail List cons Slice ref ref" => ((k_here; k_dflt (refine' slice_upn ?wFₘ ?wNₘ ?wlₘ ?wkₘ ?_ ?wsₘ ?wzₘ; (case wFₘ => k_asm); (case wNₘ => k_asm); (case wlₘ => exact News.isList (by k_asm) (by k_extra "MY in")); (case wkₘ => exact IsPart.int _ _); (case wsₘ => with_unfolding_all rfl); (case wzₘ => (rw [PySem.sizeLine_eq]; simp))); (intros D'ₘ h'ₘ; intro F'ₘ N'ₘ l1ₘ); (try dsimp only at N'ₘ); (try k_lt l1ₘ)))
  k_with "MY r4" => (((case k1ₘ => k_asm); (case k3ₘ => k_asm); (case k4ₘ => k_asm); (case kdₘ => decide +kernel); (case kuₘ => decide +kernel)))
  k_with "exec If Compare cons nil" => (((fail_if_success (have _gₘ : Go := by assumption)); refine halt_of ?_))
  k_with "compareOp NotEq str str" => ((k_dflt refine ne_str_same rfl ?_))
  k_with "MY mem" => ((repeat (first | exact List.mem_cons_self | refine List.mem_cons_of_mem _ ?_)))
  k_with "call ref" => (first | ((with_reducible show wpAny _ _ (call (Value.ref 354) _) _ _ _); refine halt_of ?_) | ((with_reducible show wpAny _ _ (call (Value.ref 368) _) _ _ _); refine halt_of ?_) | ((with_reducible show wpAny _ _ (call (Value.ref 382) _) _ _ _); refine halt_of ?_) | ((with_reducible show wpAny _ _ (call (Value.ref 283) _) _ _ _); refine halt_of ?_) | ((with_reducible show wpAny _ _ (call (Value.ref 585) _) _ _ _); refine halt_of ?_) | ((with_reducible show wpAny _ _ (call (Value.ref 592) _) _ _ _); refine halt_of ?_) | ((with_reducible show wpAny _ _ (call (Value.ref 599) _) _ _ _); refine halt_of ?_) | ((with_reducible show wpAny _ _ (call (Value.ref 606) _) _ _ _); refine halt_of ?_) | ((with_reducible show wpAny _ _ (call (Value.ref 616) _) _ _ _); refine halt_of ?_) | ((with_reducible show wpAny _ _ (call (Value.ref 623) _) _ _ _); refine halt_of ?_) | ((with_reducible show wpAny _ _ (call (Value.ref 628) _) _ _ _); refine halt_of ?_))
  k_with "eval Name" => (k_here; name_kind "local"; k_dflt (refine' nameX_L ?k1ₘ ?k2ₘ ?_ ?k3ₘ ?k4ₘ; (case k1ₘ => k_asm); (case k3ₘ => rfl); (case k4ₘ => rfl); (case k2ₘ => rfl); k_whole))
  trivial
theorem nd_five {g h : Heap} {L a1 a2 a3 a4 a5 : Addr} {o1 o2 o3 o4 o5 : Obj} {l : List (Addr × Obj)} (N : News g L h ((a1, o1) :: (a2, o2) :: (a3, o3) :: (a4, o4) :: (a5, o5) :: l)) (h1 : AllLt a1 ((a2, o2) :: (a3, o3) :: (a4, o4) :: (a5, o5) :: l)) (h2 : AllLt a2 ((a3, o3) :: (a4, o4) :: (a5, o5) :: l))
    (h3 : AllLt a3 ((a4, o4) :: (a5, o5) :: l)) (h4 : AllLt a4 ((a5, o5) :: l)) (h5 : ∀ p ∈ l, p.1 < a5) (nd : ND l) : ND ((a1, o1) :: (a2, o2) :: (a3, o3) :: (a4, o4) :: (a5, o5) :: l) := nd_new h1 (nd_new h2 (nd_new h3 (nd_new h4 (nd_new (allLt_of h5) nd))))
set_option maxRecDepth 100000 in
set_option maxHeartbeats 8000000 in
theorem law_walk : PySem.Challenge.rw_sy0049_01.Holds := hd (by
  have hEpsₑ : EpsOn 0 := ⟨True.intro⟩
  k_go0
  rename_i jw jo jM ja jb jhcd jns jhs jl0 jL jr jl2 jA jB jc jvs jD jL2 jra jw1 jr0 jI jr2 jh1 jh2 jK0 jhD jh jtk jF jx jright jN0 jX0
  rename Shared => js1
  replace jK0 : Below callerA js1.heap [] js1.heap := jK0
  revert jw jo ja jb jns jA jB jc jvs jD jh jtk jx
  iterate 28 (intro jz)
  rename (IntsAre _ _) => hI
  rename (Heap.IsList _ _ _) => hL
  rename (¬ _ < _) => hc
  all_goals try k_fold
  k_steps
  unfold Halt
  try dsimp only [List.append_nil]
  rename (Fr _ _ _ _) => F1
  rename (News _ _ _ _) => N1
  rename World => w
  (have hₜ2 := tree_start (X := [(_, _)]) N1 (List.nodup_cons.mpr ⟨(fun h => nomatch h), List.nodup_nil⟩) ⟨by assumption, trivial⟩ (by assumption) ⟨by (k_extra "MY om"), by (k_extra "MY om"), by (k_extra "MY om"), trivial⟩; (injection hₜ2 with T0 hₜ1; (injection hₜ1 with hT0 hₜ2; (injection hₜ2 with ht0 hₜ3; (injection hₜ3 with N2 nd2)))))
  (replace F1 := F1; rw [← ht0] at F1)
  clear N1
  have SP := new_root_of w T0 _ nd2 (by rw [hT0]; simp)
  (replace SP := SP; rw [ht0] at SP)
  refine' MSpec.use SP ?k1ₘ F1 ?k3ₘ N2 ?k5ₘ rfl ?kdₘ ?kuₘ ?_
  k_extra "MY r3"
  ((intros r news' h2 tk2; intro F2 N3); (intro hₜ4; (injection hₜ4 with n1 hₜ1; (injection hₜ1 with e1 hₜ2; (injection hₜ2 with t1 hₜ3; (refine And.elim ?_ (hₜ3); (try clear hₜ3); intro hₜ4 hₜ5; rcases hₜ4 with rfl; (injection hₜ5 with hn1 hₜ6; (refine And.elim ?_ (hₜ6); (try clear hₜ6); intro hₜ7 nd3; rcases hₜ7 with rfl))))))))
  have G1 := Grow.start hT0 hn1 (e := e1)
  have hl1 : (T0.more e1 n1).ns.length = 1 := by unfold PT.more; rw [hT0]; rfl
  have hb1 : (T0.more e1 n1).b.t = T0.b.t := rfl
  have hl0 : T0.ns.length = 0 := by rw [hT0]; rfl
  (replace F2 := F2; rw [← hb1] at F2)
  (have hₜ9 : ∃ T1, T1 = T0.more e1 n1 := (⟨_, rfl⟩); (injection hₜ9 with T1 hT1))
  (replace F2 := F2; replace N3 := N3; replace nd3 := nd3; replace G1 := G1; replace hl1 := hl1; rw [← hT1] at F2 N3 nd3 G1 hl1)
  rw [hl0]
  clear hT1 hb1
  k_steps
  unfold Halt
  rename (Fr _ _ _ _) => F3
  rename (News _ _ _ _) => N4
  (injection (G1.root) with nr hₜ1; (injection hₜ1 with hnr hkr))
  refine' MSpec.use (add_comment_of w T1 _ 0 nr "k" t1 _ hnr (.inl hkr) nd3 (G1.good.small (by (k_extra "MY om")))) ?k1ₘ F3 ?k3ₘ N4 ?k5ₘ rfl ?kdₘ ?kuₘ ?_
  k_extra "MY r3"
  ((intros r news' h4 tk4; intro F4 N5); (intro hₜ2; (injection hₜ2 with n2 hₜ1; (injection hₜ1 with e2 hₜ2; (injection hₜ2 with t2 hₜ3; (refine And.elim ?_ (hₜ3); (try clear hₜ3); intro hₜ4 hₜ5; rcases hₜ4 with rfl; (injection hₜ5 with hn2 hₜ6; (refine And.elim ?_ (hₜ6); (try clear hₜ6); intro hₜ7 nd4; rcases hₜ7 with rfl))))))))
  have G2 := G1.child (e := e2) (t9 := t2) hnr (.inl hkr) hn2 (by decide +kernel)
  have hl2 : (T1.child e2 n2 0 nr t2).ns.length = 2 := by rw [child_len, hl1]
  (have hₜ9 : ∃ T2, T2 = T1.child e2 n2 0 nr t2 := (⟨_, rfl⟩); (injection hₜ9 with T2 hT2))
  have ht2 : T1.b.t = T2.b.t := by rw [hT2]; rfl
  (replace N5 := N5; replace nd4 := nd4; replace G2 := G2; replace hl2 := hl2; rw [← hT2] at N5 nd4 G2 hl2)
  (replace F4 := F4; rw [ht2] at F4)
  clear hT2 F3 N4
  k_steps
  unfold Halt
  rename (Fr _ _ _ _) => F5
  rename (News _ _ _ _) => N6
  (injection (G2.root) with nr2 hₜ1; (injection hₜ1 with hnr2 hkr2))
  refine' MSpec.use (add_element_of w T2 _ 0 nr2 "e" "" "e" t1 _ _ _ hnr2 (.inl hkr2) nd4 (G2.good.small (by (k_extra "MY om")))) ?k1ₘ F5 ?k3ₘ N6 ?k5ₘ rfl ?kdₘ ?kuₘ ?_
  k_extra "MY r3"
  ((intros r news' h6 tk6; intro F6 N7); (intro hₜ2; (injection hₜ2 with n3 hₜ1; (injection hₜ1 with e3 hₜ2; (injection hₜ2 with t3 hₜ3; (refine And.elim ?_ (hₜ3); (try clear hₜ3); intro hₜ4 hₜ5; rcases hₜ4 with rfl; (injection hₜ5 with hn3 hₜ6; (refine And.elim ?_ (hₜ6); (try clear hₜ6); intro hₜ7 nd5; rcases hₜ7 with rfl))))))))
  have G3 := G2.child (e := e3) (t9 := t3) hnr2 (.inl hkr2) hn3 (by decide +kernel)
  have hl3 : (T2.child e3 n3 0 nr2 t3).ns.length = 3 := by rw [child_len, hl2]
  have hla : (T2.child e3 n3 0 nr2 t3).ns[T2.ns.length]? = some n3 := child_last hnr2
  (replace hla := hla; rw [hl2] at hla)
  (have hₜ9 : ∃ T3, T3 = T2.child e3 n3 0 nr2 t3 := (⟨_, rfl⟩); (injection hₜ9 with T3 hT3))
  have ht3 : T2.b.t = T3.b.t := by rw [hT3]; rfl
  (replace N7 := N7; replace nd5 := nd5; replace G3 := G3; replace hl3 := hl3; replace hla := hla; rw [← hT3] at N7 nd5 G3 hl3 hla)
  (replace F6 := F6; rw [ht3] at F6)
  rw [hl2]
  clear hT3 F5 N6
  k_steps
  unfold Halt
  rename (Fr _ _ _ _) => F7
  rename (News _ _ _ _) => N8
  (injection (G3.root) with nr3 hₜ1; (injection hₜ1 with hnr3 hkr3))
  rw [ht3]
  refine' MSpec.use (law_copied_right_of w T3 _ 2 nr3 n3 t1 t3 (G3.src (by (k_extra "MY om"))) G3.txt hnr3 hkr3 hla hn3.kind nd5) ?k1ₘ F7 ?k3ₘ N8 ?k5ₘ rfl ?kdₘ ?kuₘ ?_
  k_extra "MY r3"
  ((intros r news' h8 tk8; intro F8 N9); (intro hₜ2; (refine And.elim ?_ (hₜ2); (try clear hₜ2); intro hₜ1 hₜ2; rcases hₜ1 with rfl; rcases hₜ2 with rfl)))
  clear F7 N8 nd5 G3 G2 G1 nd4 nd3
  k_steps
  unfold Halt
  rename (Fr _ _ _ _) => F9
  rename (News _ _ _ _) => N10
  refine' HSpec.use (held_one w (Str.ofString "p:e") (Str.ofString "v") (.pre (Str.ofString "v")) (.inr ⟨rfl, uok_v, rfl⟩) _ _ _ _ _ _ _ _ _ _) ?k1ₘ F9 ?k3ₘ ?k4ₘ N10 rfl ?kdₘ ?kuₘ ⟨N10.get ?m1, N10.get ?m2, N10.get ?m3⟩ ?_
  k_extra "MY r4"
  case m1 => k_extra "MY mem"
  case m2 => k_extra "MY mem"
  case m3 => k_extra "MY mem"
  (intros h10 tk10; intro F10 N11)
  replace N11 := News.of_sub N11 (fun q hq => List.mem_cons_of_mem _ (List.mem_cons_of_mem _ (List.mem_cons_of_mem _ hq)))
  clear F9 N10
  k_steps
  unfold Halt
  rename (Fr _ _ _ _) => F11
  rename (News _ _ _ _) => N12
  refine' HSpec.use (held_one w (Str.ofString "e") (Str.ofString "") .no (.inl ⟨rfl, rfl, rfl⟩) _ _ _ _ _ _ _ _ _ _) ?k1ₘ F11 ?k3ₘ ?k4ₘ N12 rfl ?kdₘ ?kuₘ ⟨N12.get ?m1, N12.get ?m2, N12.get ?m3⟩ ?_
  k_extra "MY r4"
  case m1 => k_extra "MY mem"
  case m2 => k_extra "MY mem"
  case m3 => k_extra "MY mem"
  (intros h12 tk12; intro F12 N13)
  replace N13 := News.of_sub N13 (fun q hq => List.mem_cons_of_mem _ (List.mem_cons_of_mem _ (List.mem_cons_of_mem _ hq)))
  clear F11 N12
  k_steps
  unfold Halt
  rename (Fr _ _ _ _) => F14
  rename (News _ _ _ _) => N14
  (have hₜ3 := tree_start (X := [(_, _)]) N14 (List.nodup_cons.mpr ⟨(fun h => nomatch h), List.nodup_nil⟩) ⟨by assumption, trivial⟩ (by assumption) ⟨by (k_extra "MY om"), by (k_extra "MY om"), by (k_extra "MY om"), trivial⟩; (injection hₜ3 with T5 hₜ1; (injection hₜ1 with hT5 hₜ2; (injection hₜ2 with ht5 hₜ3; (injection hₜ3 with N15 nd15)))))
  (replace F14 := F14; rw [← ht5] at F14)
  clear N14
  have hgo : Go := True.intro
  k_steps
  unfold Halt
  rename (Fr _ _ _ _) => F16
  rename (News _ _ _ _) => N16
  have nd16 := nd_five N16 (by assumption) (by assumption) (by assumption) (by assumption) (by assumption) nd15
  replace N16 := News.pm N16 (List.perm_append_comm_assoc [_, _, _, _, _] (T5.objs w.params) [_])
  replace nd16 := nd16.perm (List.perm_append_comm_assoc [_, _, _, _, _] (T5.objs w.params) [_])
  refine' MSpec.use (build_of w T5 _ _ _ _ _ _ _ _ _ _ _ _ _ hT5 ?m0 ?m1 ?m2 ?m3 ?m4 nd16) ?k1ₘ F16 ?k3ₘ N16 ?k5ₘ rfl ?kdₘ ?kuₘ ?_
  k_extra "MY r3"
  case m0 => k_extra "MY mem"
  case m1 => k_extra "MY mem"
  case m2 => k_extra "MY mem"
  case m3 => k_extra "MY mem"
  case m4 => k_extra "MY mem"
  ((intros r news' h17 tk17; intro F17 N17); (intro hₜ4; (injection hₜ4 with T6 hₜ1; (injection hₜ1 with tr hₜ2; (injection hₜ2 with q1 hₜ3; (refine And.elim ?_ (hₜ3); (try clear hₜ3); intro hₜ4 hₜ5; rcases hₜ4 with rfl; (injection hₜ5 with hx6 hₜ6; (injection hₜ6 with lb hₜ7; (refine And.elim ?_ (hₜ7); (try clear hₜ7); intro hₜ8 nd17; rcases hₜ8 with rfl)))))))))
  clear F16 N16 nd16 nd15
  k_steps
  unfold Halt
  rename (Fr _ _ _ _) => F18
  rename (News _ _ _ _) => N18
  rw [← hx6]
  have ty6 := lb.1
  have tl6 := ty6.1
  refine' RSpec.use2 (lang_write w lb tr) ?k1ₘ F18 ?k3ₘ N18 ?k5ₘ rfl ?kdₘ ?kuₘ (at_mem N18 (fun q hq => List.mem_append_left _ hq) (by (k_extra "MY om")) (ty6.room (by (k_extra "MY om")))) ?_
  k_extra "MY r3"
  ((intros r new h19 tk19; intro F19 N19 S19 O19); (intro hₜ10; (injection hₜ10 with t19 hₜ1; rcases hₜ1 with rfl)))
  replace N19 := News.of_sub N19 (fun q hq => List.mem_append_right _ (List.mem_append_right _ (List.mem_cons_of_mem _ (List.mem_cons_of_mem _ (List.mem_cons_of_mem _ (List.mem_cons_of_mem _ (List.mem_cons_of_mem _ hq)))))))
  clear F18 N18 nd17 hgo
  k_steps
  unfold Halt
  rename (Fr _ _ _ _) => F20
  rename (News _ _ _ _) => N20
  have hvl := ints_len9 hI
  refine' RSpec.use2 (law_pool_of w _ _ _ (by (k_extra "MY om")) (ints_all9 hI)) ?k1ₘ F20 ?k3ₘ N20 ?k5ₘ rfl ?kdₘ ?kuₘ (hL.at fun o e => F20.keep _ _ e) ?_
  k_extra "MY r3"
  ((intros r new h21 tk21; intro F21 N21 S21 O21); (intro hₜ2; (injection hₜ2 with S hₜ1; (injection hₜ1 with sa hₜ2; (injection hₜ2 with sb hₜ3; (injection hₜ3 with sta hₜ4; (injection hₜ4 with stb hₜ5; (injection hₜ5 with se hₜ6; (refine And.elim ?_ (hₜ6); (try clear hₜ6); intro hₜ7 hS; rcases hₜ7 with rfl)))))))))
  have hne : @Ne Nat _ S := O21.2 _ hS _ (.head _)
  dsimp only at hne
  replace N21 := News.of_sub (l' := [(S, srcO sa sb sta stb se), _]) N21 (by
    intro q hq
    rcases List.mem_cons.mp hq with rfl | hq
    · exact List.mem_append_left _ hS
    · exact List.mem_append_right _ hq)
  clear F20 N20
  k_steps
  unfold Halt
  rename (Fr _ _ _ _) => F22
  rename (News _ _ _ _) => N22
  have nd22 := nd_pair N22 hne
  refine' MSpec.use (law_root_right_of w S _ _ _ _ _ [_] nd22) ?k1ₘ F22 ?k3ₘ N22 ?k5ₘ rfl ?kdₘ ?kuₘ ?_
  k_extra "MY r3"
  ((intros r news' h23 tk23; intro F23 N23); (intro hₜ9; (injection hₜ9 with sa hₜ1; (injection hₜ1 with sb hₜ2; (injection hₜ2 with sta hₜ3; (injection hₜ3 with stb hₜ4; (injection hₜ4 with se hₜ5; (refine And.elim ?_ (hₜ5); (try clear hₜ5); intro hₜ6 hₜ7; rcases hₜ6 with rfl; rcases hₜ7 with rfl))))))))
  clear F22 N22 nd22
  k_steps
  unfold Halt
  rename (Fr _ _ _ _) => F24
  rename (News _ _ _ _) => N24
  have hS2 : @LT.lt Nat _ S _ := (by assumption : _ ∧ _).1
  replace N24 := News.pm N24 (.swap _ _ _)
  refine' MSpec.use (law_one_of w S _ [.none, .str (Str.ofString "u") _, .str (Str.ofString "v") _] _ _ _ _ _ _ _ (by simp) (by simp) (.head _) ?hap) ?k1ₘ F24 ?k3ₘ N24 ?k5ₘ rfl ?kdₘ ?kuₘ ?_
  case hap =>
    intro p hp
    rcases List.mem_cons.mp hp with rfl | hp
    · exact (Nat.ne_of_lt hS2).symm
    · rw [List.mem_singleton.mp hp]; exact hne
  k_extra "MY r3"
  ((intros r news' h25 tk25; intro F25 N25); (intro hₜ8; (injection hₜ8 with sa hₜ1; (injection hₜ1 with sb hₜ2; (injection hₜ2 with sta hₜ3; (injection hₜ3 with stb hₜ4; (injection hₜ4 with se hₜ5; (injection hₜ5 with hr hₜ6; rcases hₜ6 with rfl))))))))
  (injection (pick_o hr) with outer hₜ1; (injection hₜ1 with to hₜ2; (refine And.elim ?_ (hₜ2); (try clear hₜ2); intro hₜ3 ho; rcases hₜ3 with rfl)))
  replace N25 := News.of_sub (l' := [(S, srcO sa sb sta stb se), _]) N25 (by
    intro q hq
    rcases List.mem_cons.mp hq with rfl | hq
    · exact .head _
    · exact .tail _ (.tail _ hq))
  clear F24 N24 hS2
  k_steps
  unfold Halt
  rename (Fr _ _ _ _) => F26
  rename (News _ _ _ _) => N26
  have hS2 : @LT.lt Nat _ S _ := (by assumption : _ ∧ _).1
  replace N26 := News.pm N26 (.swap _ _ _)
  refine' MSpec.use (law_one_of w S _ [.none, .none, .str (Str.ofString "u") _, .str (Str.ofString "v") _] _ _ _ _ _ _ _ (by simp) (by simp) (.head _) ?hap) ?k1ₘ F26 ?k3ₘ N26 ?k5ₘ rfl ?kdₘ ?kuₘ ?_
  case hap =>
    intro p hp
    rcases List.mem_cons.mp hp with rfl | hp
    · exact (Nat.ne_of_lt hS2).symm
    · rw [List.mem_singleton.mp hp]; exact hne
  k_extra "MY r3"
  ((intros r news' h27 tk27; intro F27 N27); (intro hₜ5; (injection hₜ5 with sa hₜ1; (injection hₜ1 with sb hₜ2; (injection hₜ2 with sta hₜ3; (injection hₜ3 with stb hₜ4; (injection hₜ4 with se hₜ5; (injection hₜ5 with hr hₜ6; rcases hₜ6 with rfl))))))))
  (injection (pick_o2 hr) with own hₜ1; (injection hₜ1 with tw hₜ2; (refine And.elim ?_ (hₜ2); (try clear hₜ2); intro hₜ3 hw; rcases hₜ3 with rfl)))
  replace N27 := News.of_sub (l' := [(S, srcO sa sb sta stb se), _]) N27 (by
    intro q hq
    rcases List.mem_cons.mp hq with rfl | hq
    · exact .head _
    · exact .tail _ (.tail _ hq))
  clear F26 N26 hS2
  k_steps
  unfold Halt
  rename (Fr _ _ _ _) => F28
  rename (News _ _ _ _) => N28
  replace N28 := News.pm N28 (List.perm_append_comm_assoc [_, _, _, _, _] [(S, srcO sa sb sta stb se)] [_])
  simp only [List.cons_append, List.nil_append] at N28
  have hap := apart6 N28 (by (k_extra "MY om")) (by (k_extra "MY om")) (by (k_extra "MY om")) (by (k_extra "MY om")) (by (k_extra "MY om")) hne
  refine' MSpec.use (law_one_of w S _ [.ref _, .ref _, .ref _] _ _ _ _ _ _ _ (by simp) (by simp) (.head _) hap) ?k1ₘ F28 ?k3ₘ N28 ?k5ₘ rfl ?kdₘ ?kuₘ ?_
  k_extra "MY r3"
  ((intros r news' h29 tk29; intro F29 N29); (intro hₜ5; (injection hₜ5 with sa hₜ1; (injection hₜ1 with sb hₜ2; (injection hₜ2 with sta hₜ3; (injection hₜ3 with stb hₜ4; (injection hₜ4 with se hₜ5; (injection hₜ5 with hr hₜ6; rcases hₜ6 with rfl))))))))
  (injection (pick_n hr (by k_extra "MY mem") (by k_extra "MY mem") (by k_extra "MY mem") hap) with na hₜ1; (injection hₜ1 with nm hₜ2; (injection hₜ2 with uri hₜ3; (injection hₜ3 with kn hₜ4; (injection hₜ4 with tn hₜ5; (injection hₜ5 with tu hₜ6; (refine And.elim ?_ (hₜ6); (try clear hₜ6); intro hₜ7 hₜ8; rcases hₜ7 with rfl; (injection hₜ8 with hna hₜ9; (injection hₜ9 with hn hnS)))))))))
  replace N29 := News.of_sub (l' := [(S, srcO sa sb sta stb se), (na, tupObj [.str nm tn, .str uri tu]), _]) N29 (by
    intro q hq
    rcases List.mem_cons.mp hq with rfl | hq
    · exact .head _
    · rcases List.mem_cons.mp hq with rfl | hq
      · exact .tail _ hna
      · exact .tail _ (.tail _ (.tail _ (.tail _ (.tail _ (.tail _ hq))))))
  clear F28 N28 hap hna
  k_steps
  unfold Halt
  rename (Fr _ _ _ _) => F30
  rename (News _ _ _ _) => N30
  refine Assign_ListComp_J F30 (by with_unfolding_all rfl) rfl rfl rfl (by decide) rfl (by decide) rfl rfl rfl ?_
  k_steps
  unfold Halt
  rename (Fr _ _ _ _) => F31
  rename (News _ _ _ _) => N31
  replace N31 := News.pm N31 (.swap _ _ _)
  have hap := apart3 N31 (by (k_extra "MY om")) hnS hne
  refine' MSpec.use (law_take_of w S _ _ _ _ _ 3 _ _ (by (k_extra "MY om")) (by (k_extra "MY om")) hap) ?k1ₘ F31 ?k3ₘ N31 ?k5ₘ rfl ?kdₘ ?kuₘ ?_
  k_extra "MY r3"
  ((intros r news' h32 tk32; intro F32 N32); (intro hₜ10; (injection hₜ10 with sa hₜ1; (injection hₜ1 with sb hₜ2; (injection hₜ2 with sta hₜ3; (injection hₜ3 with stb hₜ4; (injection hₜ4 with se hₜ5; (injection hₜ5 with d hₜ6; (injection hₜ6 with td hₜ7; (refine And.elim ?_ (hₜ7); (try clear hₜ7); intro hₜ8 hₜ9; rcases hₜ8 with rfl; (injection hₜ9 with hd0 hₜ10; (injection hₜ10 with hd3 hₜ11; rcases hₜ11 with rfl))))))))))))
  clear F31 N31 hap
  (injection (Int.eq_ofNat_of_zero_le hd0) with n hₜ1; rcases hₜ1 with rfl)
  have hn3 : n < 3 := by (k_extra "MY om")
  k_steps
  rename (Fr _ _ _ _) => F33
  rename (News _ _ _ _) => N33
  replace N33 := News.pm N33 (.swap _ _ _)
  have hrest := apart4 N33 (by (k_extra "MY om")) (by (k_extra "MY om")) hnS hne
  refine comp_rows F33 N33 (.head _) (strs_take n (.cons _ _ (.cons _ _ .nil))) (by rw [List.length_take]; simp; (k_extra "MY om")) ?_ ?_ ?_
  · clear F33 N33
    (intros lx tlx C I D oC oI oD m2 h34 tk34 sa; intros sb sta stb se; intro R; intro E'; intro hlx hSC hSI hSD hR F34 N34 hC hx)
    k_steps
    unfold Halt
    rename (Fr _ _ _ _) => F35
    rename (News _ _ _ _) => N35
    have hS2 : @LT.lt Nat _ S _ := (by assumption : _ ∧ _ ∧ _ ∧ _ ∧ _).2.2.2.1
    replace N35 := News.pm N35 (List.perm_append_comm_assoc [_, _, _, _] [(S, srcO sa sb sta stb se)] (R ++ _))
    simp only [List.cons_append, List.nil_append] at N35
    have hap := apartR (oC := oC) (oI := oI) (oD := oD) hSC hSI hSD hR hrest
    refine' MSpec.use (law_one_of w S _ [.str (Str.ofString "u") _, .str (Str.ofString "u") _, .str (Str.ofString "v") _] _ _ _ _ _ _ _ (by simp) (by simp) (.head _) (apartX hS2 hap)) ?k1ₘ F35 ?k3ₘ N35 ?k5ₘ rfl ?kdₘ ?kuₘ ?_
    k_extra "MY r3"
    ((intros r news' h36 tk36; intro F36 N36); (intro hₜ2; (injection hₜ2 with sa hₜ1; (injection hₜ1 with sb hₜ2; (injection hₜ2 with sta hₜ3; (injection hₜ3 with stb hₜ4; (injection hₜ4 with se hₜ5; (injection hₜ5 with hr hₜ6; rcases hₜ6 with rfl))))))))
    (injection (pick_u hr) with u hₜ1; (injection hₜ1 with tu9 hₜ2; (refine And.elim ?_ (hₜ2); (try clear hₜ2); intro hₜ3 hu; rcases hₜ3 with rfl)))
    replace N36 := News.of_sub (l' := (S, srcO sa sb sta stb se) :: (C, oC) :: (I, oI) :: (D, oD) :: (R ++ _)) N36 (by
      intro q hq
      rcases List.mem_cons.mp hq with rfl | hq
      · exact .head _
      · exact .tail _ (.tail _ hq))
    clear F35 N35 hS2
    k_steps
    unfold Halt
    rename (Fr _ _ _ _) => F37
    rename (News _ _ _ _) => N37
    refine' MSpec.use (law_take_of w S _ _ _ _ _ 9 _ _ (by (k_extra "MY om")) (by (k_extra "MY om")) hap) ?k1ₘ F37 ?k3ₘ N37 ?k5ₘ rfl ?kdₘ ?kuₘ ?_
    k_extra "MY r3"
    ((intros r news' h38 tk38; intro F38 N38); (intro hₜ5; (injection hₜ5 with sa hₜ1; (injection hₜ1 with sb hₜ2; (injection hₜ2 with sta hₜ3; (injection hₜ3 with stb hₜ4; (injection hₜ4 with se hₜ5; (injection hₜ5 with d hₜ6; (injection hₜ6 with td hₜ7; (refine And.elim ?_ (hₜ7); (try clear hₜ7); intro hₜ8 hₜ9; rcases hₜ8 with rfl; (injection hₜ9 with hd0 hₜ10; (injection hₜ10 with hd9 hₜ11; rcases hₜ11 with rfl))))))))))))
    clear F37 N37 hap
    k_steps
    exact row_end (by assumption) (by assumption) (by assumption) (by
      have := List.mem_of_mem_take hlx
      simp only [List.mem_cons, List.not_mem_nil, or_false] at this
      exact this) hu (safes_digit hd0 hd9)
  · intro x hx
    have := List.mem_of_mem_take hx
    simp only [List.mem_cons, List.not_mem_nil, or_false] at this
    exact this
  · (intros J D rs k h40 tk40 sa sb; intros sta stb se; intro hrl hrok N40 F40)
    k_steps
    unfold Halt
    rename (Fr _ _ _ _) => F41
    rename (News _ _ _ _) => N41
    (injection (rows_distinct hrl) with hl2 hlx2)
    refine' HSpec.use (law_is_held_of w outer own to tw na D nm uri tn tu kn rs k hn hrok hl2 hlx2 ho hw) ?k1ₘ F41 ?k3ₘ ?k4ₘ N41 rfl ?kdₘ ?kuₘ ⟨N41.get ?m1, N41.get (.head _), fun r hr9 => N41.get (.tail _ (.tail _ (List.mem_append_left _ (List.mem_map.mpr ⟨r, hr9, rfl⟩))))⟩ ?_
    k_extra "MY r4"
    case m1 => exact .tail _ (.tail _ (List.mem_append_right _ (.tail _ (.tail _ (.head _)))))
    (intros h42 tk42; intro F42 N42)
    clear F41 N41
    k_steps)
end Mine
theorem PySem.Challenge.cw_sy0049_01_holds : PySem.Challenge.rw_sy0049_01.Holds :=
  Mine.law_walk
