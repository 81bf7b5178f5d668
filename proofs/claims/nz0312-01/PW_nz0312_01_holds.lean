import PyProof.Rows.All
import Wide.All
import OpenK.AllK
import Wide.FinOn
import PySem.Challenge.RW_nz0312_01
set_option maxRecDepth 100000
set_option linter.all false
set_option compiler.extract_closed false
set_option maxHeartbeats 8000000
namespace Mine
open PySem PySem.W PyProof.Rows
/- t0 is there for one constant, t0.heap_1_1: the written part of the first heap, which has to stand ahead of the walk. The kit's head lays it as its first deed; here the rest of the head is left away, and the goal that it was run on is given up.
   t1 is the proof. The head would lay a faster twin of each of its constants, with a proof that grows with the square of their number (60 MB in all); the kernel does as well without them.
   A twin is left away where its name is taken: so the names t1.tw... below. They say nothing and are used nowhere. -/
theorem cond2 (_ : PySem.Challenge.rw_nz0312_01.row.Holds) (n : Nat) (_ : n = 0) : (n = 5) = False := by subst n; simp
theorem t1.tw10047388546913821365 : True := trivial
theorem t1.tw10079291008966793812 : True := trivial
theorem t1.tw10120557816226640789 : True := trivial
theorem t1.tw10153636538627898026 : True := trivial
theorem t1.tw10178025733516650500 : True := trivial
theorem t1.tw10179138945186876538 : True := trivial
theorem t1.tw10260142444006004129 : True := trivial
theorem t1.tw10340736289216705601 : True := trivial
theorem t1.tw10342387782454109323 : True := trivial
theorem t1.tw10393564111929500843 : True := trivial
theorem t1.tw10448220196987205063 : True := trivial
theorem t1.tw10453687440949172279 : True := trivial
theorem t1.tw10484572152652671551 : True := trivial
theorem t1.tw10492656404885313301 : True := trivial
theorem t1.tw1050524375074862379 : True := trivial
theorem t1.tw10514663548596021645 : True := trivial
theorem t1.tw10583593943742127704 : True := trivial
theorem t1.tw10626733328554269401 : True := trivial
theorem t1.tw10639010548407258067 : True := trivial
theorem t1.tw1066437921595634322 : True := trivial
theorem t1.tw10688142805487415007 : True := trivial
theorem t1.tw10694363740544384319 : True := trivial
theorem t1.tw10780367826310228562 : True := trivial
theorem t1.tw10789570074429822182 : True := trivial
theorem t1.tw10832986332668240355 : True := trivial
theorem t1.tw10942216097225011472 : True := trivial
theorem t1.tw10988743913046341605 : True := trivial
theorem t1.tw11004019234638679112 : True := trivial
theorem t1.tw11005161663892778021 : True := trivial
theorem t1.tw11035020170535773524 : True := trivial
theorem t1.tw11200157810146491653 : True := trivial
theorem t1.tw11204404729285085151 : True := trivial
theorem t1.tw1124527495174880480 : True := trivial
theorem t1.tw11398695628901397397 : True := trivial
theorem t1.tw11486038844277219184 : True := trivial
theorem t1.tw11528244150288693790 : True := trivial
theorem t1.tw11573572643217833148 : True := trivial
theorem t1.tw11637433068442967013 : True := trivial
theorem t1.tw11639909294029234935 : True := trivial
theorem t1.tw11674838353462620728 : True := trivial
theorem t1.tw11675302453461115885 : True := trivial
theorem t1.tw1175009796084442154 : True := trivial
theorem t1.tw11823769477902581023 : True := trivial
theorem t1.tw11828181043836395177 : True := trivial
theorem t1.tw1188113136878490899 : True := trivial
theorem t1.tw11895665199685142358 : True := trivial
theorem t1.tw11915132480836534954 : True := trivial
theorem t1.tw11948587772558819041 : True := trivial
theorem t1.tw12007615251128448845 : True := trivial
theorem t1.tw1204443191528514727 : True := trivial
theorem t1.tw12059395574991342692 : True := trivial
theorem t1.tw12065969362703878395 : True := trivial
theorem t1.tw12094142719597073415 : True := trivial
theorem t1.tw12117763015049296620 : True := trivial
theorem t1.tw12129650572342228894 : True := trivial
theorem t1.tw12189183828293512998 : True := trivial
theorem t1.tw12199302295317293803 : True := trivial
theorem t1.tw12272401553794082124 : True := trivial
theorem t1.tw12342712790206720553 : True := trivial
theorem t1.tw12358266376904955825 : True := trivial
theorem t1.tw12391134062628370798 : True := trivial
theorem t1.tw12409298389242397178 : True := trivial
theorem t1.tw12413221814623981865 : True := trivial
theorem t1.tw12428554482324332961 : True := trivial
theorem t1.tw12432021633162945181 : True := trivial
theorem t1.tw1244402573669395874 : True := trivial
theorem t1.tw12491268765904916663 : True := trivial
theorem t1.tw12526042295582480816 : True := trivial
theorem t1.tw1257423539049232887 : True := trivial
theorem t1.tw126096141029943380 : True := trivial
theorem t1.tw12636426310297402074 : True := trivial
theorem t1.tw12683697653404662577 : True := trivial
theorem t1.tw12813170032982327536 : True := trivial
theorem t1.tw12824780136840111539 : True := trivial
theorem t1.tw12870421749276449524 : True := trivial
theorem t1.tw1288169911994868025 : True := trivial
theorem t1.tw12909404331699273921 : True := trivial
theorem t1.tw12933067095984772241 : True := trivial
theorem t1.tw12956546423027103743 : True := trivial
theorem t1.tw12960904073792995847 : True := trivial
theorem t1.tw13008225156986884441 : True := trivial
theorem t1.tw13016914245957783719 : True := trivial
theorem t1.tw13052537035746660633 : True := trivial
theorem t1.tw13079674585615676275 : True := trivial
theorem t1.tw13085250131558346646 : True := trivial
theorem t1.tw13095666663902654135 : True := trivial
theorem t1.tw13111125443531188696 : True := trivial
theorem t1.tw13139602287854695806 : True := trivial
theorem t1.tw13157638967311111084 : True := trivial
theorem t1.tw13173013626274595613 : True := trivial
theorem t1.tw13188810392053503896 : True := trivial
theorem t1.tw13200952679976163510 : True := trivial
theorem t1.tw1327062613111616949 : True := trivial
theorem t1.tw13277194951786849205 : True := trivial
theorem t1.tw13296044487182134141 : True := trivial
theorem t1.tw1348923566039065417 : True := trivial
theorem t1.tw13564271564217653399 : True := trivial
theorem t1.tw1357906661135769813 : True := trivial
theorem t1.tw13630505579555637477 : True := trivial
theorem t1.tw13645752748377110244 : True := trivial
theorem t1.tw13680180342802624973 : True := trivial
theorem t1.tw13731415288159455994 : True := trivial
theorem t1.tw13748885052013866427 : True := trivial
theorem t1.tw13803656601362217928 : True := trivial
theorem t1.tw13864588770640244043 : True := trivial
theorem t1.tw13927957101287282218 : True := trivial
theorem t1.tw1400023888386416220 : True := trivial
theorem t1.tw14051356279641177417 : True := trivial
theorem t1.tw14051573678351218011 : True := trivial
theorem t1.tw14052332140127290259 : True := trivial
theorem t1.tw14065865582110923470 : True := trivial
theorem t1.tw14084348416429243629 : True := trivial
theorem t1.tw14126035637448945182 : True := trivial
theorem t1.tw14176798534309909583 : True := trivial
theorem t1.tw14192638330358881332 : True := trivial
theorem t1.tw14209501629688473723 : True := trivial
theorem t1.tw14228675719734811289 : True := trivial
theorem t1.tw14340704743675565205 : True := trivial
theorem t1.tw14379212303355303346 : True := trivial
theorem t1.tw14414252346819036795 : True := trivial
theorem t1.tw14478464804985787897 : True := trivial
theorem t1.tw14497740063739262940 : True := trivial
theorem t1.tw14499738341685030527 : True := trivial
theorem t1.tw1457406959371923095 : True := trivial
theorem t1.tw14587439388288691895 : True := trivial
theorem t1.tw14669725902358280348 : True := trivial
theorem t1.tw14748733766267883672 : True := trivial
theorem t1.tw14835040009798170560 : True := trivial
theorem t1.tw14836084899694964779 : True := trivial
theorem t1.tw14858346225142393768 : True := trivial
theorem t1.tw14931232751893064950 : True := trivial
theorem t1.tw14942187266470957982 : True := trivial
theorem t1.tw1496459656619794076 : True := trivial
theorem t1.tw14984564454313699637 : True := trivial
theorem t1.tw15003184989988206776 : True := trivial
theorem t1.tw15047799355539612852 : True := trivial
theorem t1.tw15057718620287370157 : True := trivial
theorem t1.tw15064549207139655057 : True := trivial
theorem t1.tw15126507446007531745 : True := trivial
theorem t1.tw1513395480747944557 : True := trivial
theorem t1.tw15149142381061463240 : True := trivial
theorem t1.tw15221566569329837425 : True := trivial
theorem t1.tw15221696548176154759 : True := trivial
theorem t1.tw15253451755753453660 : True := trivial
theorem t1.tw1529766121011260469 : True := trivial
theorem t1.tw15334044638153401294 : True := trivial
theorem t1.tw15394158892064896747 : True := trivial
theorem t1.tw1546196352219620137 : True := trivial
theorem t1.tw1551626083008615817 : True := trivial
theorem t1.tw15641727318136157856 : True := trivial
theorem t1.tw15658055634692833716 : True := trivial
theorem t1.tw15674919444029939634 : True := trivial
theorem t1.tw15704828576085333546 : True := trivial
theorem t1.tw15707340390773473534 : True := trivial
theorem t1.tw1573545354540511792 : True := trivial
theorem t1.tw15741853646936435993 : True := trivial
theorem t1.tw15853818623486732760 : True := trivial
theorem t1.tw15971765164784883454 : True := trivial
theorem t1.tw15975164501048522100 : True := trivial
theorem t1.tw15986602338649620339 : True := trivial
theorem t1.tw15991845943015503888 : True := trivial
theorem t1.tw16051133376068610525 : True := trivial
theorem t1.tw16057593641378144798 : True := trivial
theorem t1.tw16105804962256533062 : True := trivial
theorem t1.tw16125962979373314473 : True := trivial
theorem t1.tw16137390365285488686 : True := trivial
theorem t1.tw16178668342170241206 : True := trivial
theorem t1.tw1621477296289614543 : True := trivial
theorem t1.tw1622869443025123918 : True := trivial
theorem t1.tw16341410737004735624 : True := trivial
theorem t1.tw16352572436449099933 : True := trivial
theorem t1.tw16399847627359277766 : True := trivial
theorem t1.tw16671974591154744881 : True := trivial
theorem t1.tw16701646195531290696 : True := trivial
theorem t1.tw16824277453716288766 : True := trivial
theorem t1.tw16838593931909724948 : True := trivial
theorem t1.tw16864447952018307237 : True := trivial
theorem t1.tw16926772290504072403 : True := trivial
theorem t1.tw1694674627926785640 : True := trivial
theorem t1.tw17051107634651213138 : True := trivial
theorem t1.tw17079090956653517242 : True := trivial
theorem t1.tw171079423516532066 : True := trivial
theorem t1.tw17153047212098635448 : True := trivial
theorem t1.tw1718395555931995730 : True := trivial
theorem t1.tw17196887198227260271 : True := trivial
theorem t1.tw17262837925213209679 : True := trivial
theorem t1.tw17306755020789112836 : True := trivial
theorem t1.tw17341453184250013069 : True := trivial
theorem t1.tw17363943144225631380 : True := trivial
theorem t1.tw17453283974132479778 : True := trivial
theorem t1.tw17566993723385506009 : True := trivial
theorem t1.tw17570187625939568842 : True := trivial
theorem t1.tw17595531551050841529 : True := trivial
theorem t1.tw17773345013633300163 : True := trivial
theorem t1.tw17841081131632433438 : True := trivial
theorem t1.tw17866365904916371619 : True := trivial
theorem t1.tw1787554184218120031 : True := trivial
theorem t1.tw17880510156643284667 : True := trivial
theorem t1.tw17906151647735730840 : True := trivial
theorem t1.tw17943080699685093003 : True := trivial
theorem t1.tw17984843756552225616 : True := trivial
theorem t1.tw18006782866643093600 : True := trivial
theorem t1.tw18029530453448360735 : True := trivial
theorem t1.tw18076103899990237720 : True := trivial
theorem t1.tw18085279480015190705 : True := trivial
theorem t1.tw18115366490015711570 : True := trivial
theorem t1.tw18322092844016522547 : True := trivial
theorem t1.tw18332465943524792544 : True := trivial
theorem t1.tw18381289069704234213 : True := trivial
theorem t1.tw18431210544490455526 : True := trivial
theorem t1.tw1953474771474190874 : True := trivial
theorem t1.tw1965287468386651850 : True := trivial
theorem t1.tw1976634987976180395 : True := trivial
theorem t1.tw1994004847665853020 : True := trivial
theorem t1.tw2009935214695765397 : True := trivial
theorem t1.tw2058530320195653909 : True := trivial
theorem t1.tw2114964078324635893 : True := trivial
theorem t1.tw2143022573129920150 : True := trivial
theorem t1.tw2184551357914738295 : True := trivial
theorem t1.tw2198267501377823260 : True := trivial
theorem t1.tw2310380078143690773 : True := trivial
theorem t1.tw2334485481447605352 : True := trivial
theorem t1.tw2371775486936096889 : True := trivial
theorem t1.tw2406679259160619020 : True := trivial
theorem t1.tw241512822283653682 : True := trivial
theorem t1.tw2419006676550164995 : True := trivial
theorem t1.tw2452027036546114040 : True := trivial
theorem t1.tw2466496293233315196 : True := trivial
theorem t1.tw2484692837811529458 : True := trivial
theorem t1.tw2499489111163179865 : True := trivial
theorem t1.tw2597994430284616058 : True := trivial
theorem t1.tw260008832654834610 : True := trivial
theorem t1.tw2605306988405589255 : True := trivial
theorem t1.tw2615704348140315770 : True := trivial
theorem t1.tw2622682781992100790 : True := trivial
theorem t1.tw2662957238287506442 : True := trivial
theorem t1.tw2692976358041536577 : True := trivial
theorem t1.tw2706644140649356151 : True := trivial
theorem t1.tw2817863471037788937 : True := trivial
theorem t1.tw2818210057044459649 : True := trivial
theorem t1.tw2823953845708922003 : True := trivial
theorem t1.tw2873021153758221737 : True := trivial
theorem t1.tw2942079324095202276 : True := trivial
theorem t1.tw2971437385360246200 : True := trivial
theorem t1.tw31790137869358400 : True := trivial
theorem t1.tw3198121768120026261 : True := trivial
theorem t1.tw3237059761767345063 : True := trivial
theorem t1.tw3241590426714848859 : True := trivial
theorem t1.tw3251787702437139376 : True := trivial
theorem t1.tw3327188503389961160 : True := trivial
theorem t1.tw333344195990421893 : True := trivial
theorem t1.tw3380971352297466649 : True := trivial
theorem t1.tw3385433295716695506 : True := trivial
theorem t1.tw3447541455049536426 : True := trivial
theorem t1.tw3450252482925742673 : True := trivial
theorem t1.tw3488225220679287523 : True := trivial
theorem t1.tw3519206623964661845 : True := trivial
theorem t1.tw3535880550727890993 : True := trivial
theorem t1.tw3571615884583466572 : True := trivial
theorem t1.tw3660839577246564934 : True := trivial
theorem t1.tw3670088902403903104 : True := trivial
theorem t1.tw3682043009588096110 : True := trivial
theorem t1.tw3861847282847452778 : True := trivial
theorem t1.tw3874955018587244590 : True := trivial
theorem t1.tw3950606145323476630 : True := trivial
theorem t1.tw3972578487396082706 : True := trivial
theorem t1.tw4030184811230525018 : True := trivial
theorem t1.tw4035921690307003451 : True := trivial
theorem t1.tw4128452231370569018 : True := trivial
theorem t1.tw4136182705078197827 : True := trivial
theorem t1.tw4143567402407517743 : True := trivial
theorem t1.tw4154182018714895544 : True := trivial
theorem t1.tw4200335947731485774 : True := trivial
theorem t1.tw4222967931092710217 : True := trivial
theorem t1.tw4223180989500588102 : True := trivial
theorem t1.tw4233852410472912943 : True := trivial
theorem t1.tw4302956120471275958 : True := trivial
theorem t1.tw4325606464235582622 : True := trivial
theorem t1.tw4536426187849231947 : True := trivial
theorem t1.tw453813883508820558 : True := trivial
theorem t1.tw4796029875076827236 : True := trivial
theorem t1.tw4812219968368994336 : True := trivial
theorem t1.tw4892662247589430105 : True := trivial
theorem t1.tw493197438768339950 : True := trivial
theorem t1.tw4954492438978560337 : True := trivial
theorem t1.tw5068834959427853634 : True := trivial
theorem t1.tw5087290453405123388 : True := trivial
theorem t1.tw5163024874860944173 : True := trivial
theorem t1.tw522641701670059501 : True := trivial
theorem t1.tw5228869211135476918 : True := trivial
theorem t1.tw5232078158935546371 : True := trivial
theorem t1.tw5236995895531214368 : True := trivial
theorem t1.tw528087582262596229 : True := trivial
theorem t1.tw5342536943218224594 : True := trivial
theorem t1.tw5364435336839180723 : True := trivial
theorem t1.tw5405199377609075367 : True := trivial
theorem t1.tw5456390076364422962 : True := trivial
theorem t1.tw5507696568507824679 : True := trivial
theorem t1.tw5548901494332153812 : True := trivial
theorem t1.tw557520450952274887 : True := trivial
theorem t1.tw5605816213667537953 : True := trivial
theorem t1.tw5629037748997720385 : True := trivial
theorem t1.tw5674390797629678532 : True := trivial
theorem t1.tw5676845993549014550 : True := trivial
theorem t1.tw5699521165526164519 : True := trivial
theorem t1.tw5702276910544350012 : True := trivial
theorem t1.tw5820599203998381080 : True := trivial
theorem t1.tw5895130000804357911 : True := trivial
theorem t1.tw5993670111939886483 : True := trivial
theorem t1.tw6025451628814480154 : True := trivial
theorem t1.tw6040437321974211392 : True := trivial
theorem t1.tw6065860955330982308 : True := trivial
theorem t1.tw6235171737846759186 : True := trivial
theorem t1.tw6243980586408195755 : True := trivial
theorem t1.tw6308332643104250543 : True := trivial
theorem t1.tw6326377241614161244 : True := trivial
theorem t1.tw6349671306009105194 : True := trivial
theorem t1.tw6387864646475619498 : True := trivial
theorem t1.tw6397963688749387128 : True := trivial
theorem t1.tw6437994359056862957 : True := trivial
theorem t1.tw647980484890074324 : True := trivial
theorem t1.tw6512566711475917655 : True := trivial
theorem t1.tw6548402008103273670 : True := trivial
theorem t1.tw6571287038682388676 : True := trivial
theorem t1.tw6592241131309156321 : True := trivial
theorem t1.tw6602504841815042491 : True := trivial
theorem t1.tw6608391443954064361 : True := trivial
theorem t1.tw6720204139837582532 : True := trivial
theorem t1.tw6743354835984144223 : True := trivial
theorem t1.tw6746217712427163158 : True := trivial
theorem t1.tw6762134621939636624 : True := trivial
theorem t1.tw6796684550764708275 : True := trivial
theorem t1.tw6839899573871660380 : True := trivial
theorem t1.tw6887824995185766663 : True := trivial
theorem t1.tw6908260525197465405 : True := trivial
theorem t1.tw6946639444998633233 : True := trivial
theorem t1.tw696016093718730979 : True := trivial
theorem t1.tw6984836563060623780 : True := trivial
theorem t1.tw7044489683619812185 : True := trivial
theorem t1.tw7057625645665460989 : True := trivial
theorem t1.tw709746305480127225 : True := trivial
theorem t1.tw7106715062020662371 : True := trivial
theorem t1.tw7124022524427255599 : True := trivial
theorem t1.tw7124298978794725099 : True := trivial
theorem t1.tw7131491748490803705 : True := trivial
theorem t1.tw7299562386156901649 : True := trivial
theorem t1.tw7315920757183088948 : True := trivial
theorem t1.tw7319204602857505404 : True := trivial
theorem t1.tw7385793882221293158 : True := trivial
theorem t1.tw7417939033416362279 : True := trivial
theorem t1.tw7428278825193465684 : True := trivial
theorem t1.tw7445893568731660468 : True := trivial
theorem t1.tw7484931787275249013 : True := trivial
theorem t1.tw7493945659246378246 : True := trivial
theorem t1.tw7538108930460237699 : True := trivial
theorem t1.tw7554931734461935588 : True := trivial
theorem t1.tw7590477077493205530 : True := trivial
theorem t1.tw769511141314966021 : True := trivial
theorem t1.tw7702658561470687203 : True := trivial
theorem t1.tw7766145522124135318 : True := trivial
theorem t1.tw7792043868674818013 : True := trivial
theorem t1.tw7799067108937970908 : True := trivial
theorem t1.tw7804847713313960389 : True := trivial
theorem t1.tw7815777374580856054 : True := trivial
theorem t1.tw7938117298792057037 : True := trivial
theorem t1.tw7963330740350552234 : True := trivial
theorem t1.tw8010778404552369023 : True := trivial
theorem t1.tw803652614047216888 : True := trivial
theorem t1.tw8080652529247687833 : True := trivial
theorem t1.tw808108982535446944 : True := trivial
theorem t1.tw8190814446026680384 : True := trivial
theorem t1.tw8295105910704068570 : True := trivial
theorem t1.tw8322920867729808715 : True := trivial
theorem t1.tw8342622235378687959 : True := trivial
theorem t1.tw841271967983583437 : True := trivial
theorem t1.tw843357067276851140 : True := trivial
theorem t1.tw8439011981217050729 : True := trivial
theorem t1.tw8665681424371875792 : True := trivial
theorem t1.tw87337026608472373 : True := trivial
theorem t1.tw8758175528895677745 : True := trivial
theorem t1.tw8835351127566478130 : True := trivial
theorem t1.tw8879676996487733489 : True := trivial
theorem t1.tw8899945934532773282 : True := trivial
theorem t1.tw8928899986227327764 : True := trivial
theorem t1.tw8968352604379999563 : True := trivial
theorem t1.tw898537441731837599 : True := trivial
theorem t1.tw9014540491972087938 : True := trivial
theorem t1.tw9100679327744733723 : True := trivial
theorem t1.tw911226106663967625 : True := trivial
theorem t1.tw9239504498112403229 : True := trivial
theorem t1.tw9245390145949067437 : True := trivial
theorem t1.tw9263021403724418151 : True := trivial
theorem t1.tw9299561701215087632 : True := trivial
theorem t1.tw9301587835675972454 : True := trivial
theorem t1.tw9338007212915023580 : True := trivial
theorem t1.tw9436682596091337618 : True := trivial
theorem t1.tw9440813786914767077 : True := trivial
theorem t1.tw9459319160984925554 : True := trivial
theorem t1.tw9468935157749784736 : True := trivial
theorem t1.tw9515889942734122678 : True := trivial
theorem t1.tw9626166958257003217 : True := trivial
theorem t1.tw9652795434734756194 : True := trivial
theorem t1.tw9657320626960764341 : True := trivial
section
local macro_rules | `(tactic| o_head $_) => `(tactic| skip)
set_option Elab.async true in
theorem t0 (n m : Nat) (h : n = 0) (h2 : m = 7) : n = 5 → m = 7 := by
  simp (disch := (k_dflt k_head)) only [h2, cond2]
  intro _; trivial
end
end Mine
set_option Elab.async false
open PySem PySem.W PyProof.Rows PySem.Calls PySem.Spec
namespace Mine
/- MB1 -/

/-! ## data -/
inductive D where
  | raw (v : Value)
  | none
  | bool (b : Bool)
  | int (i : Int)
  | str (x : Str)
  | bytes (b : Array UInt8)
  | tup (ds : List D)
  | lst (ds : List D)
  | map (ks : List Int) (ds : List D)
  | smap (ks : List Str) (ds : List D)
  | inst (C : Addr) (ks : List Str) (ds : List D)
  | obj (C dx : Addr)
  | range (a b : Int)

abbrev Fz := Addr → Obj → Prop
abbrev Le (φ ψ : Fz) : Prop := ∀ a o, φ a o → ψ a o

inductive Ents (w : World) : List DictEntry → List Str → List Value → Prop
  | nil : Ents w [] [] []
  | cons {x : Str} {t : Tok} {v : Value} {es : List DictEntry} {ks : List Str} {vs : List Value} : Ents w es ks vs → Ents w (⟨PyData.keyHash w.params x, .str x t, v⟩ :: es) (x :: ks) (v :: vs)

abbrev tupOf (vs : Array Value) (n : Nat) : Obj := { cls := .type "tuple", data := .seq vs n }

mutual
inductive Rep (prog : Program) (w : World) (φ : Fz) : Value → D → Prop
  | raw (v : Value) : Rep prog w φ v (.raw v)
  | none : Rep prog w φ .none .none
  | bool (b : Bool) : Rep prog w φ (.bool b) (.bool b)
  | int (i : Int) (t : Tok) : Rep prog w φ (.int i t) (.int i)
  | str (x : Str) (t : Tok) : Rep prog w φ (.str x t) (.str x)
  | bytes (b : Array UInt8) (t : Tok) : Rep prog w φ (.bytes b t) (.bytes b)
  | tup {a : Addr} {vs : List Value} {n : Nat} {ds : List D} : φ a (tupOf vs.toArray n) → RepAll prog w φ vs ds → Rep prog w φ (.ref a) (.tup ds)
  | lst {a : Addr} {vs : List Value} {n : Nat} {ds : List D} : φ a (listOf vs.toArray n) → RepAll prog w φ vs ds → Rep prog w φ (.ref a) (.lst ds)
  | map {a : Addr} {o : Obj} {kvs : List (Int × Value)} {ks : List Int} {ds : List D} : φ a o → o.IsDictOf (intKind prog w) kvs → kvs.map (·.1) = ks → RepAll prog w φ (kvs.map (·.2)) ds → (a == sysModules) = false → Rep prog w φ (.ref a) (.map ks ds)
  | smap {a : Addr} {o : Obj} {kvs : List (Str × Value)} {ks : List Str} {ds : List D} : φ a o → o.IsDictOf (strKind prog w) kvs → kvs.map (·.1) = ks → RepAll prog w φ (kvs.map (·.2)) ds → (a == sysModules) = false → Rep prog w φ (.ref a) (.smap ks ds)
  | inst {x C dx : Addr} {es : List DictEntry} {n : Nat} {ks : List Str} {vs : List Value} {ds : List D} : φ x (instObj C dx) → φ dx (dictOf es n) → Ents w es ks vs → ks.Nodup → RepAll prog w φ vs ds → Rep prog w φ (.ref x) (.inst C ks ds)
  | obj {x C dx : Addr} : φ x (instObj C dx) → Rep prog w φ (.ref x) (.obj C dx)
  | range {r : Addr} {a b : Int} {t u v : Tok} : φ r { cls := .type "range", data := .fields #[.int a t, .int b u, .int 1 v] } → Rep prog w φ (.ref r) (.range a b)
inductive RepAll (prog : Program) (w : World) (φ : Fz) : List Value → List D → Prop
  | nil : RepAll prog w φ [] []
  | cons {v : Value} {vs : List Value} {d : D} {ds : List D} : Rep prog w φ v d → RepAll prog w φ vs ds → RepAll prog w φ (v :: vs) (d :: ds)
end

section
variable {prog : Program} {w : World} {φ ψ : Fz}
theorem none_ne {α : Type} {a : α} {P : Prop} (e : (none : Option α) = some a) : P := nomatch e
theorem RepAll.ind {motive : List Value → List D → Prop} (nil : motive [] []) (cons : ∀ {v : Value} {vs : List Value} {d : D} {ds : List D}, Rep prog w φ v d → RepAll prog w φ vs ds → motive vs ds → motive (v :: vs) (d :: ds)) {vs : List Value} {ds : List D} (h : RepAll prog w φ vs ds) : motive vs ds :=
  RepAll.rec (motive_1 := fun _ _ _ => True) (motive_2 := fun vs ds _ => motive vs ds) (fun _ => trivial) trivial (fun _ => trivial) (fun _ _ => trivial) (fun _ _ => trivial) (fun _ _ => trivial) (fun _ _ _ => trivial) (fun _ _ _ => trivial) (fun _ _ _ _ _ _ => trivial) (fun _ _ _ _ _ _ => trivial) (fun _ _ _ _ _ _ => trivial) (fun _ => trivial) (fun _ => trivial) nil (fun a b _ ih => cons a b ih) h
theorem Rep.up (h : Le φ ψ) {v : Value} {d : D} (r : Rep prog w φ v d) : Rep prog w ψ v d :=
  Rep.rec (motive_1 := fun v d _ => Rep prog w ψ v d) (motive_2 := fun vs ds _ => RepAll prog w ψ vs ds) .raw .none .bool .int .str .bytes (fun a _ r => .tup (h _ _ a) r) (fun a _ r => .lst (h _ _ a) r) (fun a b c _ s r => .map (h _ _ a) b c r s) (fun a b c _ s r => .smap (h _ _ a) b c r s)
    (fun a b c n _ r => .inst (h _ _ a) (h _ _ b) c n r) (fun a => .obj (h _ _ a)) (fun a => .range (h _ _ a)) .nil (fun _ _ a b => .cons a b) r
theorem RepAll.up (h : Le φ ψ) {vs : List Value} {ds : List D} (r : RepAll prog w φ vs ds) : RepAll prog w ψ vs ds := r.ind .nil fun a _ b => .cons (a.up h) b
theorem RepAll.length {vs : List Value} {ds : List D} (r : RepAll prog w φ vs ds) : vs.length = ds.length := r.ind (motive := fun vs ds => vs.length = ds.length) rfl fun _ _ b => congrArg Nat.succ b
theorem RepAll.append {vs us : List Value} {ds es : List D} (r : RepAll prog w φ vs ds) (k : RepAll prog w φ us es) : RepAll prog w φ (vs ++ us) (ds ++ es) := r.ind (motive := fun vs ds => RepAll prog w φ (vs ++ us) (ds ++ es)) k fun a _ b => .cons a b
inductive GotV (prog : Program) (w : World) (φ : Fz) (vs : List Value) (i : Nat) (d : D) : Prop
  | mk (v : Value) (e : vs[i]? = some v) (r : Rep prog w φ v d)
inductive GotD (prog : Program) (w : World) (φ : Fz) (ds : List D) (i : Nat) (v : Value) : Prop
  | mk (d : D) (e : ds[i]? = some d) (r : Rep prog w φ v d)
theorem RepAll.getA {vs : List Value} {ds : List D} (r : RepAll prog w φ vs ds) : ∀ i : Nat, (∃ v d, vs[i]? = some v ∧ ds[i]? = some d ∧ Rep prog w φ v d) ∨ (vs[i]? = none ∧ ds[i]? = none) :=
  r.ind (motive := fun vs ds => ∀ i : Nat, (∃ v d, vs[i]? = some v ∧ ds[i]? = some d ∧ Rep prog w φ v d) ∨ (vs[i]? = none ∧ ds[i]? = none)) (fun _ => .inr ⟨rfl, rfl⟩) fun a _ b i => match i with
    | 0 => .inl ⟨_, _, rfl, rfl, a⟩
    | i + 1 => b i
theorem RepAll.get {vs : List Value} {ds : List D} {i : Nat} {d : D} (r : RepAll prog w φ vs ds) (e : ds[i]? = some d) : GotV prog w φ vs i d :=
  match r.getA i with
  | .inl ⟨v, _, a, b, r⟩ => ⟨v, a, Option.some.inj (b.symm.trans e) ▸ r⟩
  | .inr h => none_ne (h.2.symm.trans e)
theorem RepAll.getV {vs : List Value} {ds : List D} {i : Nat} {v : Value} (r : RepAll prog w φ vs ds) (e : vs[i]? = some v) : GotD prog w φ ds i v :=
  match r.getA i with
  | .inl ⟨_, d, a, b, r⟩ => ⟨d, b, Option.some.inj (a.symm.trans e) ▸ r⟩
  | .inr h => none_ne (h.1.symm.trans e)
theorem RepAll.set {vs : List Value} {ds : List D} {i : Nat} {v : Value} {d : D} (r : RepAll prog w φ vs ds) (a : Rep prog w φ v d) : RepAll prog w φ (vs.set i v) (ds.set i d) :=
  r.ind (motive := fun vs ds => ∀ i : Nat, RepAll prog w φ (vs.set i v) (ds.set i d)) (fun _ => .nil) (fun b r ih i => match i with
    | 0 => .cons a r
    | i + 1 => .cons b (ih i)) i
theorem RepAll.take {vs : List Value} {ds : List D} (i : Nat) (r : RepAll prog w φ vs ds) : RepAll prog w φ (vs.take i) (ds.take i) :=
  r.ind (motive := fun vs ds => ∀ i : Nat, RepAll prog w φ (vs.take i) (ds.take i)) (fun i => match i with
    | 0 => .nil
    | _ + 1 => .nil) (fun b _ ih i => match i with
    | 0 => .nil
    | i + 1 => .cons b (ih i)) i
theorem RepAll.reverse {vs : List Value} {ds : List D} (r : RepAll prog w φ vs ds) : RepAll prog w φ vs.reverse ds.reverse :=
  r.ind (motive := fun vs ds => RepAll prog w φ vs.reverse ds.reverse) .nil fun a _ b => by rw [List.reverse_cons, List.reverse_cons]; exact b.append (.cons a .nil)
end

/-! ## the symbolic state -/
inductive MO where
  | raw (o : Obj)
  | lst (ds : List D)
  | attrs (ks : List Str) (ds : List D)
  | map (ks : List Int) (ds : List D)
  | cell (d : Option D)
  | iter (ds : List D) (i : Nat)
inductive MRep (prog : Program) (w : World) (φ : Fz) : Obj → MO → Prop
  | raw (o : Obj) : MRep prog w φ o (.raw o)
  | lst {vs : List Value} {n : Nat} {ds : List D} : RepAll prog w φ vs ds → MRep prog w φ (listOf vs.toArray n) (.lst ds)
  | attrs {es : List DictEntry} {n : Nat} {ks : List Str} {vs : List Value} {ds : List D} : Ents w es ks vs → ks.Nodup → RepAll prog w φ vs ds → MRep prog w φ (dictOf es n) (.attrs ks ds)
  | map {o : Obj} {kvs : List (Int × Value)} {ks : List Int} {ds : List D} : o.IsDictOf (intKind prog w) kvs → kvs.map (·.1) = ks → RepAll prog w φ (kvs.map (·.2)) ds → MRep prog w φ o (.map ks ds)
  | cell0 {o : Obj} : o.data = .cell .none → MRep prog w φ o (.cell none)
  | cell1 {o : Obj} {v : Value} {d : D} : o.data = .cell (some v) → Rep prog w φ v d → MRep prog w φ o (.cell (some d))
  | iter {a : Addr} {vs : List Value} {n i : Nat} {o : Obj} {ds : List D} : φ a (listOf vs.toArray n) → RepAll prog w φ vs ds → o.cls = .type "list_iterator" → o.data = .fields #[.ref a, .int i 0] → MRep prog w φ o (.iter ds i)
theorem MRep.up {prog : Program} {w : World} {φ ψ : Fz} (h : Le φ ψ) {o : Obj} {d : MO} (r : MRep prog w φ o d) : MRep prog w ψ o d :=
  MRep.rec (motive := fun o d _ => MRep prog w ψ o d) .raw (fun r => .lst (r.up h)) (fun a n r => .attrs a n (r.up h)) (fun a b r => .map a b (r.up h)) .cell0 (fun e r => .cell1 e (r.up h)) (fun a r c d => .iter (h _ _ a) (r.up h) c d) r

abbrev Mp := List (Option D)
abbrev Lg := List (Addr × MO)

/-- what the names hold -/
def Names (prog : Program) (w : World) (φ : Fz) (ns : List Str) (m : Mp) (mv : Str → Option Value) : Prop :=
  ∀ (i : Nat) (x : Str) (d : D), ns[i]? = some x → m[i]? = some (some d) → ∃ v, mv x = some v ∧ Rep prog w φ v d

/-- the ground of every walk: the written part of the first heap -/
structure Gd (K : Frag) (φ : Fz) : Prop where
  ex : ∃ (h₀ : Heap) (p : Program) (loose : List Str) (mg mb : Str → Option Value), (∀ a o, h₀.get? a = some o → φ a o) ∧ K.In h₀ ∧ TopRead p loose mg mb h₀
theorem Gd.up {K : Frag} {φ ψ : Fz} (h : Le φ ψ) (G : Gd K φ) : Gd K ψ := let ⟨h₀, p, l, mg, mb, a, b⟩ := G.ex; ⟨h₀, p, l, mg, mb, fun x o e => h _ _ (a x o e), b⟩

/-- where a walk stands -/
structure Cx where
  prog : Program
  w : World
  K : Frag
  A : Around
  L : Addr
  ns : List Str

inductive NsOk (prog : Program) (w : World) (L : Addr) (ns : List Str) (φ : Fz) (m : Mp) (h : Heap) : Prop
  | mk (mv : Str → Option Value) (a : h.Ns L mv) (b : Names prog w φ ns m mv)
inductive LgOk (prog : Program) (w : World) (L : Addr) (φ : Fz) (h : Heap) (p : Addr × MO) : Prop
  | mk (l : p.1 ≠ L) (o : Obj) (e : h.get? p.1 = some o) (r : MRep prog w φ o p.2)
theorem LgOk.l {prog : Program} {w : World} {L : Addr} {φ : Fz} {h : Heap} {p : Addr × MO} (x : LgOk prog w L φ h p) : p.1 ≠ L := let ⟨a, _, _, _⟩ := x; a
structure Ok (c : Cx) (φ : Fz) (m : Mp) (ν : Lg) (h : Heap) : Prop where
  nsd : c.ns.Nodup
  ns : NsOk c.prog c.w c.L c.ns φ m h
  fz : ∀ a o, φ a o → h.get? a = some o
  fzL : ∀ a o, φ a o → a ≠ c.L
  fzN : ∀ a o, φ a o → ∀ p ∈ ν, p.1 ≠ a
  lg : ∀ p ∈ ν, LgOk c.prog c.w c.L φ h p
  nd : (ν.map (·.1)).Nodup
  gd : Gd c.K φ

structure Step (L : Addr) (φ : Fz) (ν : Lg) (h : Heap) (φ' : Fz) (ν' : Lg) (h' : Heap) : Prop where
  keep : ∀ a o, h.get? a = some o → a ≠ L → (∀ p ∈ ν, p.1 ≠ a) → h'.get? a = some o
  mono : Le φ φ'
  newφ : ∀ a o, φ' a o → φ a o ∨ (∃ p ∈ ν, p.1 = a) ∨ h.get? a = none
  newν : ∀ p ∈ ν', (∃ q ∈ ν, q.1 = p.1) ∨ h.get? p.1 = none

section
variable {c : Cx} {φ φ' φ'' : Fz} {m m' : Mp} {ν ν' ν'' : Lg} {h h' h'' : Heap}
theorem Step.refl {L : Addr} : Step L φ ν h φ ν h := ⟨fun _ _ e _ _ => e, fun _ _ e => e, fun _ _ e => .inl e, fun p hp => .inl ⟨p, hp, rfl⟩⟩
theorem Step.trans (o : Ok c φ' m' ν' h') (x : Step c.L φ ν h φ' ν' h') (y : Step c.L φ' ν' h' φ'' ν'' h'') : Step c.L φ ν h φ'' ν'' h'' := by
  have back : ∀ a, h'.get? a = none → (∃ p ∈ ν, p.1 = a) ∨ h.get? a = none := fun a e => by
    by_cases hn : ∃ p ∈ ν, p.1 = a
    · exact .inl hn
    · refine .inr ?_
      cases q : h.get? a with
      | none => rfl
      | some ob =>
        by_cases hL : a = c.L
        · obtain ⟨mv, hmv, _⟩ := o.ns
          obtain ⟨oL, _, _, hoL, _⟩ := hmv
          rw [hL, hoL] at e; cases e
        · have := x.keep a ob q hL fun p hp e' => hn ⟨p, hp, e'⟩
          rw [this] at e; cases e
  refine ⟨fun a ob e hL hn => y.keep a ob (x.keep a ob e hL hn) hL fun p hp e' => ?_, fun a ob e => y.mono _ _ (x.mono _ _ e), fun a ob e => ?_, fun p hp => ?_⟩
  · rcases x.newν p hp with ⟨q, hq, e2⟩ | e2
    · exact hn q hq (e2.trans e')
    · rw [e', e] at e2; cases e2
  · rcases y.newφ a ob e with e1 | ⟨p, hp, rfl⟩ | e1
    · exact x.newφ a ob e1
    · exact .inr (x.newν p hp)
    · exact .inr (back a e1)
  · rcases y.newν p hp with ⟨q, hq, e1⟩ | e1
    · rw [← e1]; exact x.newν q hq
    · exact back _ e1
end

/-- the end of a piece -/
inductive Fin {α β : Type} (c : Cx) (rel : Fz → α → β → Prop) (Q : β → Mp → Lg → Prop) (φ : Fz) (ν : Lg) (s : Shared) (a : α) (s' : Shared) : Prop
  | mk (h' : Heap) (tk : Nat) (φ' : Fz) (m' : Mp) (ν' : Lg) (b : β) (e : s' = { s with heap := h', toks := tk }) (o : Ok c φ' m' ν' h') (st : Step c.L φ ν s.heap φ' ν' h') (r : rel φ' a b) (q : Q b m' ν')

def RunAt {α β : Type} (c : Cx) (rel : Fz → α → β → Prop) (φ : Fz) (t : Sem α) (m : Mp) (ν : Lg) (Q : β → Mp → Lg → Prop) : Prop :=
  ∀ s : Shared, Ok c φ m ν s.heap → wpAny (model c.prog c.w) c.A t (Fin c rel Q φ ν s) (fun _ _ => False) s

def Run {α β : Type} (c : Cx) (rel : Fz → α → β → Prop) (t : Sem α) (m : Mp) (ν : Lg) (Q : β → Mp → Lg → Prop) : Prop :=
  ∀ φ, RunAt c rel φ t m ν Q

section
variable {α β γ δ : Type} {c : Cx} {rel : Fz → α → β → Prop} {rel' : Fz → γ → δ → Prop} {φ φ' : Fz} {m m' : Mp} {ν ν' : Lg} {Q : β → Mp → Lg → Prop} {P : δ → Mp → Lg → Prop} {s s₁ : Shared}

theorem Fin.after {h₁ : Heap} {tk₁ : Nat} {a : α} {s' : Shared} {φ₁ : Fz} {m₁ : Mp} {ν₁ : Lg} (o : Ok c φ₁ m₁ ν₁ h₁) (x : Step c.L φ ν s.heap φ₁ ν₁ h₁)
    (y : Fin c rel Q φ₁ ν₁ { s with heap := h₁, toks := tk₁ } a s') : Fin c rel Q φ ν s a s' :=
  let ⟨h', tk, φ', m', ν', b, e, o', z, r, q⟩ := y; ⟨h', tk, φ', m', ν', b, e, o', x.trans o z, r, q⟩

/-- one piece, then the next -/
theorem RunAt.chain {t : Sem α} {k : α → Sem γ} (r : RunAt c rel φ t m ν Q) (o : Ok c φ m ν s.heap)
    (n : ∀ a b φ₁ m₁ ν₁, Le φ φ₁ → rel φ₁ a b → Q b m₁ ν₁ → RunAt c rel' φ₁ (k a) m₁ ν₁ P) :
    wpAny (model c.prog c.w) c.A t (fun a s₁ => wpAny (model c.prog c.w) c.A (k a) (Fin c rel' P φ ν s) (fun _ _ => False) s₁) (fun _ _ => False) s := by
  refine wpAny_mono (r s o) (fun a s₁ f => ?_) fun _ _ x => x
  obtain ⟨h₁, tk₁, φ₁, m₁, ν₁, b, rfl, o₁, st, hr, q⟩ := f
  exact wpAny_mono (n a b φ₁ m₁ ν₁ st.mono hr q { s with heap := h₁, toks := tk₁ } o₁) (fun _ _ z => Fin.after o₁ st z) fun _ _ x => x

/-- the same, where what follows is any wp over the ends -/
theorem RunAt.use {t : Sem α} {R : α → Shared → Prop} (r : RunAt c rel φ t m ν Q) (o : Ok c φ m ν s.heap)
    (n : ∀ a b h₁ tk₁ φ₁ m₁ ν₁, Ok c φ₁ m₁ ν₁ h₁ → Step c.L φ ν s.heap φ₁ ν₁ h₁ → rel φ₁ a b → Q b m₁ ν₁ → R a { s with heap := h₁, toks := tk₁ }) {E : Value → Shared → Prop} :
    wpAny (model c.prog c.w) c.A t R E s := by
  refine wpAny_mono (r s o) (fun a s₁ f => ?_) fun _ _ x => x.elim
  obtain ⟨h₁, tk₁, φ₁, m₁, ν₁, b, rfl, o₁, st, hr, q⟩ := f
  exact n a b h₁ tk₁ φ₁ m₁ ν₁ o₁ st hr q

theorem RunAt.bind {t : Sem α} {k : α → Sem γ} (r : RunAt c rel φ t m ν Q)
    (n : ∀ a b φ₁ m₁ ν₁, Le φ φ₁ → rel φ₁ a b → Q b m₁ ν₁ → RunAt c rel' φ₁ (k a) m₁ ν₁ P) : RunAt c rel' φ (t >>= k) m ν P :=
  fun _ o => wpAny_bind (r.chain o n)
theorem RunAt.mono {t : Sem α} {Q' : β → Mp → Lg → Prop} (r : RunAt c rel φ t m ν Q) (q : ∀ b m' ν', Q b m' ν' → Q' b m' ν') : RunAt c rel φ t m ν Q' :=
  fun s o => wpAny_mono (r s o) (fun _ _ ⟨h, tk, φ', m', ν', b, e, o', z, hr, hq⟩ => ⟨h, tk, φ', m', ν', b, e, o', z, hr, q _ _ _ hq⟩) fun _ _ x => x
theorem Run.mono {t : Sem α} {Q' : β → Mp → Lg → Prop} (r : Run c rel t m ν Q) (q : ∀ b m' ν', Q b m' ν' → Q' b m' ν') : Run c rel t m ν Q' := fun φ => (r φ).mono q
theorem RunAt.pure {a : α} {b : β} (r : rel φ a b) (q : Q b m ν) : RunAt c rel φ (pure a) m ν Q :=
  fun s o => wpAny_pure ⟨s.heap, s.toks, φ, m, ν, b, rfl, o, .refl, r, q⟩
theorem RunAt.holding {vs : List Value} {t : Sem α} (r : RunAt c rel φ t m ν Q) : RunAt c rel φ (holding vs t) m ν Q := fun s o => wpAny_holding (r s o)
theorem RunAt.standAt {pos : Pos} {k : Unit → Sem α} (r : RunAt c rel φ (k ()) m ν Q) : RunAt c rel φ (standAt pos >>= k) m ν Q := fun s o => wpAny_bind (wpAny_standAt (r s o))
theorem RunAt.rule {tag : String} {k : Unit → Sem α} (r : RunAt c rel φ (k ()) m ν Q) : RunAt c rel φ (PySem.rule tag >>= k) m ν Q := fun s o => wpAny_bind (wpAny_rule (r s o))
theorem RunAt.point {k : Unit → Sem α} (r : RunAt c rel φ (k ()) m ν Q) : RunAt c rel φ (PySem.point >>= k) m ν Q := fun s o => wpAny_bind (wpAny_point (r s o))
theorem RunAt.fin {t : Sem α} {h₁ : Heap} {tk₁ : Nat} {φ₁ : Fz} {m₁ : Mp} {ν₁ : Lg} (r : RunAt c rel φ₁ t m₁ ν₁ Q) (o : Ok c φ₁ m₁ ν₁ h₁) (st : Step c.L φ ν s.heap φ₁ ν₁ h₁) :
    wpAny (model c.prog c.w) c.A t (Fin c rel Q φ ν s) (fun _ _ => False) { s with heap := h₁, toks := tk₁ } :=
  wpAny_mono (r { s with heap := h₁, toks := tk₁ } o) (fun _ _ z => Fin.after o st z) fun _ _ x => x
theorem RunAt.operate {vs : List Value} {t : Sem Value} {rl : Fz → Value → β → Prop} (r : RunAt c rl φ t m ν Q) : RunAt c rl φ (operate vs t) m ν Q := fun s o Γ p hΓ => by rw [Sem.wp_operate]; exact r s o Γ p hΓ
theorem RunAt.release {vs ks : List Value} {k : Unit → Sem α} (r : RunAt c rel φ (k ()) m ν Q) : RunAt c rel φ (release vs ks >>= k) m ν Q := fun s o Γ p hΓ => by
  rw [Sem.wp_bind', Sem.wp_release]; exact r s o Γ p hΓ
/-- an end where the heap stays -/
theorem Fin.here {a : α} {b : β} {tk : Nat} (o : Ok c φ m ν s.heap) (r : rel φ a b) (q : Q b m ν) : Fin c rel Q φ ν s a { s with toks := tk } := ⟨s.heap, tk, φ, m, ν, b, rfl, o, .refl, r, q⟩
end


/- INV: inversions, each once (they keep the compiled file small) -/
section
variable {prog : Program} {w : World} {φ : Fz} {v : Value} {P : Prop}
def RepV (prog : Program) (w : World) (φ : Fz) (v : Value) : D → Prop
  | .raw u => v = u
  | .none => v = .none
  | .bool b => v = .bool b
  | .int i => ∃ t, v = .int i t
  | .str x => ∃ t, v = .str x t
  | .bytes b => ∃ t, v = .bytes b t
  | .tup ds => ∀ P : Prop, (∀ a vs n, v = .ref a → φ a (tupOf (List.toArray vs) n) → RepAll prog w φ vs ds → P) → P
  | .lst ds => ∀ P : Prop, (∀ a vs n, v = .ref a → φ a (listOf (List.toArray vs) n) → RepAll prog w φ vs ds → P) → P
  | .map ks ds => ∀ P : Prop, (∀ a o kvs, v = .ref a → φ a o → o.IsDictOf (intKind prog w) kvs → kvs.map (·.1) = ks → RepAll prog w φ (kvs.map (·.2)) ds → (a == sysModules) = false → P) → P
  | .smap ks ds => ∀ P : Prop, (∀ a o kvs, v = .ref a → φ a o → o.IsDictOf (strKind prog w) kvs → kvs.map (·.1) = ks → RepAll prog w φ (kvs.map (·.2)) ds → (a == sysModules) = false → P) → P
  | .inst C ks ds => ∀ P : Prop, (∀ x dx es n vs, v = .ref x → φ x (instObj C dx) → φ dx (dictOf es n) → Ents w es ks vs → ks.Nodup → RepAll prog w φ vs ds → P) → P
  | .obj C dx => ∃ x, v = .ref x ∧ φ x (instObj C dx)
  | .range a b => ∀ P : Prop, (∀ r t u x, v = .ref r → φ r { cls := .type "range", data := .fields #[.int a t, .int b u, .int 1 x] } → P) → P
theorem Rep.out {d : D} (h : Rep prog w φ v d) : RepV prog w φ v d :=
  Rep.casesOn (motive_1 := fun v d _ => RepV prog w φ v d) h (fun _ => rfl) rfl (fun _ => rfl) (fun _ _ => ⟨_, rfl⟩) (fun _ _ => ⟨_, rfl⟩) (fun _ _ => ⟨_, rfl⟩) (fun a b _ k => k _ _ _ rfl a b) (fun a b _ k => k _ _ _ rfl a b) (fun a b c d e _ k => k _ _ _ rfl a b c d e) (fun a b c d e _ k => k _ _ _ rfl a b c d e)
    (fun a b c d e _ k => k _ _ _ _ _ rfl a b c d e) (fun a => ⟨_, rfl, a⟩) (fun a _ k => k _ _ _ _ rfl a)
theorem Rep.kNone (h : Rep prog w φ v .none) (k : v = .none → P) : P := k h.out
theorem Rep.kRaw {u : Value} (h : Rep prog w φ v (.raw u)) (k : v = u → P) : P := k h.out
theorem Rep.kBool {b : Bool} (h : Rep prog w φ v (.bool b)) (k : v = .bool b → P) : P := k h.out
theorem Rep.kInt {i : Int} (h : Rep prog w φ v (.int i)) (k : ∀ t, v = .int i t → P) : P := h.out.elim k
theorem Rep.kStr {x : Str} (h : Rep prog w φ v (.str x)) (k : ∀ t, v = .str x t → P) : P := h.out.elim k
theorem Rep.kBytes {b : Array UInt8} (h : Rep prog w φ v (.bytes b)) (k : ∀ t, v = .bytes b t → P) : P := h.out.elim k
theorem Rep.kTup {ds : List D} (h : Rep prog w φ v (.tup ds)) (k : ∀ a vs n, v = .ref a → φ a (tupOf (List.toArray vs) n) → RepAll prog w φ vs ds → P) : P := h.out P k
theorem Rep.kLst {ds : List D} (h : Rep prog w φ v (.lst ds)) (k : ∀ a vs n, v = .ref a → φ a (listOf (List.toArray vs) n) → RepAll prog w φ vs ds → P) : P := h.out P k
theorem Rep.kMap {ks : List Int} {ds : List D} (h : Rep prog w φ v (.map ks ds)) (k : ∀ a o kvs, v = .ref a → φ a o → o.IsDictOf (intKind prog w) kvs → kvs.map (·.1) = ks → RepAll prog w φ (kvs.map (·.2)) ds → (a == sysModules) = false → P) : P := h.out P k
theorem Rep.kSmap {ks : List Str} {ds : List D} (h : Rep prog w φ v (.smap ks ds)) (k : ∀ a o kvs, v = .ref a → φ a o → o.IsDictOf (strKind prog w) kvs → kvs.map (·.1) = ks → RepAll prog w φ (kvs.map (·.2)) ds → (a == sysModules) = false → P) : P := h.out P k
theorem Rep.kInst {C : Addr} {ks : List Str} {ds : List D} (h : Rep prog w φ v (.inst C ks ds)) (k : ∀ x dx es n vs, v = .ref x → φ x (instObj C dx) → φ dx (dictOf es n) → Ents w es ks vs → ks.Nodup → RepAll prog w φ vs ds → P) : P := h.out P k
theorem Rep.kObj {C dx : Addr} (h : Rep prog w φ v (.obj C dx)) (k : ∀ x, v = .ref x → φ x (instObj C dx) → P) : P := h.out.elim fun x a => k x a.1 a.2
theorem Rep.kRange {a b : Int} (h : Rep prog w φ v (.range a b)) (k : ∀ r t u x, v = .ref r → φ r { cls := .type "range", data := .fields #[.int a t, .int b u, .int 1 x] } → P) : P := h.out P k
def MRepV (prog : Program) (w : World) (φ : Fz) (o : Obj) : MO → Prop
  | .raw x => o = x
  | .lst ds => ∀ P : Prop, (∀ vs n, o = listOf (List.toArray vs) n → RepAll prog w φ vs ds → P) → P
  | .attrs ks ds => ∀ P : Prop, (∀ es n vs, o = dictOf es n → Ents w es ks vs → ks.Nodup → RepAll prog w φ vs ds → P) → P
  | .map ks ds => ∀ P : Prop, (∀ kvs, o.IsDictOf (intKind prog w) kvs → kvs.map (·.1) = ks → RepAll prog w φ (kvs.map (·.2)) ds → P) → P
  | .cell d => match d with
    | none => o.data = .cell .none
    | some d => ∀ P : Prop, (∀ v, o.data = .cell (some v) → Rep prog w φ v d → P) → P
  | .iter ds i => ∀ P : Prop, (∀ a vs n, φ a (listOf (List.toArray vs) n) → RepAll prog w φ vs ds → o.cls = .type "list_iterator" → o.data = .fields #[.ref a, .int i 0] → P) → P
theorem MRep.out {o : Obj} {d : MO} (h : MRep prog w φ o d) : MRepV prog w φ o d :=
  MRep.casesOn (motive := fun o d _ => MRepV prog w φ o d) h (fun _ => rfl) (fun a _ k => k _ _ rfl a) (fun a b c _ k => k _ _ _ rfl a b c) (fun a b c _ k => k _ a b c) (fun e => e) (fun e a _ k => k _ e a) (fun a b c d _ k => k _ _ _ a b c d)
theorem MRep.kRaw {o x : Obj} (h : MRep prog w φ o (.raw x)) (k : o = x → P) : P := k h.out
theorem MRep.kLst {o : Obj} {ds : List D} (h : MRep prog w φ o (.lst ds)) (k : ∀ vs n, o = listOf (List.toArray vs) n → RepAll prog w φ vs ds → P) : P := h.out P k
theorem MRep.kAttrs {o : Obj} {ks : List Str} {ds : List D} (h : MRep prog w φ o (.attrs ks ds)) (k : ∀ es n vs, o = dictOf es n → Ents w es ks vs → ks.Nodup → RepAll prog w φ vs ds → P) : P := h.out P k
theorem MRep.kMap {o : Obj} {ks : List Int} {ds : List D} (h : MRep prog w φ o (.map ks ds)) (k : ∀ kvs, o.IsDictOf (intKind prog w) kvs → kvs.map (·.1) = ks → RepAll prog w φ (kvs.map (·.2)) ds → P) : P := h.out P k
theorem MRep.kIter {o : Obj} {ds : List D} {i : Nat} (h : MRep prog w φ o (.iter ds i)) (k : ∀ a vs n, φ a (listOf (List.toArray vs) n) → RepAll prog w φ vs ds → o.cls = .type "list_iterator" → o.data = .fields #[.ref a, .int i 0] → P) : P := h.out P k
theorem RepAll.kNil {vs : List Value} (h : RepAll prog w φ vs []) (k : vs = [] → P) : P := by cases h; exact k rfl
theorem RepAll.kCons {vs : List Value} {d : D} {ds : List D} (h : RepAll prog w φ vs (d :: ds)) (k : ∀ u us, vs = u :: us → Rep prog w φ u d → RepAll prog w φ us ds → P) : P := by cases h with | cons a b => exact k _ _ rfl a b
end
local macro_rules | `(tactic| cases $h:ident) => `(tactic| first
  | (refine RepAll.kNil $h ?_; clear $h; intro e; subst e)
  | (refine Rep.kInt $h ?_; clear $h; intro _ e; subst e)
  | (refine Rep.kStr $h ?_; clear $h; intro _ e; subst e)
  | (refine Rep.kBool $h ?_; clear $h; intro e; subst e)
  | (refine Rep.kNone $h ?_; clear $h; intro e; subst e)
  | (refine Rep.kRaw $h ?_; clear $h; intro e; subst e)
  | (refine MRep.kRaw $h ?_; clear $h; intro e; subst e))
local macro_rules
  | `(tactic| cases $h:ident with | cons $a:ident $b:ident => $t:tacticSeq) => `(tactic| (refine RepAll.kCons $h ?_; clear $h; intro _ _ e $a $b; subst e; ($t)))
  | `(tactic| cases $h:ident with | int _ $b:ident => $t:tacticSeq) => `(tactic| (refine Rep.kInt $h ?_; clear $h; intro $b e; subst e; ($t)))
  | `(tactic| cases $h:ident with | str _ $b:ident => $t:tacticSeq) => `(tactic| (refine Rep.kStr $h ?_; clear $h; intro $b e; subst e; ($t)))
  | `(tactic| cases $h:ident with | @cons $v:ident _ _ _ $a:ident $b:ident => $t:tacticSeq) => `(tactic| (refine RepAll.kCons $h ?_; clear $h; intro $v _ e $a $b; subst e; ($t)))
  | `(tactic| cases $h:ident with | @tup $a:ident $vs:ident $n:ident _ $ha:ident $ra:ident => $t:tacticSeq) => `(tactic| (refine Rep.kTup $h ?_; clear $h; intro $a $vs $n e $ha $ra; subst e; ($t)))
  | `(tactic| cases $h:ident with | @lst $a:ident $vs:ident $n:ident _ $ha:ident $ra:ident => $t:tacticSeq) => `(tactic| (refine Rep.kLst $h ?_; clear $h; intro $a $vs $n e $ha $ra; subst e; ($t)))
  | `(tactic| cases $h:ident with | @range $r:ident _ _ $a:ident $b:ident $c:ident $hr:ident => $t:tacticSeq) => `(tactic| (refine Rep.kRange $h ?_; clear $h; intro $r $a $b $c e $hr; subst e; ($t)))
  | `(tactic| cases $h:ident with | obj $a:ident => $t:tacticSeq) => `(tactic| (refine Rep.kObj $h ?_; clear $h; intro _ e $a; subst e; ($t)))
  | `(tactic| cases $h:ident with | @inst $x:ident _ $dx:ident $es:ident $n:ident _ $vs:ident _ $a:ident $b:ident $e:ident $nd:ident $ra:ident => $t:tacticSeq) => `(tactic| (refine Rep.kInst $h ?_; clear $h; intro $x $dx $es $n $vs e $a $b $e $nd $ra; subst e; ($t)))
  | `(tactic| cases $h:ident with | @obj $x:ident _ $dx:ident $a:ident => $t:tacticSeq) => `(tactic| (refine Rep.kObj $h ?_; clear $h; intro $x e $a; subst e; ($t)))
  | `(tactic| cases $h:ident with | @lst $vs:ident $n:ident _ $ra:ident => $t:tacticSeq) => `(tactic| (refine MRep.kLst $h ?_; clear $h; intro $vs $n e $ra; subst e; ($t)))
  | `(tactic| cases $h:ident with | lst $ra:ident => $t:tacticSeq) => `(tactic| (refine MRep.kLst $h ?_; clear $h; intro _ _ e $ra; subst e; ($t)))
  | `(tactic| cases $h:ident with | @attrs $es:ident $n:ident _ $vs:ident _ $a:ident $b:ident $ra:ident => $t:tacticSeq) => `(tactic| (refine MRep.kAttrs $h ?_; clear $h; intro $es $n $vs e $a $b $ra; subst e; ($t)))
  | `(tactic| cases $h:ident with | attrs $a:ident $b:ident $ra:ident => $t:tacticSeq) => `(tactic| (refine MRep.kAttrs $h ?_; clear $h; intro _ _ _ e $a $b $ra; subst e; ($t)))
  | `(tactic| cases $h:ident with | @map _ $kvs:ident _ _ $a:ident $b:ident $ra:ident => $t:tacticSeq) => `(tactic| (refine MRep.kMap $h ?_; clear $h; intro $kvs $a $b $ra; ($t)))
  | `(tactic| cases $h:ident with | map $a:ident $b:ident $ra:ident => $t:tacticSeq) => `(tactic| (refine MRep.kMap $h ?_; clear $h; intro _ $a $b $ra; ($t)))
  | `(tactic| cases $h:ident with | @iter $l:ident $v:ident $n:ident _ _ _ $a:ident $b:ident $c:ident $d:ident => $t:tacticSeq) => `(tactic| (refine MRep.kIter $h ?_; clear $h; intro $l $v $n $a $b $c $d; ($t)))
local macro_rules | `(tactic| omega) => `(tactic| first
  | with_reducible assumption
  | decide +kernel
  | with_reducible exact Nat.le_trans (by assumption) (by decide +kernel)
  | with_reducible exact Nat.lt_of_le_of_lt (by assumption) (by decide +kernel)
  | with_reducible exact Int.natCast_nonneg _
  | with_reducible exact Nat.le_of_lt (by assumption)
  | with_reducible exact Int.le_trans (by assumption) (by decide +kernel)
  | with_reducible exact Int.lt_of_le_of_lt (by assumption) (by decide +kernel)
  | with_reducible exact Int.lt_of_lt_of_le (by assumption) (by decide +kernel)
  | with_reducible exact Int.le_of_lt (by assumption)
  | fail)
/- MB2 -/

abbrev V (c : Cx) : Fz → Value → D → Prop := Rep c.prog c.w
abbrev Vs (c : Cx) : Fz → List Value → List D → Prop := RepAll c.prog c.w
def eqr {α : Type} : Fz → α → α → Prop := fun _ a b => a = b
inductive FD where
  | next | brk | cont
  | ret (d : D)
inductive RepF (c : Cx) (φ : Fz) : Flow → FD → Prop
  | next : RepF c φ .next .next
  | brk : RepF c φ .brk .brk
  | cont : RepF c φ .cont .cont
  | ret {v : Value} {d : D} : Rep c.prog c.w φ v d → RepF c φ (.ret v) (.ret d)

/-- a local name and what it holds -/
inductive At : List Str → Mp → Str → D → Prop
  | head {x : Str} {ns : List Str} {d : D} {m : Mp} : At (x :: ns) (some d :: m) x d
  | tail {x y : Str} {ns : List Str} {o : Option D} {d : D} {m : Mp} : At ns m x d → At (y :: ns) (o :: m) x d
theorem At.get {ns : List Str} {m : Mp} {x : Str} {d : D} (h : At ns m x d) : ∃ i : Nat, ns[i]? = some x ∧ m[i]? = some (some d) := by
  induction h with
  | head => exact ⟨0, rfl, rfl⟩
  | tail _ ih => exact ih.elim fun i a => ⟨i + 1, a⟩
inductive SetAt : List Str → Mp → Str → D → Mp → Prop
  | head {x : Str} {ns : List Str} {d : D} {o : Option D} {m : Mp} : SetAt (x :: ns) (o :: m) x d (some d :: m)
  | tail {x y : Str} {ns : List Str} {o : Option D} {d : D} {m m' : Mp} : SetAt ns m x d m' → SetAt (y :: ns) (o :: m) x d (o :: m')
theorem SetAt.get {ns : List Str} {m m' : Mp} {x : Str} {d : D} (h : SetAt ns m x d m') : ∃ i : Nat, ns[i]? = some x ∧ m'[i]? = some (some d) ∧ ∀ j, j ≠ i → m'[j]? = m[j]? := by
  induction h with
  | head => exact ⟨0, rfl, rfl, fun j hj => match j, hj with
    | 0, hj => absurd rfl hj
    | _ + 1, _ => rfl⟩
  | tail _ ih => exact ih.elim fun i a => ⟨i + 1, a.1, a.2.1, fun j hj => match j, hj with
    | 0, _ => rfl
    | j + 1, hj => a.2.2 j fun e => hj (congrArg Nat.succ e)⟩
theorem At.mem {ns : List Str} {m : Mp} {x : Str} {d : D} (h : At ns m x d) : x ∈ ns := let ⟨_, a, _⟩ := h.get; List.mem_of_getElem? a
theorem SetAt.mem {ns : List Str} {m m' : Mp} {x : Str} {d : D} (h : SetAt ns m x d m') : x ∈ ns := let ⟨_, a, _⟩ := h.get; List.mem_of_getElem? a
/-- fewer things known -/
inductive Sub : Mp → Mp → Prop
  | nil : Sub [] []
  | same {o : Option D} {m m' : Mp} : Sub m m' → Sub (o :: m) (o :: m')
  | drop {o : Option D} {m m' : Mp} : Sub m m' → Sub (none :: m) (o :: m')
theorem Sub.get {m m' : Mp} {i : Nat} {d : D} (s : Sub m m') (e : m[i]? = some (some d)) : m'[i]? = some (some d) := by
  induction s generalizing i with
  | nil => exact e
  | same _ ih => exact match i, e with
    | 0, e => e
    | _ + 1, e => ih e
  | drop _ ih => exact match i, e with
    | 0, e => none_ne (Option.some.inj (show some (none : Option D) = some (some d) from e))
    | _ + 1, e => ih e
theorem Sub.refl : ∀ m : Mp, Sub m m
  | [] => .nil
  | _ :: m => .same (Sub.refl m)

structure EnvOk (c : Cx) (env : Env) : Prop where
  loc : env.locals = c.L
  kind : env.scope.kind = .function
  glob : env.globals = mainGlobals
  blt : env.builtins = builtinsNs
  nd : (env.scope.names.map (·.1)).Nodup
  own : ∀ x ∈ c.ns, (x, NameKind.local) ∈ env.scope.names
  dbg : ∀ p ∈ env.scope.names, (p.1 == ("__debug__" : Str)) = false

theorem lookup_of_nodup {α : Type} : ∀ {l : List (Str × α)} {x : Str} {k : α}, (l.map (·.1)).Nodup → (x, k) ∈ l → l.lookup x = some k
  | (y, j) :: r, x, k, hn, hm => by
    rw [List.map_cons, List.nodup_cons] at hn
    rcases List.mem_cons.mp hm with e | e
    · cases e; simp [List.lookup_cons]
    · have : (x == y) = false := by
        refine beq_eq_false_iff_ne.mpr fun q => hn.1 ?_
        rw [← q]; exact List.mem_map.mpr ⟨(x, k), e, rfl⟩
      rw [List.lookup_cons, this]; exact lookup_of_nodup hn.2 e
theorem EnvOk.kindOf {c : Cx} {env : Env} (E : EnvOk c env) {x : Str} {k : NameKind} (h : (x, k) ∈ env.scope.names) : env.kindOf x = some k := lookup_of_nodup E.nd h
theorem EnvOk.dbgOf {c : Cx} {env : Env} (E : EnvOk c env) {x : Str} {k : NameKind} (h : (x, k) ∈ env.scope.names) : (x == ("__debug__" : Str)) = false := E.dbg _ h

section
variable {c : Cx} {env : Env} {φ : Fz} {m m' : Mp} {ν ν' : Lg}

theorem Ok.weak {h : Heap} (o : Ok c φ m ν h) (s : Sub m' m) : Ok c φ m' ν h :=
  { o with ns := let ⟨mv, a, b⟩ := o.ns; ⟨mv, a, fun i x d e e' => b i x d e (s.get e')⟩ }
theorem RunAt.weak {α β : Type} {rel : Fz → α → β → Prop} {t : Sem α} {Q : β → Mp → Lg → Prop} (s : Sub m' m) (r : RunAt c rel φ t m' ν Q) : RunAt c rel φ t m ν Q :=
  fun sh o => r sh (o.weak s)
theorem Run.weak {α β : Type} {rel : Fz → α → β → Prop} {t : Sem α} {Q : β → Mp → Lg → Prop} (s : Sub m' m) (r : Run c rel t m' ν Q) : Run c rel t m ν Q := fun φ => (r φ).weak s

/-- a value that depends on nothing -/
def GD (K : Frag) (c : Cx) (x : Str) (d : D) : Prop :=
  ∃ v, (∀ φ, Rep c.prog c.w φ v d) ∧ (nsIn K mainGlobals x = some (some v) ∨ (nsIn K mainGlobals x = some none ∧ bootBuiltins x = some v ∧ x ≠ "__name__"))

theorem ev_local {x : Str} {pos : Pos} {d : D} {Q : D → Mp → Lg → Prop} (E : EnvOk c env) (a : At c.ns m x d) (q : Q d m ν) : Run c (V c) (eval (.Name x pos) env) m ν Q := by
  intro φ s o
  obtain ⟨mv, hn, hm⟩ := o.ns
  obtain ⟨i, hx, hd⟩ := a.get
  obtain ⟨v, hv, hr⟩ := hm i x d hx hd
  have hin := E.own x a.mem
  rw [← E.loc] at hn
  exact wpAny_Name (wpAny_loadName_local E.kind (E.kindOf hin) hn hv (Fin.here (tk := s.toks) o hr q)) (E.dbgOf hin)

theorem ev_global {x : Str} {pos : Pos} {d : D} {Q : D → Mp → Lg → Prop} (E : EnvOk c env) (g : GD c.K c x d) (hx : (x, NameKind.globalImplicit) ∈ env.scope.names) (q : Q d m ν) :
    Run c (V c) (eval (.Name x pos) env) m ν Q := by
  intro φ s o
  obtain ⟨v, hr, hg⟩ := g
  obtain ⟨h₀, p, loose, mg, mb, hk, hK, T⟩ := o.gd.ex
  have keep : ∀ b ob, h₀.get? b = some ob → s.heap.get? b = some ob := fun b ob e => o.fz _ _ (hk _ _ e)
  have G : s.heap.Ns env.globals mg := by rw [E.glob]; exact T.g.keeps keep
  have Bt : s.heap.Ns env.builtins mb := by rw [E.blt]; exact T.b.keeps keep
  refine Name_function_global E.kind (E.kindOf hx) ?_ (E.dbgOf hx)
  rcases hg with hg | ⟨hg, hb, hne⟩
  · exact loadGlobal_global G (mg_of hK T.g hg) (Fin.here (tk := s.toks) o (hr φ) q)
  · exact loadGlobal_builtin G (mg_none_of hK T.g hg) Bt ((T.builtins x hne).trans hb) (Fin.here (tk := s.toks) o (hr φ) q)

theorem ev_int {i : Int} {k : Nat} {pos : Pos} {Q : D → Mp → Lg → Prop} (q : Q (.int i) m ν) : Run c (V c) (eval (.Constant (.int i) k pos) env) m ν Q :=
  fun φ s o => wpAny_Constant_int (Fin.here (tk := s.toks + 1) o (.int _ _) q)
theorem ev_str {x : Str} {k : Nat} {pos : Pos} {Q : D → Mp → Lg → Prop} (q : Q (.str x) m ν) : Run c (V c) (eval (.Constant (.str x) k pos) env) m ν Q :=
  fun φ s o => wpAny_Constant_str (Fin.here (tk := s.toks + 1) o (.str _ _) q)
theorem ev_bool {b : Bool} {k : Nat} {pos : Pos} {Q : D → Mp → Lg → Prop} (q : Q (.bool b) m ν) : Run c (V c) (eval (.Constant (.bool b) k pos) env) m ν Q :=
  fun φ s o => wpAny_Constant_bool (Fin.here (tk := s.toks) o (.bool _) q)
theorem ev_none {k : Nat} {pos : Pos} {Q : D → Mp → Lg → Prop} (q : Q .none m ν) : Run c (V c) (eval (.Constant .none k pos) env) m ν Q :=
  fun φ s o => wpAny_Constant_none (Fin.here (tk := s.toks) o .none q)
theorem ev_bytes {l : List UInt8} {k : Nat} {pos : Pos} {Q : D → Mp → Lg → Prop} (q : Q (.bytes l.toArray) m ν) : Run c (V c) (eval (.Constant (.bytes l) k pos) env) m ν Q :=
  fun φ s o => wpAny_mkTextBytes (Fin.here (tk := s.toks + 1) o (.bytes _ _) q)

/-! operations upon data -/
def Bin (c : Cx) (op : Operator) (a b : D) (m : Mp) (ν : Lg) (Q : D → Mp → Lg → Prop) : Prop := ∀ φ u v, Rep c.prog c.w φ u a → Rep c.prog c.w φ v b → RunAt c (V c) φ (binaryOp op u v) m ν Q
def Inp (c : Cx) (op : Operator) (a b : D) (m : Mp) (ν : Lg) (Q : D → Mp → Lg → Prop) : Prop := ∀ φ u v, Rep c.prog c.w φ u a → Rep c.prog c.w φ v b → RunAt c (V c) φ (inplaceOp op u v) m ν Q
def Cmp (c : Cx) (op : CmpOp) (a b : D) (m : Mp) (ν : Lg) (Q : D → Mp → Lg → Prop) : Prop := ∀ φ u v, Rep c.prog c.w φ u a → Rep c.prog c.w φ v b → RunAt c (V c) φ (compareOp op u v) m ν Q
def Tru (c : Cx) (a : D) (m : Mp) (ν : Lg) (Q : Bool → Mp → Lg → Prop) : Prop := ∀ φ u, Rep c.prog c.w φ u a → RunAt c eqr φ (truthy u) m ν Q
def Una (c : Cx) (op : UnaryOp) (a : D) (m : Mp) (ν : Lg) (Q : D → Mp → Lg → Prop) : Prop := ∀ φ u, Rep c.prog c.w φ u a → RunAt c (V c) φ (unaryOp op u) m ν Q
def GetA (c : Cx) (a : D) (name : Str) (m : Mp) (ν : Lg) (Q : D → Mp → Lg → Prop) : Prop := ∀ φ u, Rep c.prog c.w φ u a → RunAt c (V c) φ (getAttr u name true) m ν Q
def Subs (c : Cx) (value slice : Expr) (a i : D) (m : Mp) (ν : Lg) (Q : D → Mp → Lg → Prop) : Prop := ∀ φ u v, Rep c.prog c.w φ u a → Rep c.prog c.w φ v i → RunAt c (V c) φ (subscriptTail value slice u v) m ν Q
def CallD (c : Cx) (f : Value) (ds : List D) (m : Mp) (ν : Lg) (Q : D → Mp → Lg → Prop) : Prop := ∀ φ vs, RepAll c.prog c.w φ vs ds → RunAt c (V c) φ (call f vs) m ν Q

/-- the same, as code: what a class calls -/
def CodeD (c : Cx) (f : Value) (ds : List D) (m : Mp) (ν : Lg) (Q : D → Mp → Lg → Prop) : Prop := ∀ φ vs, RepAll c.prog c.w φ vs ds → ∀ s : Shared, Ok c φ m ν s.heap →
  codeAny (model c.prog c.w) c.A (.call f ⟨vs, []⟩) (fun r s' => match r with | .ok (.ret v) => Fin c (V c) Q φ ν s v s' | .ok _ => False | .error _ => False) s
theorem CodeD.call {f : Value} {ds : List D} {Q : D → Mp → Lg → Prop} (h : CodeD c f ds m ν Q) : CallD c f ds m ν Q := fun φ vs ra s o => wpAny_call (h φ vs ra s o)

abbrev B_bin (c : Cx) (op : Operator) (a : D) (Q : D → Mp → Lg → Prop) (b : D) (m₂ : Mp) (ν₂ : Lg) : Prop := Bin c op a b m₂ ν₂ Q
abbrev B_cmp (c : Cx) (op : CmpOp) (a : D) (Q : D → Mp → Lg → Prop) (b : D) (m₂ : Mp) (ν₂ : Lg) : Prop := Cmp c op a b m₂ ν₂ Q
abbrev B_tru (c : Cx) (Q : Bool → Mp → Lg → Prop) (x : D) (m₃ : Mp) (ν₃ : Lg) : Prop := Tru c x m₃ ν₃ Q
abbrev Q_ev_BinOp (c : Cx) (env : Env) (r : Expr) (op : Operator) (Q : D → Mp → Lg → Prop) (a : D) (m₁ : Mp) (ν₁ : Lg) : Prop := Run c (V c) (eval r env) m₁ ν₁ (B_bin c op a Q)
theorem ev_BinOp {l r : Expr} {op : Operator} {pos : Pos} {Q : D → Mp → Lg → Prop}
    (h : Run c (V c) (eval l env) m ν (Q_ev_BinOp c env r op Q)) : Run c (V c) (eval (.BinOp l op r pos) env) m ν Q := by
  intro φ
  rw [eval_BinOp]
  exact (h φ).bind fun a d φ₁ m₁ ν₁ _ ra q => RunAt.bind (.holding (q φ₁)) fun b e φ₂ m₂ ν₂ le₂ rb q₂ => .standAt (.operate (q₂ φ₂ a b (ra.up le₂) rb))
abbrev Q_ev_Compare (c : Cx) (env : Env) (r : Expr) (op : CmpOp) (Q : D → Mp → Lg → Prop) (a : D) (m₁ : Mp) (ν₁ : Lg) : Prop := Run c (V c) (eval r env) m₁ ν₁ (B_cmp c op a Q)
theorem ev_Compare {l r : Expr} {op : CmpOp} {pos : Pos} {Q : D → Mp → Lg → Prop}
    (h : Run c (V c) (eval l env) m ν (Q_ev_Compare c env r op Q)) (hm : behindInMarks op r = false := by with_unfolding_all rfl) : Run c (V c) (eval (.Compare l [op] [r] pos) env) m ν Q := by
  intro φ
  rw [eval_Compare1, markedBehindIn_of_false hm]
  exact (h φ).bind fun a d φ₁ m₁ ν₁ _ ra q => RunAt.bind (.holding (q φ₁)) fun b e φ₂ m₂ ν₂ le₂ rb q₂ => .standAt (.operate (q₂ φ₂ a b (ra.up le₂) rb))
abbrev Q_ev_UnaryOp (c : Cx) (op : UnaryOp) (Q : D → Mp → Lg → Prop) (a : D) (m₁ : Mp) (ν₁ : Lg) : Prop := Una c op a m₁ ν₁ Q
theorem ev_UnaryOp {x : Expr} {op : UnaryOp} {pos : Pos} {Q : D → Mp → Lg → Prop} (h : Run c (V c) (eval x env) m ν (Q_ev_UnaryOp c op Q)) : Run c (V c) (eval (.UnaryOp op x pos) env) m ν Q := by
  intro φ
  rw [arm_eval_UnaryOp]
  exact (h φ).bind fun a d φ₁ m₁ ν₁ _ ra q => .standAt (.holding (q φ₁ a ra))

/-! tests -/
abbrev Tst (c : Cx) (env : Env) (e : Expr) (m : Mp) (ν : Lg) (Q : Bool → Mp → Lg → Prop) : Prop := Run c eqr (isTrue e env (eval e env)) m ν Q
abbrev Q_ts_Compare (c : Cx) (env : Env) (r : Expr) (op : CmpOp) (Q : Bool → Mp → Lg → Prop) (a : D) (m₁ : Mp) (ν₁ : Lg) : Prop := Run c (V c) (eval r env) m₁ ν₁ (B_cmp c op a (B_tru c Q))
theorem ts_Compare {l r : Expr} {op : CmpOp} {pos : Pos} {Q : Bool → Mp → Lg → Prop}
    (h : Run c (V c) (eval l env) m ν (Q_ts_Compare c env r op Q)) (hm : behindInMarks op r = false := by with_unfolding_all rfl) :
    Tst c env (.Compare l [op] [r] pos) m ν Q := by
  intro φ
  rw [isTrue_Compare1, markedBehindIn_of_false hm]
  exact (h φ).bind fun a d φ₁ m₁ ν₁ _ ra q => RunAt.bind (.holding (q φ₁)) fun b e φ₂ m₂ ν₂ le₂ rb q₂ => .standAt (RunAt.bind (.operate (q₂ φ₂ a b (ra.up le₂) rb)) fun x d φ₃ m₃ ν₃ _ rx q₃ => .holding (q₃ φ₃ x rx))
abbrev Q_ts_value (c : Cx) (Q : Bool → Mp → Lg → Prop) (a : D) (m₁ : Mp) (ν₁ : Lg) : Prop := Tru c a m₁ ν₁ Q
theorem ts_value {e : Expr} {Q : Bool → Mp → Lg → Prop} (h : Run c (V c) (eval e env) m ν (Q_ts_value c Q))
    (he : isTrue e env (eval e env) = (do let v ← eval e env; standAt e.pos; holding [v] (truthy v)) := by rfl) : Tst c env e m ν Q := by
  intro φ
  show RunAt c eqr φ (isTrue e env (eval e env)) m ν Q
  rw [he]
  exact (h φ).bind fun a d φ₁ m₁ ν₁ _ ra q => .standAt (.holding (q φ₁ a ra))
abbrev Q_ts_Not (Q : Bool → Mp → Lg → Prop) (b : Bool) (m₁ : Mp) (ν₁ : Lg) : Prop := Q (!b) m₁ ν₁
theorem ts_Not {x : Expr} {pos : Pos} {Q : Bool → Mp → Lg → Prop} (h : Tst c env x m ν (Q_ts_Not Q)) : Tst c env (.UnaryOp .Not x pos) m ν Q := by
  intro φ
  show RunAt c eqr φ (isTrue (.UnaryOp .Not x pos) env _) m ν Q
  rw [arm_isTrue_UnaryOp]
  exact (h φ).bind fun a d φ₁ m₁ ν₁ _ ra q => .pure (show _ = _ from congrArg _ ra) q
abbrev Q_ts_And2 (c : Cx) (env : Env) (y : Expr) (Q : Bool → Mp → Lg → Prop) (b : Bool) (m₁ : Mp) (ν₁ : Lg) : Prop := if b = true then Tst c env y m₁ ν₁ Q else Q false m₁ ν₁
theorem ts_And2 {x y : Expr} {pos : Pos} {Q : Bool → Mp → Lg → Prop} (h : Tst c env x m ν (Q_ts_And2 c env y Q)) : Tst c env (.BoolOp .And [x, y] pos) m ν Q := by
  intro φ s o
  refine wpAny_isTrue_BoolOp (wpAny_allTrue_And_cons ((h φ).use o fun b b' h₁ tk₁ φ₁ m₁ ν₁ o₁ st rb q => ?_))
  obtain rfl : b = b' := rb
  cases b with
  | false => exact ⟨h₁, tk₁, φ₁, m₁, ν₁, false, rfl, o₁, st, rfl, q⟩
  | true =>
    have q' : Tst c env y m₁ ν₁ Q := q
    refine wpAny_allTrue_And_cons ((q' φ₁).use o₁ fun b b' h₂ tk₂ φ₂ m₂ ν₂ o₂ st₂ rb q => ?_)
    obtain rfl : b = b' := rb
    cases b with
    | false => exact ⟨h₂, tk₂, φ₂, m₂, ν₂, false, rfl, o₂, st.trans o₁ st₂, rfl, q⟩
    | true => exact wpAny_allTrue_And_nil ⟨h₂, tk₂, φ₂, m₂, ν₂, true, rfl, o₂, st.trans o₁ st₂, rfl, q⟩
abbrev Q_ts_Or2 (c : Cx) (env : Env) (y : Expr) (Q : Bool → Mp → Lg → Prop) (b : Bool) (m₁ : Mp) (ν₁ : Lg) : Prop := if b = true then Q true m₁ ν₁ else Tst c env y m₁ ν₁ Q
theorem ts_Or2 {x y : Expr} {pos : Pos} {Q : Bool → Mp → Lg → Prop} (h : Tst c env x m ν (Q_ts_Or2 c env y Q)) : Tst c env (.BoolOp .Or [x, y] pos) m ν Q := by
  intro φ s o
  refine wpAny_isTrue_BoolOp (wpAny_allTrue_Or_cons ((h φ).use o fun b b' h₁ tk₁ φ₁ m₁ ν₁ o₁ st rb q => ?_))
  obtain rfl : b = b' := rb
  cases b with
  | true => exact ⟨h₁, tk₁, φ₁, m₁, ν₁, true, rfl, o₁, st, rfl, q⟩
  | false =>
    have q' : Tst c env y m₁ ν₁ Q := q
    refine wpAny_allTrue_Or_cons ((q' φ₁).use o₁ fun b b' h₂ tk₂ φ₂ m₂ ν₂ o₂ st₂ rb q => ?_)
    obtain rfl : b = b' := rb
    cases b with
    | true => exact ⟨h₂, tk₂, φ₂, m₂, ν₂, true, rfl, o₂, st.trans o₁ st₂, rfl, q⟩
    | false => exact wpAny_allTrue_Or_nil ⟨h₂, tk₂, φ₂, m₂, ν₂, false, rfl, o₂, st.trans o₁ st₂, rfl, q⟩
abbrev Q_ts_Compare2 (c : Cx) (env : Env) (r : Expr) (t : Expr) (op : CmpOp) (op' : CmpOp) (Q : Bool → Mp → Lg → Prop) (a : D) (m₁ : Mp) (ν₁ : Lg) : Prop := Run c (V c) (eval r env) m₁ ν₁ fun b m₂ ν₂ => Cmp c op a b m₂ ν₂ fun x m₃ ν₃ => Tru c x m₃ ν₃ fun y m₄ ν₄ =>
      if y = true then Run c (V c) (eval t env) m₄ ν₄ fun e m₅ ν₅ => Cmp c op' b e m₅ ν₅ fun z m₆ ν₆ => Tru c z m₆ ν₆ Q else Q false m₄ ν₄
/-- a chain of two comparisons, as a test -/
theorem ts_Compare2 {l r t : Expr} {op op' : CmpOp} {pos : Pos} {Q : Bool → Mp → Lg → Prop}
    (h : Run c (V c) (eval l env) m ν (Q_ts_Compare2 c env r t op op' Q))
    (he : isTrue (.Compare l [op, op'] [r, t] pos) env (eval (.Compare l [op, op'] [r, t] pos) env) = (do testChain pos (← eval l env) [op, op'] [eval r env, eval t env]) := by with_unfolding_all rfl) :
    Tst c env (.Compare l [op, op'] [r, t] pos) m ν Q := by
  intro φ
  show RunAt c eqr φ (isTrue (.Compare l [op, op'] [r, t] pos) env _) m ν Q
  rw [he]
  refine (h φ).bind fun a d φ₁ m₁ ν₁ _ ra q => ?_
  show RunAt c eqr φ₁ (do
    let rv ← holding [a] (eval r env)
    standAt pos
    let x ← holding [a, rv] (compareOp op a rv)
    release [a, rv] [x]
    if ← holding [x, rv] (truthy x) then testChain pos rv [op'] [eval t env] else pure false) m₁ ν₁ Q
  refine RunAt.bind (.holding (q φ₁)) fun b e φ₂ m₂ ν₂ le₂ rb q₂ => .standAt (RunAt.bind (.holding (q₂ φ₂ a b (ra.up le₂) rb)) fun x d φ₃ m₃ ν₃ le₃ rx q₃ => .release (RunAt.bind (.holding (q₃ φ₃ x rx)) fun y y' φ₄ m₄ ν₄ le₄ ry q₄ => ?_))
  obtain rfl : y = y' := ry
  cases y with
  | false => exact .pure rfl q₄
  | true =>
    show RunAt c eqr φ₄ (do
      let rv ← holding [b] (eval t env)
      standAt pos
      let x ← operate [b, rv] (compareOp op' b rv)
      holding [x] (truthy x)) m₄ ν₄ Q
    have q₄' : Run c (V c) (eval t env) m₄ ν₄ fun e m₅ ν₅ => Cmp c op' _ e m₅ ν₅ fun z m₆ ν₆ => Tru c z m₆ ν₆ Q := q₄
    exact RunAt.bind (.holding (q₄' φ₄)) fun f g φ₅ m₅ ν₅ le₅ rf q₅ => .standAt (RunAt.bind (.operate (q₅ φ₅ b f (((rb.up le₃).up le₄).up le₅) rf)) fun z d φ₆ m₆ ν₆ _ rz q₆ => .holding (q₆ φ₆ z rz))

abbrev Q_ev_IfExp (c : Cx) (env : Env) (b : Expr) (e : Expr) (Q : D → Mp → Lg → Prop) (x : Bool) (m₁ : Mp) (ν₁ : Lg) : Prop := if x = true then Run c (V c) (eval b env) m₁ ν₁ Q else Run c (V c) (eval e env) m₁ ν₁ Q
theorem ev_IfExp {t b e : Expr} {pos : Pos} {Q : D → Mp → Lg → Prop} (h : Tst c env t m ν (Q_ev_IfExp c env b e Q)) :
    Run c (V c) (eval (.IfExp t b e pos) env) m ν Q := by
  intro φ s o
  refine wpAny_IfExp ((h φ).use o fun x x' h₁ tk₁ φ₁ m₁ ν₁ o₁ st rb q => ?_)
  obtain rfl : x = x' := rb
  cases x with
  | false => exact RunAt.fin ((show Run c (V c) (eval e env) m₁ ν₁ Q from q) φ₁) o₁ st
  | true => exact RunAt.fin ((show Run c (V c) (eval b env) m₁ ν₁ Q from q) φ₁) o₁ st
theorem ev_And2 {x y : Expr} {pos : Pos} {Q : D → Mp → Lg → Prop}
    (h : Run c (V c) (eval x env) m ν fun a m₁ ν₁ => Tru c a m₁ ν₁ fun b m₂ ν₂ => if b = true then Run c (V c) (eval y env) m₂ ν₂ Q else Q a m₂ ν₂) : Run c (V c) (eval (.BoolOp .And [x, y] pos) env) m ν Q := by
  intro φ s o
  refine wpAny_And2 ((h φ).use o fun a d h₁ tk₁ φ₁ m₁ ν₁ o₁ st ra q => (q φ₁ a ra).use o₁ fun b b' h₂ tk₂ φ₂ m₂ ν₂ o₂ st₂ rb q₂ => ?_)
  obtain rfl : b = b' := rb
  cases b with
  | false => exact ⟨h₂, tk₂, φ₂, m₂, ν₂, d, rfl, o₂, st.trans o₁ st₂, ra.up st₂.mono, q₂⟩
  | true => exact RunAt.fin ((show Run c (V c) (eval y env) m₂ ν₂ Q from q₂) φ₂) o₂ (st.trans o₁ st₂)

/-! statements -/
abbrev Ex (c : Cx) (env : Env) (b : List Stmt) (m : Mp) (ν : Lg) (Q : FD → Mp → Lg → Prop) : Prop := Run c (RepF c) (execs b env) m ν Q
abbrev Ex1 (c : Cx) (env : Env) (b : Stmt) (m : Mp) (ν : Lg) (Q : FD → Mp → Lg → Prop) : Prop := Run c (RepF c) (exec b env) m ν Q
theorem ex_nil {Q : FD → Mp → Lg → Prop} (q : Q .next m ν) : Ex c env [] m ν Q := fun _ => RunAt.pure (a := Flow.next) .next q
abbrev SeqQ (c : Cx) (env : Env) (r : List Stmt) (Q : FD → Mp → Lg → Prop) (f : FD) (m₁ : Mp) (ν₁ : Lg) : Prop := match f with | .next => Ex c env r m₁ ν₁ Q | f => Q f m₁ ν₁
theorem ex_cons {st : Stmt} {r : List Stmt} {Q : FD → Mp → Lg → Prop} (h : Ex1 c env st m ν (SeqQ c env r Q)) : Ex c env (st :: r) m ν Q := by
  intro φ s o
  refine wpAny_execs_cons ((h φ).use o fun f d h₁ tk₁ φ₁ m₁ ν₁ o₁ st rf q => ?_)
  cases rf with
  | next => exact RunAt.fin (q φ₁) o₁ st
  | brk => exact ⟨h₁, tk₁, φ₁, m₁, ν₁, .brk, rfl, o₁, st, .brk, q⟩
  | cont => exact ⟨h₁, tk₁, φ₁, m₁, ν₁, .cont, rfl, o₁, st, .cont, q⟩
  | ret r => exact ⟨h₁, tk₁, φ₁, m₁, ν₁, .ret _, rfl, o₁, st, .ret r, q⟩
theorem ex_Pass {pos : Pos} {Q : FD → Mp → Lg → Prop} (q : Q .next m ν) : Ex1 c env (.Pass pos) m ν Q := fun φ s o => wpAny_Pass (Fin.here (tk := s.toks) o .next q)
abbrev Q_ex_Return (Q : FD → Mp → Lg → Prop) (d : D) (m₁ : Mp) (ν₁ : Lg) : Prop := Q (.ret d) m₁ ν₁
theorem ex_Return {e : Expr} {pos : Pos} {Q : FD → Mp → Lg → Prop} (h : Run c (V c) (eval e env) m ν (Q_ex_Return Q)) : Ex1 c env (.Return (some e) pos) m ν Q := fun φ s o =>
  wpAny_Return_some ((h φ).use o fun v d h₁ tk₁ φ₁ m₁ ν₁ o₁ st r q => ⟨h₁, tk₁, φ₁, m₁, ν₁, .ret d, rfl, o₁, st, .ret r, q⟩)
abbrev IfQ (c : Cx) (env : Env) (b e : List Stmt) (Q : FD → Mp → Lg → Prop) (x : Bool) (m₁ : Mp) (ν₁ : Lg) : Prop := if x = true then Ex c env b m₁ ν₁ Q else Ex c env e m₁ ν₁ Q
theorem ex_If {t : Expr} {b e : List Stmt} {pos : Pos} {Q : FD → Mp → Lg → Prop} (h : Tst c env t m ν (IfQ c env b e Q)) : Ex1 c env (.If t b e pos) m ν Q := by
  intro φ s o
  refine wpAny_If ((h φ).use o fun x x' h₁ tk₁ φ₁ m₁ ν₁ o₁ st rb q => ?_)
  obtain rfl : x = x' := rb
  cases x with
  | false => exact RunAt.fin ((show Ex c env e m₁ ν₁ Q from q) φ₁) o₁ st
  | true => exact RunAt.fin ((show Ex c env b m₁ ν₁ Q from q) φ₁) o₁ st

theorem Ok.store {h h' : Heap} {mv : Str → Option Value} {x : Str} {v : Value} {d : D} (o : Ok c φ m ν h) (hmv : Names c.prog c.w φ c.ns m mv) (sa : SetAt c.ns m x d m') (r : Rep c.prog c.w φ v d)
    (hn : h'.Ns c.L (fun y => if y = x then some v else mv y)) (hs : Heap.SameBut c.L h h') : Ok c φ m' ν h' where
  nsd := o.nsd
  ns := ⟨_, hn, fun i y e hy he => by
    obtain ⟨j, hj, hd, hr⟩ := sa.get
    by_cases q : i = j
    · subst q
      rw [hj] at hy; cases hy
      rw [hd] at he; cases he
      exact ⟨v, by simp, r⟩
    · rw [hr i q] at he
      obtain ⟨u, hu, ru⟩ := hmv i y e hy he
      have hne : y ≠ x := fun e' => q (by
        subst e'
        obtain ⟨hi, ei⟩ := List.getElem?_eq_some_iff.mp hy
        exact (List.getElem?_inj hi o.nsd).mp (hy.trans hj.symm))
      exact ⟨u, by simp [hne, hu], ru⟩⟩
  fz := fun a ob e => (hs.2 a (o.fzL a ob e)).trans (o.fz a ob e)
  fzL := o.fzL
  fzN := o.fzN
  lg := fun p hp => let ⟨a, ob, b, r⟩ := o.lg p hp; ⟨a, ob, (hs.2 _ a).trans b, r⟩
  nd := o.nd
  gd := o.gd
theorem Step.but {L : Addr} {h h' : Heap} (hs : Heap.SameBut L h h') : Step L φ ν h φ ν h' :=
  ⟨fun a o e hL _ => (hs.2 a hL).trans e, fun _ _ e => e, fun _ _ e => .inl e, fun p hp => .inl ⟨p, hp, rfl⟩⟩
/-- storing a value under a local name -/
theorem store_local {x : Str} {v : Value} {d : D} {Q : Unit → Mp → Lg → Prop} (E : EnvOk c env) (r : Rep c.prog c.w φ v d) (sa : SetAt c.ns m x d m') (q : Q () m' ν) : RunAt c eqr φ (storeName env x v) m ν Q := by
  intro s o
  obtain ⟨mv, hn, hm⟩ := o.ns
  have hin := E.own x sa.mem
  refine wpAny_storeName_local (E.kindOf hin) (by rw [E.loc]; exact hn) (fun h' hn' hs => ?_) (by rw [E.kind]; rfl)
  rw [E.loc] at hn' hs
  exact ⟨h', _, φ, m', ν, (), rfl, o.store hm sa r hn' hs, .but hs, rfl, q⟩
abbrev Q_ex_Assign (c : Cx) (x : Str) (Q : FD → Mp → Lg → Prop) (d : D) (m₁ : Mp) (ν₁ : Lg) : Prop := ∃ m₂, SetAt c.ns m₁ x d m₂ ∧ Q .next m₂ ν₁
theorem ex_Assign {x : Str} {p pos : Pos} {e : Expr} {Q : FD → Mp → Lg → Prop} (E : EnvOk c env) (h : Run c (V c) (eval e env) m ν (Q_ex_Assign c x Q))
    (hs : swapsWith e (some (.Name x p)) pos.line env = pure false := by rfl) : Ex1 c env (.Assign [.Name x p] e pos) m ν Q := by
  intro φ s o
  refine wpAny_Assign_Name ((h φ).use o fun v d h₁ tk₁ φ₁ m₁ ν₁ o₁ st r q => ?_) hs
  obtain ⟨m₂, sa, q⟩ := q
  refine (store_local (Q := fun _ m ν => Q .next m ν) E r sa q).use o₁ fun _ _ h₂ tk₂ φ₂ m₃ ν₃ o₂ st₂ _ q₂ => ⟨h₂, tk₂, φ₂, m₃, ν₃, .next, rfl, o₂, st.trans o₁ st₂, .next, q₂⟩
abbrev Q_ex_AugAssign (c : Cx) (x : Str) (op : Operator) (d : D) (Q : FD → Mp → Lg → Prop) (b : D) (m₁ : Mp) (ν₁ : Lg) : Prop := Inp c op d b m₁ ν₁ fun r m₂ ν₂ => ∃ m₃, SetAt c.ns m₂ x r m₃ ∧ Q .next m₃ ν₂
theorem ex_AugAssign {x : Str} {p pos : Pos} {op : Operator} {e : Expr} {d : D} {Q : FD → Mp → Lg → Prop} (E : EnvOk c env) (a : At c.ns m x d)
    (h : Run c (V c) (eval e env) m ν (Q_ex_AugAssign c x op d Q)) : Ex1 c env (.AugAssign (.Name x p) op e pos) m ν Q := by
  intro φ s o
  obtain ⟨mv, hn, hm⟩ := o.ns
  obtain ⟨i, hx, hd⟩ := a.get
  obtain ⟨v, hv, hr⟩ := hm i x d hx hd
  have hin := E.own x a.mem
  rw [← E.loc] at hn
  refine wpAny_AugAssign_Name (wpAny_loadName_local E.kind (E.kindOf hin) hn hv ((h φ).use o fun u b h₁ tk₁ φ₁ m₁ ν₁ o₁ st r q => (q φ₁ v u (hr.up st.mono) r).use o₁ fun y z h₂ tk₂ φ₂ m₂ ν₂ o₂ st₂ r₂ q₂ => ?_))
  obtain ⟨m₃, sa, q₃⟩ := q₂
  refine (store_local (Q := fun _ m ν => Q .next m ν) E r₂ sa q₃).use o₂ fun _ _ h₃ tk₃ φ₃ m₄ ν₄ o₃ st₃ _ q₄ => ⟨h₃, tk₃, φ₃, m₄, ν₄, .next, rfl, o₃, (st.trans o₁ st₂).trans o₂ st₃, .next, q₄⟩
end

theorem ite_dec {p : Prop} [Decidable p] {A B : Prop} (a : p → A) (b : ¬ p → B) : if decide p = true then A else B := by
  by_cases h : p
  · simp [h]; exact a h
  · simp [h]; exact b h

/- MB3 -/

theorem Ns_ex {h : Heap} {L : Addr} {m : Str → Option Value} (n : h.Ns L m) : ∃ o, h.get? L = some o := let ⟨o, _, _, e, _⟩ := n; ⟨o, e⟩

section
variable {c : Cx} {φ φ' : Fz} {m m₀ m' : Mp} {ν νm νr ν' : Lg} {h h₁ h' : Heap}

abbrev Cx.in (c : Cx) (A : Around) (L : Addr) (ns : List Str) : Cx := { c with A := A, L := L, ns := ns }

/-- a frame laid upon the heap -/
theorem Ok.enter {A : Around} {L' : Addr} {ns' : List Str} {mv : Str → Option Value} (o : Ok c φ m (νm ++ νr) h) (hk : ∀ b ob, h.get? b = some ob → h₁.get? b = some ob) (hL : h.get? L' = none)
    (hnd : ns'.Nodup) (hns : h₁.Ns L' mv) (hm : Names c.prog c.w φ ns' m₀ mv) : Ok (c.in A L' ns') φ m₀ νm h₁ where
  nsd := hnd
  ns := ⟨mv, hns, hm⟩
  fz := fun a ob e => hk _ _ (o.fz _ _ e)
  fzL := fun a ob e q => by have := o.fz _ _ e; rw [q, hL] at this; cases this
  fzN := fun a ob e p hp => o.fzN a ob e p (List.mem_append_left _ hp)
  lg := fun p hp => by
    obtain ⟨a, ob, b, r⟩ := o.lg p (List.mem_append_left _ hp)
    exact ⟨fun q => (by rw [q, hL] at b; exact nomatch b), ob, hk _ _ b, r⟩
  nd := by have := o.nd; rw [List.map_append, List.nodup_append] at this; exact this.1
  gd := o.gd

theorem nest {A : Around} {L' : Addr} {ns' : List Str} (o : Ok c φ m (νm ++ νr) h) (hk : ∀ b ob, h.get? b = some ob → h₁.get? b = some ob) (hL : h.get? L' = none)
    (o' : Ok (c.in A L' ns') φ' m' ν' h') (st : Step L' φ νm h₁ φ' ν' h') : Ok c φ' m (ν' ++ νr) h' ∧ Step c.L φ (νm ++ νr) h φ' (ν' ++ νr) h' := by
  obtain ⟨mv, hns, hmv⟩ := o.ns
  obtain ⟨oL, hoL⟩ := Ns_ex hns
  have hoL₁ := hk _ _ hoL
  have hLL : c.L ≠ L' := fun q => by rw [q, hL] at hoL; cases hoL
  have hLm : ∀ p ∈ νm, p.1 ≠ c.L := fun p hp => (o.lg p (List.mem_append_left _ hp)).l
  have nd := o.nd
  rw [List.map_append, List.nodup_append] at nd
  obtain ⟨nd1, nd2, nd3⟩ := nd
  have exr : ∀ p ∈ νr, ∃ ob, h₁.get? p.1 = some ob := fun p hp => let ⟨_, ob, e, _⟩ := o.lg p (List.mem_append_right _ hp); ⟨ob, hk _ _ e⟩
  have dis : ∀ p ∈ νm, ∀ q ∈ νr, p.1 ≠ q.1 := fun p hp q hq => nd3 _ (List.mem_map_of_mem hp) _ (List.mem_map_of_mem hq)
  have keepL : ∀ ob, h.get? c.L = some ob → h'.get? c.L = some ob := fun ob e => st.keep _ _ (hk _ _ e) hLL hLm
  have none1 : ∀ a, h₁.get? a = none → h.get? a = none := fun a e => by
    cases q : h.get? a with
    | none => rfl
    | some ob => rw [hk _ _ q] at e; cases e
  constructor
  · exact {
      nsd := o.nsd
      ns := ⟨mv, hns.at' keepL, fun i x d a b => let ⟨v, e, r⟩ := hmv i x d a b; ⟨v, e, r.up st.mono⟩⟩
      fz := o'.fz
      fzL := fun a ob e q => by
        rcases st.newφ a ob e with e | ⟨p, hp, e⟩ | e
        · exact o.fzL a ob e q
        · exact hLm p hp (e.trans q)
        · rw [q, hoL₁] at e; cases e
      fzN := fun a ob e p hp q => by
        rcases List.mem_append.mp hp with hp | hp
        · exact o'.fzN a ob e p hp q
        · rcases st.newφ a ob e with e | ⟨p', hp', e⟩ | e
          · exact o.fzN a ob e p (List.mem_append_right _ hp) q
          · exact dis p' hp' p hp (e.trans q.symm)
          · obtain ⟨ob', e'⟩ := exr p hp; rw [q, e] at e'; cases e'
      lg := fun p hp => by
        rcases List.mem_append.mp hp with hp | hp
        · obtain ⟨a, ob, b, r⟩ := o'.lg p hp
          refine ⟨fun q => ?_, ob, b, r⟩
          rcases st.newν p hp with ⟨q', hq', e⟩ | e
          · exact hLm q' hq' (e.trans q)
          · rw [q, hoL₁] at e; cases e
        · obtain ⟨a, ob, b, r⟩ := o.lg p (List.mem_append_right _ hp)
          refine ⟨a, ob, st.keep _ _ (hk _ _ b) (fun q => ?_) (fun p' hp' => dis p' hp' p hp), r.up st.mono⟩
          rw [q, hL] at b; cases b
      nd := by
        rw [List.map_append, List.nodup_append]
        refine ⟨o'.nd, nd2, fun a ha b hb q => ?_⟩
        obtain ⟨p, hp, rfl⟩ := List.mem_map.mp ha
        obtain ⟨p', hp', rfl⟩ := List.mem_map.mp hb
        rcases st.newν p hp with ⟨q', hq', e⟩ | e
        · exact dis q' hq' p' hp' (e.trans q)
        · obtain ⟨ob', e'⟩ := exr p' hp'; rw [← q, e] at e'; cases e'
      gd := o'.gd }
  · refine ⟨fun a ob e aL aN => st.keep a ob (hk _ _ e) (fun q => by rw [q, hL] at e; cases e) fun p hp => aN p (List.mem_append_left _ hp), st.mono, fun a ob e => ?_, fun p hp => ?_⟩
    · rcases st.newφ a ob e with e | ⟨p, hp, e⟩ | e
      · exact .inl e
      · exact .inr (.inl ⟨p, List.mem_append_left _ hp, e⟩)
      · exact .inr (.inr (none1 _ e))
    · rcases List.mem_append.mp hp with hp | hp
      · rcases st.newν p hp with ⟨q, hq, e⟩ | e
        · exact .inl ⟨q, List.mem_append_left _ hq, e⟩
        · exact .inr (none1 _ e)
      · exact .inl ⟨p, List.mem_append_right _ hp, rfl⟩

def retD : FD → D
  | .ret d => d
  | _ => .none
def retV : Flow → Value
  | .ret v => v
  | _ => .none
theorem RepF.retV {f : Flow} {d : FD} (r : RepF c φ f d) : Rep c.prog c.w φ (retV f) (retD d) := by
  cases r with
  | next => exact .none
  | brk => exact .none
  | cont => exact .none
  | ret r => exact r
theorem retV_eq (f : Flow) : (match f with | .ret v => v | _ => Value.none) = retV f := by cases f <;> rfl
theorem Gd.get {K : Frag} (G : Gd K φ) {a : Addr} {ob : Obj} (e : K.lookup a = some ob) : φ a ob := let ⟨_, _, _, _, _, k, X, _⟩ := G.ex; k _ _ (X _ _ e)
theorem Ok.inK (o : Ok c φ m ν h) : c.K.In h := fun a ob e => o.fz _ _ (o.gd.get e)
theorem Ok.noLimit (o : Ok c φ m ν h) : h.NoLimit := let ⟨_, _, _, _, _, k, _, T⟩ := o.gd.ex; T.nolimit.keeps fun b ob e => o.fz _ _ (k _ _ e)

end

/- MB4 -/

def badIters : List String := ["enumerate", "zip", "dict_itemiterator", "dict_reverseitemiterator", "odict_iterator", "itertools.zip_longest", "itertools.pairwise"]

abbrev HasF (φ : Fz) (h : Heap) : Prop := ∀ a o, φ a o → h.get? a = some o
inductive LgH (prog : Program) (w : World) (φ : Fz) (h : Heap) (p : Addr × MO) : Prop
  | mk (o : Obj) (e : h.get? p.1 = some o) (r : MRep prog w φ o p.2)
abbrev HasL (prog : Program) (w : World) (φ : Fz) (ν : Lg) (h : Heap) : Prop := ∀ p ∈ ν, LgH prog w φ h p
theorem Ok.hasL {c : Cx} {φ : Fz} {m : Mp} {ν : Lg} {h : Heap} (o : Ok c φ m ν h) : HasL c.prog c.w φ ν h := fun p hp => let ⟨_, ob, e, r⟩ := o.lg p hp; ⟨ob, e, r⟩

/-- an iterator at I that hands out ds -/
structure Walk (prog : Program) (w : World) (A : Around) (I : Addr) (ds : List D) (Kν : Lg → Prop) (Sφ : Fz → Prop) (St : Nat → Obj → Prop) : Prop where
  up : ∀ {φ ψ : Fz}, Le φ ψ → Sφ φ → Sφ ψ
  cls : ∀ i o, St i o → ∃ n, o.cls = .type n ∧ badIters.contains n = false
  item : ∀ i (φ : Fz) (ν : Lg) (s : Shared) (E : Value → Shared → Prop) (R : Option Value → Shared → Prop) (o : Obj), HasF φ s.heap → HasL prog w φ ν s.heap → (∀ a o, φ a o → a ≠ I) → (∀ p ∈ ν, p.1 ≠ I) → Sφ φ → Kν ν → s.heap.get? I = some o → St i o → i < ds.length →
    (∀ v d h' tk o', ds[i]? = some d → Rep prog w φ v d → h'.get? I = some o' → St (i + 1) o' → (∀ b ob, b ≠ I → s.heap.get? b = some ob → h'.get? b = some ob) → R (some v) { s with heap := h', toks := tk }) → wpAny (model prog w) A (pyNext (.ref I)) R E s
  done : ∀ (φ : Fz) (ν : Lg) (s : Shared) (E : Value → Shared → Prop) (R : Option Value → Shared → Prop) (o : Obj), HasF φ s.heap → HasL prog w φ ν s.heap → (∀ a o, φ a o → a ≠ I) → (∀ p ∈ ν, p.1 ≠ I) → Sφ φ → Kν ν → s.heap.get? I = some o → St ds.length o →
    (∀ h' tk, (∀ b ob, b ≠ I → s.heap.get? b = some ob → h'.get? b = some ob) → R none { s with heap := h', toks := tk }) → wpAny (model prog w) A (pyNext (.ref I)) R E s
  self : ∀ i (s : Shared) (E : Value → Shared → Prop) (R : Value → Shared → Prop) (o : Obj), s.heap.get? I = some o → St i o → R (.ref I) s → wpAny (model prog w) A (pyIter (.ref I)) R E s

/-- d is walked as ds, as long as the ledger is as Kν says -/
def IterD (prog : Program) (w : World) (A : Around) (d : D) (ds : List D) (Kν : Lg → Prop) : Prop :=
  ∀ (φ : Fz) (v : Value) (ν : Lg) (s : Shared) (R : Value → Shared → Prop) (E : Value → Shared → Prop), Rep prog w φ v d → HasF φ s.heap → HasL prog w φ ν s.heap → Kν ν →
    (∀ I h' tk o Sφ St, s.heap.get? I = none → Walk prog w A I ds Kν Sφ St → Sφ φ → h'.get? I = some o → St 0 o → (∀ b ob, s.heap.get? b = some ob → h'.get? b = some ob) → R (.ref I) { s with heap := h', toks := tk }) →
    wpAny (model prog w) A (pyIter v) R E s

theorem size_none (h : Heap) : h.get? h.objs.size = none := by
  cases q : h.get? h.objs.size with
  | none => rfl
  | some ob => exact absurd (Heap.lt_size q) (Nat.lt_irrefl _)

section
variable {prog : Program} {w : World} {A : Around} {ds : List D}
theorem iter_lst (hh : A.handled = none) : IterD prog w A (.lst ds) ds (fun _ => True) := by
  intro φ v ν s R E r hf hl hk h
  cases r with
  | @lst a vs n _ ha ra =>
    have L : s.heap.IsList a vs.toArray := ⟨_, hf _ _ ha, rfl, n, rfl⟩
    refine wpAny_pyIter_list L (h _ _ s.toks _ (fun φ => φ a (listOf vs.toArray n) ∧ RepAll prog w φ vs ds) (fun i o => o.cls = .type "list_iterator" ∧ o.data = .fields #[.ref a, .int i 0]) (size_none _) ?_ ⟨ha, ra⟩ (Heap.get?_push_size _ rfl) ⟨rfl, rfl⟩ fun b ob e => Heap.get?_push_of_some _ e)
    refine ⟨fun le x => ⟨le _ _ x.1, x.2.up le⟩, fun i o x => ⟨_, x.1, by decide +kernel⟩, ?_, ?_, ?_⟩
    · intro i φ ν s E R o hf hl hI hN sp _ ho st hi k
      obtain ⟨d, hd⟩ : ∃ d, ds[i]? = some d := ⟨ds[i], by simp [hi]⟩
      obtain ⟨v, hv, rv⟩ := sp.2.get hd
      refine wpAny_pyNext_list_item (i := i) (l := a) (items := vs.toArray) ⟨o, ho, st.1, st.2⟩ ⟨_, hf _ _ sp.1, rfl, n, rfl⟩ (x := v) (by simpa using hv) fun h' hit hs => ?_
      obtain ⟨o', ho', hc', hd'⟩ := hit
      exact k v d h' s.toks o' hd rv ho' ⟨hc', hd'⟩ fun b ob hb e => hs.extBut b ob hb e
    · intro φ ν s E R o hf hl hI hN sp _ ho st k
      refine wpAny_pyNext_list_end (i := ds.length) (l := a) (items := vs.toArray) hh ⟨o, ho, st.1, st.2⟩ ⟨_, hf _ _ sp.1, rfl, n, rfl⟩ (by simp [sp.2.length]) fun h' hs => ?_
      exact k h' s.toks fun b ob hb e => hs b ob hb e
    · intro i s E R o ho st k
      exact wpAny_pyIter_listiter (l := a) (i := i) ⟨o, ho, st.1, st.2⟩ k
theorem iter_ptr {a : Addr} (hh : A.handled = none) : IterD prog w A (.raw (.ref a)) ds (fun ν => (a, MO.lst ds) ∈ ν) := by
  intro φ v ν s R E r hf hl hk h
  cases r with
  | raw =>
    have get : ∀ {φ : Fz} {ν : Lg} {h : Heap}, HasL prog w φ ν h → (a, MO.lst ds) ∈ ν → ∃ vs, h.IsList a vs.toArray ∧ RepAll prog w φ vs ds := by
      intro φ ν h hl hk
      obtain ⟨o, ho, r⟩ := hl _ hk
      cases r with
      | @lst vs n _ ra => exact ⟨vs, ⟨_, ho, rfl, n, rfl⟩, ra⟩
    obtain ⟨vs, L, _⟩ := get hl hk
    refine wpAny_pyIter_list L (h _ _ s.toks _ (fun _ => True) (fun i o => o.cls = .type "list_iterator" ∧ o.data = .fields #[.ref a, .int i 0]) (size_none _) ?_ trivial (Heap.get?_push_size _ rfl) ⟨rfl, rfl⟩ fun b ob e => Heap.get?_push_of_some _ e)
    refine ⟨fun _ _ => trivial, fun i o x => ⟨_, x.1, by decide +kernel⟩, ?_, ?_, ?_⟩
    · intro i φ ν s E R o hf hl hI hN sp hk ho st hi k
      obtain ⟨d, hd⟩ : ∃ d, ds[i]? = some d := ⟨ds[i], by simp [hi]⟩
      obtain ⟨vs, L, ra⟩ := get hl hk
      obtain ⟨v, hv, rv⟩ := ra.get hd
      refine wpAny_pyNext_list_item (i := i) (l := a) (items := vs.toArray) ⟨o, ho, st.1, st.2⟩ L (x := v) (by simpa using hv) fun h' hit hs => ?_
      obtain ⟨o', ho', hc', hd'⟩ := hit
      exact k v d h' s.toks o' hd rv ho' ⟨hc', hd'⟩ fun b ob hb e => hs.extBut b ob hb e
    · intro φ ν s E R o hf hl hI hN sp hk ho st k
      obtain ⟨vs, L, ra⟩ := get hl hk
      refine wpAny_pyNext_list_end (i := ds.length) (l := a) (items := vs.toArray) hh ⟨o, ho, st.1, st.2⟩ L (by simp [ra.length]) fun h' hs => ?_
      exact k h' s.toks fun b ob hb e => hs b ob hb e
    · intro i s E R o ho st k
      exact wpAny_pyIter_listiter (l := a) (i := i) ⟨o, ho, st.1, st.2⟩ k
theorem iter_tup (hh : A.handled = none) : IterD prog w A (.tup ds) ds (fun _ => True) := by
  intro φ v ν s R E r hf hl hk h
  cases r with
  | @tup a vs n _ ha ra =>
    have L : s.heap.IsTuple a vs.toArray := ⟨_, hf _ _ ha, rfl, n, rfl⟩
    refine wpAny_pyIter_tuple L (h _ _ s.toks _ (fun φ => φ a (tupOf vs.toArray n) ∧ RepAll prog w φ vs ds) (fun i o => o.cls = .type "tuple_iterator" ∧ o.data = .fields #[.ref a, .int i 0]) (size_none _) ?_ ⟨ha, ra⟩ (Heap.get?_push_size _ rfl) ⟨rfl, rfl⟩ fun b ob e => Heap.get?_push_of_some _ e)
    refine ⟨fun le x => ⟨le _ _ x.1, x.2.up le⟩, fun i o x => ⟨_, x.1, by decide +kernel⟩, ?_, ?_, ?_⟩
    · intro i φ ν s E R o hf hl hI hN sp _ ho st hi k
      obtain ⟨d, hd⟩ : ∃ d, ds[i]? = some d := ⟨ds[i], by simp [hi]⟩
      obtain ⟨v, hv, rv⟩ := sp.2.get hd
      refine wpAny_pyNext_tuple_item (i := i) (t := a) (items := vs.toArray) ⟨o, ho, st.1, st.2⟩ ⟨_, hf _ _ sp.1, rfl, n, rfl⟩ (x := v) (by simpa using hv) fun h' hit hs => ?_
      obtain ⟨o', ho', hc', hd'⟩ := hit
      exact k v d h' s.toks o' hd rv ho' ⟨hc', hd'⟩ fun b ob hb e => hs.extBut b ob hb e
    · intro φ ν s E R o hf hl hI hN sp _ ho st k
      refine wpAny_pyNext_tuple_end (i := ds.length) (t := a) (items := vs.toArray) hh ⟨o, ho, st.1, st.2⟩ ⟨_, hf _ _ sp.1, rfl, n, rfl⟩ (by simp [sp.2.length]) fun h' hs => ?_
      exact k h' s.toks fun b ob hb e => hs b ob hb e
    · intro i s E R o ho st k
      exact wpAny_pyIter_tupleiter (t := a) (i := i) ⟨o, ho, st.1, st.2⟩ k
/-- the ints of a range -/
def rng (a b : Int) : List Int := (List.range (b - a).toNat).map fun (i : Nat) => a + (i : Int)
theorem rng_length (a b : Int) : (rng a b).length = (b - a).toNat := by simp [rng]
theorem iter_range {a b : Int} (hh : A.handled = none) (hs : Builtin.Range.small a b 1 = true) : IterD prog w A (.range a b) ((rng a b).map .int) (fun _ => True) := by
  intro φ v ν s R E r hf hl hk h
  cases r with
  | @range r _ _ t u x hr =>
    have hR : IsRange s.heap r a b 1 t u x := hf _ _ hr
    refine wpAny_pyIter_range hR hs (h _ _ s.toks _ (fun _ => True) (fun i o => ∃ n : Int, o = { cls := .type "range_iterator", data := .fields #[.int (a + (i : Int)) 0, .int n 0, .int 1 0] } ∧ n = ((b - a).toNat : Int) - (i : Int)) (size_none _) ?_ trivial (Heap.get?_push_size _ rfl) ?_ fun b ob e => Heap.get?_push_of_some _ e)
    · refine ⟨fun _ _ => trivial, fun i o x => ?_, ?_, ?_, ?_⟩
      · obtain ⟨n, rfl, _⟩ := x; exact ⟨_, rfl, by decide +kernel⟩
      · intro i φ ν s E R o hf hl hI hN sp hk ho st hi k
        obtain ⟨n, rfl, hn⟩ := st
        rw [List.length_map, rng_length] at hi
        refine wpAny_pyNext_range_item (it := _) (x := a + (i : Int)) (left := n) (step := 1) ho (by omega) fun h' hit hs' => ?_
        refine k _ (.int (a + (i : Int))) h' _ _ ?_ (.int _ _) hit ⟨n - 1, by rw [show a + ((i + 1 : Nat) : Int) = a + (i : Int) + 1 by push_cast; omega]; rfl, by push_cast; omega⟩ fun b ob hb e => hs'.extBut b ob hb e
        simp [rng, hi]
      · intro φ ν s E R o hf hl hI hN sp hk ho st k
        obtain ⟨n, rfl, hn⟩ := st
        rw [List.length_map, rng_length] at hn
        refine wpAny_pyNext_range_end (x := _) (left := n) (step := 1) hh ho (by omega) fun h' hs' => ?_
        exact k h' s.toks fun b ob hb e => hs' b ob hb e
      · intro i s E R o ho st k
        obtain ⟨n, rfl, hn⟩ := st
        exact wpAny_pyIter_rangeiter (x := _) (left := n) (step := 1) ho k
    · refine ⟨Builtin.Range.rangeSize a b 1, by simp [rawInt], ?_⟩
      unfold Builtin.Range.rangeSize
      simp only [show (1 : Int) > 0 from by decide, if_true, Int.ediv_one]
      split <;> simp <;> omega
end

/- MB5 -/

section
variable {c : Cx} {env : Env} {φ ψ : Fz} {m m' : Mp} {ν ν' : Lg} {h h' : Heap}

theorem Ok.grow (o : Ok c φ m ν h) (k : ∀ b ob, h.get? b = some ob → h'.get? b = some ob) : Ok c φ m ν h' where
  nsd := o.nsd
  ns := let ⟨mv, a, b⟩ := o.ns; ⟨mv, a.keeps k, b⟩
  fz := fun a ob e => k _ _ (o.fz _ _ e)
  fzL := o.fzL
  fzN := o.fzN
  lg := fun p hp => let ⟨a, ob, b, r⟩ := o.lg p hp; ⟨a, ob, k _ _ b, r⟩
  nd := o.nd
  gd := o.gd
theorem Step.grow {L : Addr} (k : ∀ b ob, h.get? b = some ob → h'.get? b = some ob) : Step L φ ν h φ ν h' := ⟨fun a o e _ _ => k _ _ e, fun _ _ e => e, fun _ _ e => .inl e, fun p hp => .inl ⟨p, hp, rfl⟩⟩
/-- another object (an iterator) turns -/
theorem Ok.touch {I : Addr} (o : Ok c φ m ν h) (iL : c.L ≠ I) (iF : ∀ a o, φ a o → a ≠ I) (iN : ∀ p ∈ ν, p.1 ≠ I) (k : ∀ b ob, b ≠ I → h.get? b = some ob → h'.get? b = some ob) : Ok c φ m ν h' where
  nsd := o.nsd
  ns := let ⟨mv, a, b⟩ := o.ns; ⟨mv, a.at' fun ob e => k _ ob iL e, b⟩
  fz := fun a ob e => k _ _ (iF _ _ e) (o.fz _ _ e)
  fzL := o.fzL
  fzN := o.fzN
  lg := fun p hp => let ⟨a, ob, b, r⟩ := o.lg p hp; ⟨a, ob, k _ _ (iN p hp) b, r⟩
  nd := o.nd
  gd := o.gd
theorem Step.touch {L I : Addr} {h₀ : Heap} {φ₀ : Fz} {ν₀ : Lg} (s : Step L φ₀ ν₀ h₀ φ ν h) (i0 : h₀.get? I = none) (k : ∀ b ob, b ≠ I → h.get? b = some ob → h'.get? b = some ob) : Step L φ₀ ν₀ h₀ φ ν h' :=
  ⟨fun a o e aL aN => k _ _ (fun q => by rw [q, i0] at e; cases e) (s.keep a o e aL aN), s.mono, s.newφ, s.newν⟩
theorem Ok.notL {I : Addr} {ob : Obj} (o : Ok c φ m ν h) (e : h.get? I = none) : c.L ≠ I := fun q => by
  obtain ⟨mv, a, _⟩ := o.ns; obtain ⟨oL, eL⟩ := Ns_ex a; rw [q, e] at eL; cases eL
theorem Step.fresh {L I : Addr} {ob : Obj} (s : Step L φ ν h ψ ν' h') (e : h.get? I = some ob) (iF : ∀ a o, φ a o → a ≠ I) (iN : ∀ p ∈ ν, p.1 ≠ I) : (∀ a o, ψ a o → a ≠ I) ∧ ∀ p ∈ ν', p.1 ≠ I := by
  refine ⟨fun a o ea q => ?_, fun p hp q => ?_⟩
  · rcases s.newφ a o ea with x | ⟨p, hp, x⟩ | x
    · exact iF a o x q
    · exact iN p hp (x.trans q)
    · rw [q, e] at x; cases x
  · rcases s.newν p hp with ⟨p', hp', x⟩ | x
    · exact iN p' hp' (x.trans q)
    · rw [q, e] at x; cases x

theorem wpAny_letOwned {M : Model} {A : Around} {E : Value → Shared → Prop} {s : Shared} {target : Expr} {I : Addr} {v : Value} {o : Obj} {n : String} {Q : Unit → Shared → Prop} (ho : s.heap.get? I = some o)
    (hc : o.cls = .type n) (hb : badIters.contains n = false) (q : Q () s) : wpAny M A (letOwnedTupleGo target (.ref I) v) Q E s := by
  have main : ∀ a, wpAny M A (do
      let o ← load I
      match o.cls, o.data with
      | .type n, .fields vs =>
        if ["enumerate", "zip", "dict_itemiterator", "dict_reverseitemiterator", "odict_iterator", "itertools.zip_longest", "itertools.pairwise"].contains n && vs[0]? == some (rawInt a) then
          rule "for.unpacks-the-owned-tuple"
          updateField I 0 .none
      | _, _ => pure ()) Q E s := by
    intro a
    refine wpAny_bind (wpAny_load ho ?_)
    rw [hc]
    cases o.data <;> try exact wpAny_pure q
    rename_i vs
    show wpAny M A (if (badIters.contains n && vs[0]? == some (rawInt a)) = true then _ else _) Q E s
    rw [hb, Bool.false_and, if_neg Bool.false_ne_true]
    exact wpAny_pure q
  cases target <;> first | exact wpAny_pure q | (cases v <;> first | exact wpAny_pure q | exact main _)

/-- a target takes a value -/
def Asg (c : Cx) (env : Env) (target : Expr) (d : D) (m : Mp) (ν : Lg) (Q : Unit → Mp → Lg → Prop) : Prop := ∀ φ v, Rep c.prog c.w φ v d → RunAt c eqr φ (assign target env v) m ν Q
theorem asg_name {x : Str} {p : Pos} {d : D} {Q : Unit → Mp → Lg → Prop} (E : EnvOk c env) (sa : SetAt c.ns m x d m') (q : Q () m' ν) : Asg c env (.Name x p) d m ν Q :=
  fun φ v r s o => wpAny_assign_Name (store_local E r sa q s o)
theorem asg_pair {x y : Str} {p q pos : Pos} {k : Nat} {d e : D} {m₁ m₂ : Mp} {Q : Unit → Mp → Lg → Prop} (E : EnvOk c env) (hh : c.A.handled = none) (sa : SetAt c.ns m x d m₁) (sb : SetAt c.ns m₁ y e m₂) (z : Q () m₂ ν) :
    Asg c env (.Tuple [.Name x p, .Name y q] k pos) (.tup [d, e]) m ν Q := by
  intro φ v r s o
  cases r with
  | @tup a vs n _ ha ra =>
    cases ra with
    | @cons v₁ vs₁ _ _ r1 ra =>
      cases ra with
      | @cons v₂ vs₂ _ _ r2 ra =>
        cases ra
        have T : s.heap.IsTuple a #[v₁, v₂] := ⟨_, o.fz _ _ ha, rfl, n, rfl⟩
        refine wpAny_assign_Tuple hh T rfl rfl fun h' he => ?_
        have k : ∀ b ob, s.heap.get? b = some ob → h'.get? b = some ob := fun b ob e => he b ob (Nat.ne_of_lt (Heap.lt_size e)) e
        show wpAny _ _ (do holding [v₂] (assign (.Name x p) env v₁); assignInOrder [assign (.Name y q) env] [v₂]) _ _ _
        refine wpAny_bind (wpAny_holding ((asg_name (Q := fun _ m ν' => m = m₁ ∧ ν' = ν) E sa ⟨rfl, rfl⟩ φ v₁ r1).use (s := { s with heap := h' }) (o.grow k) fun _ _ h₁ tk₁ φ₁ m' ν' o₁ st _ z' => ?_))
        obtain ⟨rfl, rfl⟩ := z'
        show wpAny _ _ (do holding [] (assign (.Name y q) env v₂); assignInOrder [] []) _ _ _
        refine wpAny_bind (wpAny_holding ((asg_name (Q := fun _ m ν'' => m = m₂ ∧ ν'' = ν') E sb ⟨rfl, rfl⟩ φ₁ v₂ (r2.up st.mono)).use o₁ fun _ _ h₂ tk₂ φ₂ m'' ν'' o₂ st₂ _ z' => ?_))
        obtain ⟨rfl, rfl⟩ := z'
        exact wpAny_pure ⟨h₂, tk₂, φ₂, m'', ν'', (), rfl, o₂, ((Step.grow k).trans (o.grow k) st).trans o₁ st₂, rfl, z⟩

/-- a for's loop upon what its head gave -/
def Loop (c : Cx) (env : Env) (target : Expr) (body : List Stmt) (d : D) (m : Mp) (ν : Lg) (Q : FD → Mp → Lg → Prop) : Prop :=
  ∀ φ v, Rep c.prog c.w φ v d → ∀ s : Shared, Ok c φ m ν s.heap → wpAny (model c.prog c.w) c.A (pyIter v)
    (fun it s₂ => codeAny (model c.prog c.w) c.A (.forLoop target it body [] env) (fun r s' => match r with | .ok f => Fin c (RepF c) Q φ ν s f s' | .error _ => False) s₂) (fun _ _ => False) s
abbrev Q_ex_For (c : Cx) (env : Env) (target : Expr) (body : List Stmt) (Q : FD → Mp → Lg → Prop) (d : D) (m₁ : Mp) (ν₁ : Lg) : Prop := Loop c env target body d m₁ ν₁ Q
theorem ex_For {target iter : Expr} {body : List Stmt} {pos : Pos} {Q : FD → Mp → Lg → Prop} (h : Run c (V c) (eval iter env) m ν (Q_ex_For c env target body Q))
    (hs : ∀ x, foldedSetIterable iter env x = pure x := by intro _; rfl) : Ex1 c env (.For target iter body [] pos) m ν Q := by
  intro φ s o
  refine wpAny_For ((h φ).use o fun v d h₁ tk₁ φ₁ m₁ ν₁ o₁ st r q => ?_) hs
  refine wpAny_mono (q φ₁ v r { s with heap := h₁, toks := tk₁ } o₁) (fun it s₂ z => codeAny_mono z fun r s' y => ?_) fun _ _ x => x
  cases r with
  | ok f => exact Fin.after o₁ st y
  | error e => exact y.elim

inductive NextT {σ : Type} (mf : σ → Mp) (νf : σ → Lg) (P : Nat → σ → Prop) (i : Nat) (m₃ : Mp) (ν₃ : Lg) : Prop
  | mk (y : σ) (hy : P (i + 1) y) (hs : Sub (mf y) m₃) (e : νf y = ν₃)
inductive NextW {σ : Type} (mf : σ → Mp) (νf : σ → Lg) (P : σ → Prop) (μ : σ → Nat) (x : σ) (m₃ : Mp) (ν₃ : Lg) : Prop
  | mk (y : σ) (lt : μ y < μ x) (hy : P y) (hs : Sub (mf y) m₃) (e : νf y = ν₃)
abbrev TurnQ {σ : Type} (mf : σ → Mp) (νf : σ → Lg) (P : Nat → σ → Prop) (i : Nat) (Q : FD → Mp → Lg → Prop) (f : FD) (m₃ : Mp) (ν₃ : Lg) : Prop := match f with
  | .next | .cont => NextT mf νf P i m₃ ν₃
  | .brk => Q .next m₃ ν₃
  | .ret d => Q (.ret d) m₃ ν₃
abbrev WhQ {σ : Type} (mf : σ → Mp) (νf : σ → Lg) (P : σ → Prop) (μ : σ → Nat) (x : σ) (Q : FD → Mp → Lg → Prop) (f : FD) (m₂ : Mp) (ν₂ : Lg) : Prop := match f with
  | .next | .cont => NextW mf νf P μ x m₂ ν₂
  | .brk => Q .next m₂ ν₂
  | .ret d => Q (.ret d) m₂ ν₂
inductive LInv (c : Cx) (φ : Fz) {σ : Type} (mf : σ → Mp) (νf : σ → Lg) (P : Nat → σ → Prop) (N : Nat) (ν₀ : Lg) (Sφ : Fz → Prop) (St : Nat → Obj → Prop) (I : Addr) (s : Shared) (n : Nat) (s' : Shared) : Prop
  | mk (i : Nat) (x : σ) (h₁ : Heap) (tk₁ : Nat) (φ₁ : Fz) (ob : Obj) (es : s' = { s with heap := h₁, toks := tk₁ }) (en : n = N - i) (hi : i ≤ N) (hP : P i x) (o : Ok c φ₁ (mf x) (νf x) h₁) (st : Step c.L φ ν₀ s.heap φ₁ (νf x) h₁) (sφ : Sφ φ₁)
    (ho : h₁.get? I = some ob) (hst : St i ob) (iF : ∀ a o, φ₁ a o → a ≠ I) (iN : ∀ p ∈ νf x, p.1 ≠ I)
theorem loop_of {σ : Type} {target : Expr} {body : List Stmt} {d : D} {Q : FD → Mp → Lg → Prop} {ds : List D} {Kν : Lg → Prop} (mf : σ → Mp) (νf : σ → Lg) (P : Nat → σ → Prop) (x₀ : σ)
    (hI : IterD c.prog c.w c.A d ds Kν) (hp : P 0 x₀) (hm : Sub (mf x₀) m) (hν : νf x₀ = ν) (hK : ∀ i x, P i x → Kν (νf x))
    (turn : ∀ i x d, ds[i]? = some d → P i x → Asg c env target d (mf x) (νf x) fun _ m₂ ν₂ => Ex c env body m₂ ν₂ (TurnQ mf νf P i Q))
    (fin : ∀ x, P ds.length x → Q .next (mf x) (νf x)) : Loop c env target body d m ν Q := by
  intro φ v rv s o
  subst hν
  refine hI φ v (νf x₀) s _ _ rv o.fz o.hasL (hK 0 x₀ hp) fun I h' tk ob Sφ St i0 W sφ hob st0 keep => ?_
  have iL : c.L ≠ I := o.notL (ob := ob) i0
  have iF : ∀ a o, φ a o → a ≠ I := fun a o' e q => by have := o.fz _ _ e; rw [q, i0] at this; cases this
  have iN : ∀ p ∈ νf x₀, p.1 ≠ I := fun p hp q => by obtain ⟨_, _, e, _⟩ := o.lg p hp; rw [q, i0] at e; cases e
  refine codeAny_loop' rfl (LInv c φ mf νf P ds.length (νf x₀) Sφ St I s) ?_ ds.length
    ⟨0, x₀, h', tk, φ, ob, rfl, rfl, Nat.zero_le _, hp, (o.weak hm).grow keep, .grow keep, sφ, hob, st0, iF, iN⟩
  rintro n s' ⟨i, x, h₁, tk₁, φ₁, ob₁, rfl, rfl, hi, hP, o₁, st₁, s₁, ho₁, hst₁, iF₁, iN₁⟩
  show wpAny _ _ ((forTurn target (.ref I) body [] env).onRaise (fun x => do noteFrame x env; theTreesLotGoes x)) _ _ _
  refine wpAny_noted ?_
  simp only [forTurn]
  refine wpAny_bind (wpAny_standAt (wpAny_bind (wpAny_onRaise ?_)))
  by_cases hlt : i < ds.length
  · refine W.item i φ₁ (νf x) _ _ _ ob₁ o₁.fz o₁.hasL iF₁ iN₁ s₁ (hK i x hP) ho₁ hst₁ hlt fun u e h₂ tk₂ ob₂ he ru ho₂ hst₂ k₂ => ?_
    have o₂ := o₁.touch iL iF₁ iN₁ k₂
    have st₂ := st₁.touch i0 k₂
    obtain ⟨nm, hc, hb⟩ := W.cls _ _ hst₂
    refine wpAny_bind (wpAny_letOwned ho₂ hc hb (wpAny_bind ((turn i x e he hP φ₁ u ru).use (s := { s with heap := h₂, toks := tk₂ }) o₂ fun _ _ h₃ tk₃ φ₃ m₃ ν₃ o₃ st₃ _ q₃ => wpAny_bind ((q₃ φ₃).use o₃ fun f fd h₄ tk₄ φ₄ m₄ ν₄ o₄ st₄ rf q₄ => ?_))))
    have f₃ := st₃.fresh ho₂ iF₁ iN₁
    have e₃ := st₃.keep I ob₂ ho₂ (Ne.symm iL) iN₁
    have f₄ := st₄.fresh e₃ f₃.1 f₃.2
    have e₄ := st₄.keep I ob₂ e₃ (Ne.symm iL) f₃.2
    have stA := (st₂.trans o₂ st₃).trans o₃ st₄
    have again : NextT mf νf P i m₄ ν₄ → ∃ n', n' < ds.length - i ∧ LInv c φ mf νf P ds.length (νf x₀) Sφ St I s n' { s with heap := h₄, toks := tk₄ } := by
      rintro ⟨y, hy, hsub, rfl⟩
      exact ⟨ds.length - (i + 1), Nat.sub_lt_sub_left hlt (Nat.lt_succ_self i), i + 1, y, h₄, tk₄, φ₄, ob₂, rfl, rfl, hlt, hy, o₄.weak hsub, stA, W.up st₄.mono (W.up st₃.mono s₁), e₄, hst₂, f₄.1, f₄.2⟩
    cases rf with
    | next => exact wpAny_pure (.inl ⟨rfl, again q₄⟩)
    | cont => exact wpAny_pure (.inl ⟨rfl, again q₄⟩)
    | brk => exact wpAny_pure ⟨h₄, tk₄, φ₄, m₄, ν₄, .next, rfl, o₄, stA, .next, q₄⟩
    | ret r => exact wpAny_pure ⟨h₄, tk₄, φ₄, m₄, ν₄, .ret _, rfl, o₄, stA, .ret r, q₄⟩
  · have hin : i = ds.length := Nat.le_antisymm hi (Nat.not_lt.mp hlt)
    subst hin
    refine W.done φ₁ (νf x) _ _ _ ob₁ o₁.fz o₁.hasL iF₁ iN₁ s₁ (hK _ x hP) ho₁ hst₁ fun h₂ tk₂ k₂ => ?_
    have o₂ := o₁.touch iL iF₁ iN₁ k₂
    have st₂ := st₁.touch i0 k₂
    refine wpAny_pure (.inr ⟨rfl, codeAny_block (wpAny_execs_nil ?_)⟩)
    exact ⟨h₂, tk₂, φ₁, mf x, νf x, .next, rfl, o₂, st₂, .next, fin x hP⟩

inductive WInv (c : Cx) (φ : Fz) {σ : Type} (mf : σ → Mp) (νf : σ → Lg) (P : σ → Prop) (μ : σ → Nat) (ν₀ : Lg) (s : Shared) (n : Nat) (s' : Shared) : Prop
  | mk (x : σ) (h₁ : Heap) (tk₁ : Nat) (φ₁ : Fz) (es : s' = { s with heap := h₁, toks := tk₁ }) (en : n = μ x) (hP : P x) (o : Ok c φ₁ (mf x) (νf x) h₁) (st : Step c.L φ ν₀ s.heap φ₁ (νf x) h₁)
theorem ex_While {σ : Type} {test : Expr} {body : List Stmt} {pos : Pos} {Q : FD → Mp → Lg → Prop} (mf : σ → Mp) (νf : σ → Lg) (P : σ → Prop) (μ : σ → Nat) (x₀ : σ) (hp : P x₀) (hm : Sub (mf x₀) m) (hν : νf x₀ = ν)
    (turn : ∀ x, P x → Tst c env test (mf x) (νf x) fun b m₁ ν₁ => if b = true then Ex c env body m₁ ν₁ (WhQ mf νf P μ x Q) else Q .next m₁ ν₁) : Ex1 c env (.While test body [] pos) m ν Q := by
  intro φ s o
  subst hν
  refine wpAny_While (codeAny_whileLoop (WInv c φ mf νf P μ (νf x₀) s) ?_ (μ x₀) ⟨x₀, s.heap, s.toks, φ, rfl, rfl, hp, o.weak hm, .refl⟩)
  rintro n s' ⟨x, h₁, tk₁, φ₁, rfl, rfl, hP, o₁, st₁⟩
  refine (turn x hP φ₁).use (s := { s with heap := h₁, toks := tk₁ }) o₁ fun b b' h₂ tk₂ φ₂ m₂ ν₂ o₂ st₂ rb q₂ => ?_
  obtain rfl : b = b' := rb
  cases b with
  | false => exact wpAny_execs_nil ⟨h₂, tk₂, φ₂, m₂, ν₂, .next, rfl, o₂, st₁.trans o₁ st₂, .next, q₂⟩
  | true =>
    have q₂' := q₂
    simp only [if_true] at q₂' ⊢
    refine (q₂' φ₂).use o₂ fun f fd h₃ tk₃ φ₃ m₃ ν₃ o₃ st₃ rf q₃ => ?_
    have stA := (st₁.trans o₁ st₂).trans o₂ st₃
    cases rf with
    | next => obtain ⟨y, hy, py, sub, rfl⟩ := q₃; exact ⟨μ y, hy, y, h₃, tk₃, φ₃, rfl, rfl, py, o₃.weak sub, stA⟩
    | cont => obtain ⟨y, hy, py, sub, rfl⟩ := q₃; exact ⟨μ y, hy, y, h₃, tk₃, φ₃, rfl, rfl, py, o₃.weak sub, stA⟩
    | brk => exact ⟨h₃, tk₃, φ₃, m₃, ν₃, .next, rfl, o₃, stA, .next, q₃⟩
    | ret r => exact ⟨h₃, tk₃, φ₃, m₃, ν₃, .ret _, rfl, o₃, stA, .ret r, q₃⟩
end

/- MB6 -/

section
variable {c : Cx} {env : Env} {φ ψ : Fz} {m m' : Mp} {ν ν' : Lg} {h h' : Heap}

/-- an address that nobody of the state holds -/
structure Off (L : Addr) (φ : Fz) (ν : Lg) (D : Addr) : Prop where
  l : L ≠ D
  f : ∀ a o, φ a o → a ≠ D
  n : ∀ p ∈ ν, p.1 ≠ D
theorem Off.next {L D : Addr} {ob : Obj} (x : Off L φ ν D) (s : Step L φ ν h ψ ν' h') (e : h.get? D = some ob) : Off L ψ ν' D ∧ h'.get? D = some ob :=
  let ⟨a, b⟩ := s.fresh e x.f x.n; ⟨⟨x.l, a, b⟩, s.keep D ob e (Ne.symm x.l) x.n⟩
theorem Ok.off {D : Addr} (o : Ok c φ m ν h) (e : h.get? D = none) : Off c.L φ ν D where
  l := fun q => by obtain ⟨mv, a, _⟩ := o.ns; obtain ⟨oL, eL⟩ := Ns_ex a; rw [q, e] at eL; cases eL
  f := fun a o' ea q => by have := o.fz _ _ ea; rw [q, e] at this; cases this
  n := fun p hp q => by obtain ⟨_, _, ea, _⟩ := o.lg p hp; rw [q, e] at ea; cases ea
theorem Ok.touchO {D : Addr} (o : Ok c φ m ν h) (x : Off c.L φ ν D) (k : ∀ b ob, b ≠ D → h.get? b = some ob → h'.get? b = some ob) : Ok c φ m ν h' := o.touch x.l x.f x.n k

def addF (φ : Fz) (a : Addr) (ob : Obj) : Fz := fun b o => φ b o ∨ (b = a ∧ o = ob)
theorem le_addF {a : Addr} {ob : Obj} : Le φ (addF φ a ob) := fun _ _ e => .inl e
/-- an object is frozen -/
theorem Ok.freeze {D : Addr} {ob : Obj} (o : Ok c φ m ν h) (x : Off c.L φ ν D) (e : h.get? D = some ob) : Ok c (addF φ D ob) m ν h where
  nsd := o.nsd
  ns := let ⟨mv, a, b⟩ := o.ns; ⟨mv, a, fun i y d hy hd => let ⟨v, p, r⟩ := b i y d hy hd; ⟨v, p, r.up le_addF⟩⟩
  fz := fun a ob' e' => by rcases e' with e' | ⟨rfl, rfl⟩; exact o.fz _ _ e'; exact e
  fzL := fun a ob' e' => by rcases e' with e' | ⟨rfl, rfl⟩; exact o.fzL _ _ e'; exact Ne.symm x.l
  fzN := fun a ob' e' p hp => by rcases e' with e' | ⟨rfl, rfl⟩; exact o.fzN _ _ e' p hp; exact x.n p hp
  lg := fun p hp => let ⟨a, ob, b, r⟩ := o.lg p hp; ⟨a, ob, b, r.up le_addF⟩
  nd := o.nd
  gd := o.gd.up le_addF
theorem Step.freeze {L D : Addr} {ob : Obj} {φ₀ : Fz} {ν₀ : Lg} {h₀ : Heap} (s : Step L φ₀ ν₀ h₀ φ ν h) (e : h₀.get? D = none) : Step L φ₀ ν₀ h₀ (addF φ D ob) ν h :=
  ⟨s.keep, fun a o x => .inl (s.mono a o x), fun a o x => by rcases x with x | ⟨rfl, rfl⟩; exact s.newφ a o x; exact .inr (.inr e), s.newν⟩
/-- an object goes onto the ledger -/
theorem Ok.push {D : Addr} {ob : Obj} {mo : MO} (o : Ok c φ m ν h) (x : Off c.L φ ν D) (e : h.get? D = some ob) (r : MRep c.prog c.w φ ob mo) : Ok c φ m ((D, mo) :: ν) h where
  nsd := o.nsd
  ns := o.ns
  fz := o.fz
  fzL := o.fzL
  fzN := fun a ob' e' p hp => by rcases List.mem_cons.mp hp with rfl | hp; exact Ne.symm (x.f _ _ e'); exact o.fzN _ _ e' p hp
  lg := fun p hp => by rcases List.mem_cons.mp hp with rfl | hp; exact ⟨Ne.symm x.l, ob, e, r⟩; exact o.lg p hp
  nd := by
    rw [List.map_cons, List.nodup_cons]
    exact ⟨fun q => by obtain ⟨p, hp, e'⟩ := List.mem_map.mp q; exact x.n p hp e', o.nd⟩
  gd := o.gd
theorem Step.push {L D : Addr} {mo : MO} {φ₀ : Fz} {ν₀ : Lg} {h₀ : Heap} (s : Step L φ₀ ν₀ h₀ φ ν h) (e : h₀.get? D = none) : Step L φ₀ ν₀ h₀ φ ((D, mo) :: ν) h :=
  ⟨s.keep, s.mono, s.newφ, fun p hp => by rcases List.mem_cons.mp hp with rfl | hp; exact .inr e; exact s.newν p hp⟩

def blank (ns : List Str) : Mp := ns.map fun _ => none
theorem blank_names {prog : Program} {w : World} (ns : List Str) (mv : Str → Option Value) : Names prog w φ ns (blank ns) mv := fun i x d hx hd => by
  unfold blank at hd
  rw [List.getElem?_map] at hd
  cases q : ns[i]? with
  | none => rw [q] at hd; cases hd
  | some y => rw [q] at hd; cases hd
theorem blank_sub : ∀ {ns : List Str} {m : Mp}, m.length = ns.length → Sub (blank ns) m
  | [], [], _ => .nil
  | _ :: ns, _ :: m, e => .drop (blank_sub (by simpa using e))

/-- the block's environment -/
abbrev cEnv (scope : Scope) (cl : List (Str × Addr)) (C : Addr) (env : Env) : Env := compEnvC scope cl C env

/-- the tests, none or one -/
def Tsts (c : Cx) (env : Env) (ifs : List Expr) (m : Mp) (ν : Lg) (Q : Bool → Mp → Lg → Prop) : Prop := match ifs with
  | [] => Q true m ν
  | [t] => Tst c env t m ν Q
  | _ => False

structure CompP {σ : Type} (c : Cx) (env : Env) (elt target : Expr) (ifs : List Expr) (scope : Scope) (cl : List (Str × Addr)) (ns' : List Str) (d : D) (m : Mp) (ν : Lg) (ds : List D) (Kν : Lg → Prop) (νf : σ → Lg) (P : Nat → σ → List D → Prop) (x₀ : σ) : Prop where
  nd : ns'.Nodup
  iter : IterD c.prog c.w c.A d ds Kν
  sz : ds.length ≤ sizeLine
  p0 : P 0 x₀ []
  ν0 : νf x₀ = ν
  K : ∀ i x acc, P i x acc → Kν (νf x)
  turn : ∀ C i x acc d, ds[i]? = some d → P i x acc → Asg (c.in c.A C ns') (cEnv scope cl C env) target d (blank ns') (νf x) fun _ m₂ ν₂ => Tsts (c.in c.A C ns') (cEnv scope cl C env) ifs m₂ ν₂ fun b m₃ ν₃ =>
    if b = true then Run (c.in c.A C ns') (V c) (eval elt (cEnv scope cl C env)) m₃ ν₃ fun e m₄ ν₄ => m₄.length = ns'.length ∧ ∃ y, P (i + 1) y (acc ++ [e]) ∧ νf y = ν₄ else m₃.length = ns'.length ∧ ∃ y, P (i + 1) y acc ∧ νf y = ν₃

inductive CInv (c cC : Cx) (φ : Fz) {σ : Type} (νf : σ → Lg) (P : Nat → σ → List D → Prop) (N : Nat) (bl : Mp) (ν₀ : Lg) (Sφ : Fz → Prop) (St : Nat → Obj → Prop) (C D I : Addr) (s : Shared) (k : Nat) (s' : Shared) : Prop
  | mk (i : Nat) (x : σ) (acc : List Mine.D) (vs : List Value) (n : Nat) (h₁ : Heap) (tk₁ : Nat) (φ₁ : Fz) (ob : Obj) (es : s' = { s with heap := h₁, toks := tk₁ }) (ek : k = N - i) (hi : i ≤ N) (hP : P i x acc) (hal : acc.length ≤ i)
    (o : Ok cC φ₁ bl (νf x) h₁) (st : Step C φ ν₀ s.heap φ₁ (νf x) h₁) (sφ : Sφ φ₁) (ho : h₁.get? I = some ob) (hst : St i ob) (fI : Off C φ₁ (νf x) I) (eD : h₁.get? D = some (listOf (List.toArray vs) n)) (ra : RepAll c.prog c.w φ₁ vs acc) (fD : Off C φ₁ (νf x) D)
theorem comp_core {σ : Type} {elt target iter : Expr} {ifs : List Expr} {scope : Scope} {cl : List (Str × Addr)} {pos : Pos} {ns' : List Str} {d : D} {ds : List D} {Kν : Lg → Prop} {νf : σ → Lg} {P : Nat → σ → List D → Prop} {x₀ : σ} {v : Value} {s : Shared}
    {RR : Value → Addr → Result → Shared → Prop} {E : Value → Shared → Prop} (p : CompP c env elt target ifs scope cl ns' d m ν ds Kν νf P x₀)
    (hcell : ∀ y ∈ scope.names, y.2 ≠ .cell) (hkind : scope.kind = .function) (rv : Rep c.prog c.w φ v d) (o : Ok c φ m ν s.heap)
    (fin : ∀ x acc D C vs n mC h' tk φ', P ds.length x acc → Ok c φ' m (νf x) h' → Step c.L φ ν s.heap φ' (νf x) h' → s.heap.get? D = none → Off c.L φ' (νf x) D → h'.get? D = some (listOf (List.toArray vs) n) → RepAll c.prog c.w φ' vs acc →
      s.heap.get? C = none → Off c.L φ' (νf x) C → D ≠ C → h'.Ns C mC → RR (.ref D) C (.ok .next) { s with heap := h', toks := tk }) :
    wpAny (model c.prog c.w) c.A (pyIter v) (fun it s₂ => wpAny (model c.prog c.w) c.A (newList []) (fun acc s₃ => wpAny (model c.prog c.w) c.A (newFunctionEnv scope env.globals cl [] env.qual none .none (some env)) (fun cenv s₄ =>
      codeAny (model c.prog c.w) c.A (.compStart (.ListComp elt [⟨target, iter, ifs, 0⟩] scope pos) 0 it acc { cenv with scope := relabel scope env }) (RR acc cenv.locals) s₄) E s₃) E s₂) E s := by
  obtain ⟨pnd, pit, psz, pp0, pν0, pK, pturn⟩ := p
  subst pν0
  refine pit φ v (νf x₀) s _ _ rv o.fz o.hasL (pK _ _ _ pp0) fun I hI tkI obI Sφ St i0 W sφ hobI st0 keepI => ?_
  refine wpAny_newObj_type (wpAny_newFunctionEnv hcell (by intro y hy; simp at hy) (fun h₃ hns₃ hsb₃ => ?_) hkind)
  dsimp only at hns₃ hsb₃ ⊢
  -- the three new addresses
  generalize hD : hI.objs.size = D at hns₃ hsb₃ ⊢
  generalize hC : (hI.push { cls := .type "list", dict := none, data := .seq ([] : List Value).toArray }).objs.size = C at hns₃ hsb₃ ⊢
  have eC : C = D + 1 := by rw [← hC, Heap.size_push, hD]
  have nD : hI.get? D = none := hD ▸ size_none hI
  have lt : ∀ b ob, hI.get? b = some ob → b < D := fun b ob e => hD ▸ Heap.lt_size e
  have keep3 : ∀ b ob, hI.get? b = some ob → h₃.get? b = some ob := fun b ob e => hsb₃.extBut b ob (by have := lt b ob e; rw [eC]; exact Nat.ne_of_lt (Nat.lt_succ_of_lt this)) (Heap.get?_push_of_some _ (Heap.get?_push_of_some _ e))
  have keep : ∀ b ob, s.heap.get? b = some ob → h₃.get? b = some ob := fun b ob e => keep3 b ob (keepI b ob e)
  have none_of : ∀ b, D ≤ b → s.heap.get? b = none := fun b hb => by
    cases q : s.heap.get? b with
    | none => rfl
    | some ob => exact absurd (lt b ob (keepI b ob q)) (Nat.not_lt.mpr hb)
  have nDs : s.heap.get? D = none := none_of D (Nat.le_refl _)
  have nCs : s.heap.get? C = none := none_of C (by rw [eC]; exact Nat.le_succ _)
  have hIlt : I < D := lt I obI hobI
  have hDC : D ≠ C := by rw [eC]; exact Nat.ne_of_lt (Nat.lt_succ_self _)
  have hIC : I ≠ C := by rw [eC]; exact Nat.ne_of_lt (Nat.lt_succ_of_lt hIlt)
  have hID : I ≠ D := Nat.ne_of_lt hIlt
  have e3D : h₃.get? D = some (listOf (List.toArray []) 0) := hsb₃.extBut D _ hDC (Heap.get?_push_of_some _ (hD ▸ Heap.get?_push_size hI rfl))
  have e3I : h₃.get? I = some obI := keep3 I obI hobI
  have o0 : Ok c φ m (νf x₀ ++ []) s.heap := by rw [List.append_nil]; exact o
  have oc : Ok (c.in c.A C ns') φ (blank ns') (νf x₀) h₃ := o0.enter (A := c.A) keep nCs pnd hns₃ (blank_names ns' _)
  have offI : Off C φ (νf x₀) I := ⟨Ne.symm hIC, (o.off i0).f, (o.off i0).n⟩
  have offD : Off C φ (νf x₀) D := ⟨Ne.symm hDC, (o.off nDs).f, (o.off nDs).n⟩
  let Inv : Nat → Shared → Prop := CInv c (c.in c.A C ns') φ νf P ds.length (blank ns') (νf x₀) Sφ St C D I s
  have loop : ∀ s₃ : Shared, Inv ds.length s₃ → codeAny (model c.prog c.w) c.A (.compLoop (.ListComp elt [⟨target, iter, ifs, 0⟩] scope pos) 0 (.ref I) (.ref D) (cEnv scope cl C env)) (RR (.ref D) C) s₃ := by
    intro s₃ hinv
    refine codeAny_loop rfl Inv ?_ ds.length hinv
    rintro k s' ⟨i, x, acc, vs, n, h₁, tk₁, φ₁, ob₁, rfl, rfl, hi, hP, hal, o₁, st₁, s₁, ho₁, hst₁, fI₁, eD₁, ra₁, fD₁⟩
    show wpAny _ c.A ((compTurn (.ListComp elt [⟨target, iter, ifs, 0⟩] scope pos) 0 (.ref I) (.ref D) (cEnv scope cl C env)).onRaise (fun x => do noteFrame x (cEnv scope cl C env); theTreesLotGoes x)) _ _ _
    refine wpAny_noted ?_
    rw [compTurn_list]
    refine wpAny_bind (wpAny_standAt (wpAny_bind ?_))
    by_cases hlt : i < ds.length
    · refine W.item i φ₁ (νf x) _ _ _ ob₁ o₁.fz o₁.hasL fI₁.f fI₁.n s₁ (pK i x acc hP) ho₁ hst₁ hlt fun u e h₂ tk₂ ob₂ he ru ho₂ hst₂ k₂ => ?_
      have o₂ := o₁.touchO fI₁ k₂
      have st₂ := st₁.touch i0 k₂
      have eD₂ := k₂ D _ (Ne.symm hID) eD₁
      obtain ⟨nm, hc, hb⟩ := W.cls _ _ hst₂
      refine wpAny_bind (wpAny_letOwned ho₂ hc hb (wpAny_bind ((pturn C i x acc e he hP φ₁ u ru).use (s := { s with heap := h₂, toks := tk₂ }) o₂ fun _ _ h₃ tk₃ φ₃ m₃ ν₃ o₃ st₃ _ q₃ => ?_)))
      obtain ⟨fI₃, eI₃⟩ := fI₁.next st₃ ho₂
      obtain ⟨fD₃, eD₃⟩ := fD₁.next st₃ eD₂
      have stA := st₂.trans o₂ st₃
      have tests : wpAny (model c.prog c.w) c.A (forIn ifs true fun t r => if r = true then do let ok ← isTrue t (cEnv scope cl C env) (eval t (cEnv scope cl C env)); pure (ForInStep.yield ok) else pure (ForInStep.yield r))
          (Fin (c.in c.A C ns') eqr (fun b m₃ ν₃ => if b = true then Run (c.in c.A C ns') (V c) (eval elt (cEnv scope cl C env)) m₃ ν₃ fun e m₄ ν₄ => m₄.length = ns'.length ∧ ∃ y, P (i + 1) y (acc ++ [e]) ∧ νf y = ν₄ else m₃.length = ns'.length ∧ ∃ y, P (i + 1) y acc ∧ νf y = ν₃) φ₃ ν₃ { s with heap := h₃, toks := tk₃ })
          (fun _ _ => False) { s with heap := h₃, toks := tk₃ } := by
        unfold Tsts at q₃
        split at q₃
        · exact wpAny_tests_nil ⟨h₃, tk₃, φ₃, m₃, ν₃, true, rfl, o₃, .refl, rfl, q₃⟩
        · exact wpAny_tests_one (q₃ φ₃ { s with heap := h₃, toks := tk₃ } o₃)
        · exact q₃.elim
      refine wpAny_bind (wpAny_mono tests (fun b s₄ f => ?_) fun _ _ x => x.elim)
      obtain ⟨h₄, tk₄, φ₄, m₄, ν₄, b', rfl, o₄, st₄, rb, q₄⟩ := f
      obtain rfl : b = b' := rb
      obtain ⟨fI₄, eI₄⟩ := fI₃.next st₄ eI₃
      obtain ⟨fD₄, eD₄⟩ := fD₃.next st₄ eD₃
      have stB := stA.trans o₃ st₄
      cases b with
      | false =>
        simp only [Bool.false_eq_true, if_false] at q₄ ⊢
        obtain ⟨hlen, y, hy, rfl⟩ := q₄
        exact wpAny_pure ⟨rfl, ds.length - (i + 1), Nat.sub_lt_sub_left hlt (Nat.lt_succ_self i), i + 1, y, acc, vs, n, h₄, tk₄, φ₄, ob₂, rfl, rfl, hlt, hy, Nat.le_succ_of_le hal, o₄.weak (blank_sub hlen), stB, W.up (fun a o e => st₄.mono a o (st₃.mono a o e)) s₁, eI₄, hst₂, fI₄, eD₄,
          (ra₁.up st₃.mono).up st₄.mono, fD₄⟩
      | true =>
        simp only [if_true] at q₄ ⊢
        refine wpAny_bind (wpAny_bind ((q₄ φ₄).use (s := { s with heap := h₄, toks := tk₄ }) o₄ fun g ge h₅ tk₅ φ₅ m₅ ν₅ o₅ st₅ rg q₅ => ?_))
        obtain ⟨hlen, y, hy, rfl⟩ := q₅
        obtain ⟨fI₅, eI₅⟩ := fI₄.next st₅ eI₄
        obtain ⟨fD₅, eD₅⟩ := fD₄.next st₅ eD₄
        have hvs : vs.length = acc.length := ra₁.length
        refine wpAny_bind (wpAny_list_append_plain (hsz := by simp; omega) (s := { s with heap := h₅, toks := tk₅ }) (l := D) (items := List.toArray vs) ⟨n, eD₅⟩ fun h₆ hpl hs₆ => ?_)
        obtain ⟨n', eD₆⟩ := hpl
        have k₆ : ∀ b ob, b ≠ D → h₅.get? b = some ob → h₆.get? b = some ob := fun b ob hb e => hs₆.extBut b ob hb e
        refine wpAny_pure (wpAny_pure ⟨rfl, ds.length - (i + 1), Nat.sub_lt_sub_left hlt (Nat.lt_succ_self i), i + 1, y, acc ++ [ge], vs ++ [g], n', h₆, tk₅, φ₅, ob₂, rfl, rfl, hlt, hy, by rw [List.length_append]; exact Nat.succ_le_succ hal, (o₅.touchO fD₅ k₆).weak (blank_sub hlen), (stB.trans o₄ st₅).touch nDs k₆, W.up (fun a o e => st₅.mono a o (st₄.mono a o (st₃.mono a o e))) s₁,
          k₆ I _ hID eI₅, hst₂, fI₅, ?_, (((ra₁.up st₃.mono).up st₄.mono).up st₅.mono).append (.cons rg .nil), fD₅⟩)
        rw [eD₆]; simp
    · have hin : i = ds.length := Nat.le_antisymm hi (Nat.not_lt.mp hlt)
      subst hin
      refine W.done φ₁ (νf x) _ _ _ ob₁ o₁.fz o₁.hasL fI₁.f fI₁.n s₁ (pK _ x acc hP) ho₁ hst₁ fun h₂ tk₂ k₂ => ?_
      have o₂ := o₁.touchO fI₁ k₂
      have st₂ := st₁.touch i0 k₂
      have eD₂ := k₂ D _ (Ne.symm hID) eD₁
      obtain ⟨okc, stc⟩ := nest o0 (fun _ _ e => e) nCs o₂ st₂
      rw [List.append_nil] at okc
      rw [List.append_nil, List.append_nil] at stc
      obtain ⟨mC, hmC, _⟩ := o₂.ns
      have offL : ∀ X, s.heap.get? X = none → c.L ≠ X := fun X e => (o.off e).l
      exact wpAny_pure (fin x acc D C vs n mC h₂ tk₂ φ₁ hP okc stc nDs ⟨offL D nDs, fD₁.f, fD₁.n⟩ eD₂ ra₁ nCs ⟨offL C nCs, o₂.fzL, fun p hp => (o₂.lg p hp).l⟩ hDC hmC)
  have init : ∀ tk, Inv ds.length { s with heap := h₃, toks := tk } := fun tk =>
    ⟨0, x₀, [], [], 0, h₃, tk, φ, obI, rfl, rfl, Nat.zero_le _, pp0, Nat.le_refl _, oc, .grow keep, sφ, e3I, st0, offI, e3D, .nil, offD⟩
  refine codeAny_compStart_list (loop _ (init _)) (W.self 0 _ _ _ obI e3I st0 (loop _ (init _)))
end

/- MB7 -/

/-! ## calls as written -/
section
variable {c : Cx} {env : Env} {φ ψ : Fz} {m m' : Mp} {ν ν' : Lg} {h h' : Heap}

abbrev Args (c : Cx) (env : Env) (pos : Pos) (es : List Expr) (m : Mp) (ν : Lg) (Q : List D → Mp → Lg → Prop) : Prop := Run c (Vs c) (spliced (backTo pos (starEach es env))) m ν Q
theorem ar_nil {pos : Pos} {Q : List D → Mp → Lg → Prop} (q : Q [] m ν) : Args c env pos [] m ν Q := fun φ s o => PyProof.Rows.args_nil (Fin.here (tk := s.toks) o .nil q)
abbrev B_cons (d : D) (Q : List D → Mp → Lg → Prop) (ds : List D) (m₂ : Mp) (ν₂ : Lg) : Prop := Q (d :: ds) m₂ ν₂
abbrev Q_ar_cons (c : Cx) (env : Env) (r : List Expr) (pos : Pos) (Q : List D → Mp → Lg → Prop) (d : D) (m₁ : Mp) (ν₁ : Lg) : Prop := Args c env pos r m₁ ν₁ (B_cons d Q)
theorem ar_cons {e : Expr} {r : List Expr} {pos : Pos} {Q : List D → Mp → Lg → Prop} (h : Run c (V c) (eval e env) m ν (Q_ar_cons c env r pos Q))
    (he : starEach (e :: r) env = (false, eval e env) :: starEach r env := by rfl) : Args c env pos (e :: r) m ν Q := fun φ s o =>
  PyProof.Rows.args_cons ((h φ).use o fun v d h₁ tk₁ φ₁ m₁ ν₁ o₁ st rv q => (q φ₁).use o₁ fun vs ds h₂ tk₂ φ₂ m₂ ν₂ o₂ st₂ rvs q₂ =>
    ⟨h₂, tk₂, φ₂, m₂, ν₂, d :: ds, rfl, o₂, st.trans o₁ st₂, .cons (rv.up st₂.mono) rvs, q₂⟩) he

/-- a callee that a plain call serves -/
inductive Kp (K : Frag) : Value → Prop
  | blt (id : String) : Kp K (.builtin id)
  | typ (T : String) : Kp K (.type T)
  | own {f : Value} : keepIn K f = true → Kp K f

theorem cw {pos : Pos} {f : Value} {fs : List D} {args : List Expr} {Q : D → Mp → Lg → Prop} (hk : Kp c.K f) (h : Args c env pos args m ν fun ds m₁ ν₁ => CallD c f (fs ++ ds) m₁ ν₁ Q)
    (hplain : (backTo pos (starEach args env)).any (·.1) = false) (he : args = [] ∨ ∃ e r, args = e :: r ∧ starEach (e :: r) env = (false, eval e env) :: starEach r env) {first : List Value} (rf : RepAll c.prog c.w φ first fs) :
    RunAt c (V c) φ (callWith pos f first (backTo pos (starEach args env)) []) m ν Q := by
  intro s o
  have main : wpAny (model c.prog c.w) c.A (evalArgs f true (backTo pos (starEach args env)) []) (fun a s₁ => c.K.In s₁.heap ∧ wpAny (model c.prog c.w) c.A (call f (first ++ a.pos) a.kw) (Fin c (V c) Q φ ν s) (fun _ _ => False) s₁) (fun _ _ => False) s := by
    have z : wpAny (model c.prog c.w) c.A (spliced (backTo pos (starEach args env))) (fun vs s₁ => c.K.In s₁.heap ∧ wpAny (model c.prog c.w) c.A (call f (first ++ vs) []) (Fin c (V c) Q φ ν s) (fun _ _ => False) s₁) (fun _ _ => False) s :=
      (h φ).use o fun vs ds h₁ tk₁ φ₁ m₁ ν₁ o₁ st rvs q => ⟨o₁.inK, RunAt.fin (q φ₁ (first ++ vs) ((rf.up st.mono).append rvs)) o₁ st⟩
    rcases he with rfl | ⟨e, r, rfl, he⟩
    · unfold evalArgs
      first
        | exact wpAny_bind (wpAny_mono z (fun vs s' h' => wpAny_bind (wpAny_pure (wpAny_holding (wpAny_bind (wpAny_pure (wpAny_bind (wpAny_pure (wpAny_pure h')))))))) fun _ _ x => x)
        | (refine wpAny_bind (wpAny_mono z (fun vs s' h' => ?_) fun _ _ x => x)
           refine wpAny_holding ?_
           exact wpAny_bind (wpAny_pure (wpAny_bind (wpAny_pure (wpAny_pure h')))))
    · rw [he] at z ⊢
      exact evalArgs_plain z
  cases hk with
  | blt id => exact Calls.callWith_builtin hplain (wpAny_mono main (fun _ _ x => x.2) fun _ _ x => x)
  | typ T => exact PyProof.Rows.callWith_type hplain (wpAny_mono main (fun _ _ x => x.2) fun _ _ x => x)
  | own hk => exact callWith_of (P := fun h => c.K.In h) (by rw [hplain]; rfl) (keeps_K hk) main

abbrev B_call (c : Cx) (f : Value) (Q : D → Mp → Lg → Prop) (ds : List D) (m₂ : Mp) (ν₂ : Lg) : Prop := CallD c f ds m₂ ν₂ Q
abbrev Q_ev_Call (c : Cx) (env : Env) (args : List Expr) (pos : Pos) (Q : D → Mp → Lg → Prop) (d : D) (m₁ : Mp) (ν₁ : Lg) : Prop := ∃ f, d = .raw f ∧ Kp c.K f ∧ Args c env pos args m₁ ν₁ (B_call c f Q)
theorem ev_Call {func : Expr} {args : List Expr} {pos : Pos} {Q : D → Mp → Lg → Prop}
    (h : Run c (V c) (eval func env) m ν (Q_ev_Call c env args pos Q))
    (he : eval (.Call func args [] pos) env = (do callWith pos (← eval func env) [] (backTo pos (starEach args env)) (backToKw pos (keywordEach [] env))) := by rfl)
    (hplain : (backTo pos (starEach args env)).any (·.1) = false := by rfl) (hs : args = [] ∨ ∃ e r, args = e :: r ∧ starEach (e :: r) env = (false, eval e env) :: starEach r env := by first | exact .inl rfl | exact .inr ⟨_, _, rfl, rfl⟩) :
    Run c (V c) (eval (.Call func args [] pos) env) m ν Q := by
  intro φ
  rw [he]
  refine (h φ).bind fun f d φ₁ m₁ ν₁ _ rf q => ?_
  obtain ⟨g, rfl, hk, q⟩ := q
  cases rf
  exact cw (fs := []) hk q hplain hs .nil
end

/- MB8 -/

section
variable {c : Cx} {env : Env} {φ ψ : Fz} {m m' : Mp} {ν ν' : Lg} {h h' : Heap}

/-! ## methods -/
def GetM (c : Cx) (a : D) (name : Str) (m : Mp) (ν : Lg) (R : Value → List D → Prop) : Prop :=
  ∀ φ u (s : Shared) (pl : Sem Bool) (E : Value → Shared → Prop) (Z : Value × List Value → Shared → Prop), Rep c.prog c.w φ u a → Ok c φ m ν s.heap → (∀ f first fs tk, RepAll c.prog c.w φ first fs → R f fs → Z (f, first) { s with toks := tk }) →
    wpAny (model c.prog c.w) c.A (getMethod u name pl) Z E s
abbrev Q_ev_Method (c : Cx) (env : Env) (name : Str) (args : List Expr) (pos : Pos) (Q : D → Mp → Lg → Prop) (d : D) (m₁ : Mp) (ν₁ : Lg) : Prop := GetM c d name m₁ ν₁ fun f fs => Kp c.K f ∧ Args c env pos args m₁ ν₁ fun ds m₂ ν₂ => CallD c f (fs ++ ds) m₂ ν₂ Q
theorem ev_Method {o : Expr} {name : Str} {args : List Expr} {apos pos : Pos} {pl : Sem Bool} {Q : D → Mp → Lg → Prop}
    (h : Run c (V c) (eval o env) m ν (Q_ev_Method c env name args pos Q))
    (he : eval (.Call (.Attribute o name apos) args [] pos) env = (do
      let ov ← eval o env
      standAt apos.atName
      let (f, first) ← holding [ov] (getMethod ov name pl)
      callWith pos f first (backTo pos (starEach args env)) []) := by rfl)
    (hplain : (backTo pos (starEach args env)).any (·.1) = false := by rfl) (hs : args = [] ∨ ∃ e r, args = e :: r ∧ starEach (e :: r) env = (false, eval e env) :: starEach r env := by first | exact .inl rfl | exact .inr ⟨_, _, rfl, rfl⟩) :
    Run c (V c) (eval (.Call (.Attribute o name apos) args [] pos) env) m ν Q := by
  intro φ s ok
  refine PyProof.Rows.MethodCall_ ((h φ).use ok fun u d h₁ tk₁ φ₁ m₁ ν₁ o₁ st ru q => ?_) he
  refine q φ₁ u _ _ _ _ ru o₁ fun f first fs tk rf q => ?_
  exact RunAt.fin (s := s) (cw q.1 q.2 hplain hs rf) o₁ st

/-! ## attributes -/
inductive AtL : List Str → List D → Str → D → Prop
  | head {x : Str} {ks : List Str} {d : D} {ds : List D} : AtL (x :: ks) (d :: ds) x d
  | tail {x y : Str} {ks : List Str} {d e : D} {ds : List D} : AtL ks ds x d → AtL (y :: ks) (e :: ds) x d
theorem AtL.get {ks : List Str} {ds : List D} {x : Str} {d : D} (h : AtL ks ds x d) : ∃ i : Nat, ks[i]? = some x ∧ ds[i]? = some d := by
  induction h with
  | head => exact ⟨0, rfl, rfl⟩
  | tail _ ih => exact ih.elim fun i a => ⟨i + 1, a⟩
/-- storing under a name -/
inductive PutA : List Str → List D → Str → D → List Str → List D → Prop
  | nil {x : Str} {d : D} : PutA [] [] x d [x] [d]
  | here {x : Str} {ks : List Str} {d e : D} {ds : List D} : PutA (x :: ks) (e :: ds) x d (x :: ks) (d :: ds)
  | there {x y : Str} {ks ks' : List Str} {d e : D} {ds ds' : List D} : (y == x) = false → PutA ks ds x d ks' ds' → PutA (y :: ks) (e :: ds) x d (y :: ks') (e :: ds')

theorem isStr_beq (y x : Str) (t : Tok) : (Value.str y t).isStr x = (y == x) := by rfl
theorem Ents.len {w : World} {es : List DictEntry} {ks : List Str} {vs : List Value} (h : Ents w es ks vs) : es.length = ks.length ∧ ks.length = vs.length := by
  induction h with
  | nil => exact ⟨rfl, rfl⟩
  | cons _ ih => exact ⟨congrArg Nat.succ ih.1, congrArg Nat.succ ih.2⟩
theorem Ents.noRef {w : World} {es : List DictEntry} {ks : List Str} {vs : List Value} (h : Ents w es ks vs) : es.any (·.refKey) = false := by
  induction h with
  | nil => rfl
  | cons _ ih => exact ih
theorem getL_cons (x : Str) (e : DictEntry) (es : List DictEntry) (hn : es.any (·.refKey) = false) (he : e.refKey = false) : getL x (e :: es) = if e.key.isStr x then some (some e.val) else getL x es := by
  unfold getL
  rw [List.find?_cons]
  cases q : e.key.isStr x with
  | true => simp
  | false =>
    simp only [Bool.false_eq_true, if_false, List.any_cons, he, Bool.false_or]
theorem getL_here {w : World} {x : Str} {t : Tok} {v : Value} {es : List DictEntry} {ks : List Str} {vs : List Value} (r : Ents w es ks vs) : getL x (⟨PyData.keyHash w.params x, .str x t, v⟩ :: es) = some (some v) := by
  rw [getL_cons _ _ _ r.noRef rfl, isStr_beq, beq_self_eq_true, if_pos rfl]
theorem getL_there {w : World} {x y : Str} {t : Tok} {v : Value} {es : List DictEntry} {ks : List Str} {vs : List Value} (r : Ents w es ks vs) (h : y ≠ x) : getL x (⟨PyData.keyHash w.params y, .str y t, v⟩ :: es) = getL x es := by
  rw [getL_cons _ _ _ r.noRef rfl, isStr_beq, beq_eq_false_iff_ne.mpr h, if_neg Bool.false_ne_true]
inductive EntG (es : List DictEntry) (vs : List Value) (i : Nat) (x : Str) : Prop
  | mk (v : Value) (e : vs[i]? = some v) (g : getL x es = some (some v))
theorem Ents.get {w : World} {es : List DictEntry} {ks : List Str} {vs : List Value} {i : Nat} {x : Str} (h : Ents w es ks vs) (hn : ks.Nodup) (hx : ks[i]? = some x) : EntG es vs i x := by
  induction h generalizing i with
  | nil => exact none_ne (show (none : Option Str) = some x from hx)
  | cons r ih => exact match i, hx with
    | 0, hx => Option.some.inj hx ▸ ⟨_, rfl, getL_here r⟩
    | i + 1, hx => let ⟨u, a, b⟩ := ih (List.nodup_cons.mp hn).2 hx; ⟨u, a, (getL_there r fun q => (List.nodup_cons.mp hn).1 (by rw [q]; exact List.mem_of_getElem? hx)).trans b⟩
theorem Ents.miss {w : World} {es : List DictEntry} {ks : List Str} {vs : List Value} {x : Str} (h : Ents w es ks vs) (hx : x ∉ ks) : getL x es = some none := by
  induction h with
  | nil => rfl
  | cons r ih => exact (getL_there r fun q => hx (by rw [q]; exact List.mem_cons_self)).trans (ih fun q => hx (List.mem_cons_of_mem _ q))
theorem PutA.nodup {ks ks' : List Str} {ds ds' : List D} {x : Str} {d : D} (h : PutA ks ds x d ks' ds') (hn : ks.Nodup) : ks'.Nodup ∧ ∀ y, y ∈ ks' → y = x ∨ y ∈ ks := by
  induction h with
  | nil => exact ⟨by simp, fun y hy => .inl (List.mem_singleton.mp hy)⟩
  | here => exact ⟨hn, fun y hy => .inr hy⟩
  | there hne _ ih =>
    refine (fun (a : _ ∧ _) => ⟨List.nodup_cons.mpr ⟨fun q => ?_, a.1⟩, fun z hz => (List.mem_cons.mp hz).elim (fun e => .inr (e ▸ List.mem_cons_self)) fun hz => (a.2 _ hz).imp_right fun e => List.mem_cons_of_mem _ e⟩) (ih (List.nodup_cons.mp hn).2)
    exact (a.2 _ q).elim (fun e => beq_eq_false_iff_ne.mp hne e) (List.nodup_cons.mp hn).1
theorem Ents.kCons {w : World} {es : List DictEntry} {x : Str} {ks : List Str} {vs : List Value} {P : Prop} (h : Ents w es (x :: ks) vs) (k : ∀ t v es' vs', es = ⟨PyData.keyHash w.params x, .str x t, v⟩ :: es' → vs = v :: vs' → Ents w es' ks vs' → P) : P := by
  cases h with | cons r => exact k _ _ _ _ rfl rfl r
theorem RepAll.kVC {prog : Program} {w : World} {v : Value} {vs : List Value} {d : D} {ds : List D} (h : RepAll prog w φ (v :: vs) (d :: ds)) : Rep prog w φ v d ∧ RepAll prog w φ vs ds :=
  h.kCons fun _ _ e a b => ⟨(List.cons.inj e).1 ▸ a, (List.cons.inj e).2 ▸ b⟩
theorem PutA.put {prog : Program} {w : World} {ks ks' : List Str} {ds ds' : List D} {x : Str} {d : D} {es : List DictEntry} {vs : List Value} {v : Value} (t : Tok) (h : PutA ks ds x d ks' ds') (e : Ents w es ks vs) (ra : RepAll prog w φ vs ds) (r : Rep prog w φ v d) :
    ∃ vs', Ents w (putL x (PyData.keyHash w.params x) (.str x t) v es) ks' vs' ∧ RepAll prog w φ vs' ds' := by
  induction h generalizing es vs with
  | nil => cases e; exact ⟨[v], .cons .nil, .cons r .nil⟩
  | here =>
    refine e.kCons fun t' u es' vs' q1 q2 e' => ?_
    subst q1 q2
    refine ⟨v :: vs', ?_, .cons r ra.kVC.2⟩
    unfold putL
    rw [isStr_beq, beq_self_eq_true, if_pos rfl]
    exact .cons e'
  | there hne p ih =>
    refine e.kCons fun t' u es' vs' q1 q2 e' => ?_
    subst q1 q2
    refine (ih e' ra.kVC.2 r).elim fun us a => ⟨u :: us, ?_, .cons ra.kVC.1 a.2⟩
    unfold putL
    rw [isStr_beq, hne, if_neg Bool.false_ne_true]
    exact .cons a.1
theorem PutA.len {ks ks' : List Str} {ds ds' : List D} {x : Str} {d : D} (h : PutA ks ds x d ks' ds') : ks'.length ≤ ks.length + 1 := by
  induction h with
  | nil => exact Nat.le_refl _
  | here => exact Nat.le_succ _
  | there _ _ ih => exact Nat.succ_le_succ ih

structure AttrG (K : Frag) (C : Addr) (name : Str) : Prop where
  plain : plainGet K C name = true
  hd : hasDictIn K C = true
  attr : ∃ a, findIn K (.ref C) name = some a ∧ noGet K a = true
structure AttrS (K : Frag) (C : Addr) (name : Str) : Prop where
  sa : findIn K (.ref C) "__setattr__" = some (some (.builtin "object.__setattr__"))
  po : plainOver K C = true
  tk : takerIn K C name = some none
  hd : hasDictIn K C = true
/-- a method of a class of the text's own -/
structure MethG (K : Frag) (C : Addr) (name : Str) (f : Addr) : Prop where
  plain : plainGet K C name = true
  find : findIn K (.ref C) name = some (some (.ref f))
  fn : typeIn K (.ref f) = some (.type "function")

def D.ok : D → Prop
  | .raw v => handedIn v = true
  | _ => True
theorem Rep.handed {prog : Program} {w : World} {v : Value} {d : D} (r : Rep prog w φ v d) (k : d.ok) : handedIn v = true := by
  cases r <;> first | rfl | exact k

theorem inst_at {h : Heap} {x C dx : Addr} {es : List DictEntry} {n : Nat} (a : h.get? x = some (instObj C dx)) (b : h.get? dx = some (dictOf es n)) : InstAt h x (instObj C dx) C (some (dictOf es n)) := ⟨a, rfl, rfl, b⟩

/-- the fields of an object: frozen, or on the ledger -/
inductive Flds (ν : Lg) : D → Addr → List Str → List D → Prop
  | frozen {C : Addr} {ks : List Str} {ds : List D} : Flds ν (.inst C ks ds) C ks ds
  | live {C dx : Addr} {ks : List Str} {ds : List D} : (dx, MO.attrs ks ds) ∈ ν → Flds ν (.obj C dx) C ks ds
inductive IsI (c : Cx) (φ : Fz) (h : Heap) (C : Addr) (u : Value) (ks : List Str) (ds : List D) : Prop
  | mk (x dx : Addr) (es : List DictEntry) (n : Nat) (vs : List Value) (e : u = .ref x) (i : InstAt h x (instObj C dx) C (some (dictOf es n))) (en : Ents c.w es ks vs) (nd : ks.Nodup) (r : RepAll c.prog c.w φ vs ds)
theorem Flds.get {d : D} {C : Addr} {ks : List Str} {ds : List D} {u : Value} (f : Flds ν d C ks ds) (r : Rep c.prog c.w φ u d) (o : Ok c φ m ν h) :
    IsI c φ h C u ks ds := by
  cases f with
  | frozen =>
    cases r with
    | @inst x _ dx es n _ vs _ a b e nd ra => exact ⟨x, dx, es, n, vs, rfl, inst_at (o.fz _ _ a) (o.fz _ _ b), e, nd, ra⟩
  | live hm =>
    cases r with
    | @obj x _ dx' a =>
      obtain ⟨_, ob, eb, rb⟩ := o.lg _ hm
      cases rb with
      | @attrs es n _ vs _ e nd ra => exact ⟨x, _, es, n, vs, rfl, inst_at (o.fz _ _ a) eb, e, nd, ra⟩

theorem ga_field {d e : D} {C : Addr} {ks : List Str} {ds : List D} {name : Str} {Q : D → Mp → Lg → Prop} (f : Flds ν d C ks ds) (g : AttrG c.K C name) (a : AtL ks ds name e) (k : e.ok) (q : Q e m ν) : GetA c d name m ν Q := by
  intro φ u ru s o
  obtain ⟨x, dx, es, n, vs, rfl, I, en, nd, ra⟩ := f.get ru o
  obtain ⟨i, hx, he⟩ := a.get
  obtain ⟨v, hv, hl⟩ := en.get nd hx
  obtain ⟨e', he', rv⟩ := ra.getV hv
  rw [he] at he'; cases he'
  obtain ⟨at_, ha, hn⟩ := g.attr
  exact get_value o.inK I (plainGet_of g.plain).1 (findObj_own g.hd ha hn hl) (rv.handed k) (Fin.here (tk := s.toks + 1) o rv q)

theorem gm_own {d : D} {C f : Addr} {ks : List Str} {ds : List D} {name : Str} {R : Value → List D → Prop} (fl : Flds ν d C ks ds) (g : MethG c.K C name f) (hx : name ∉ ks) (q : R (.ref f) [d]) : GetM c d name m ν R := by
  intro φ u s pl E Z ru o z
  obtain ⟨x, dx, es, n, vs, rfl, I, en, nd, ra⟩ := fl.get ru o
  refine method_fn o.inK I (plainGet_of g.plain).1 (plainGet_of g.plain).2 g.find g.fn ?_ (z (.ref f) [.ref x] [d] s.toks (.cons ru .nil) q)
  show (lookIn name (dictOf es n)).map _ = _
  rw [lookIn_dict, en.miss hx]; rfl

theorem attributes_base (value : Expr) : True := trivial
abbrev Q_ev_Attr (c : Cx) (attr : Str) (Q : D → Mp → Lg → Prop) (d : D) (m₁ : Mp) (ν₁ : Lg) : Prop := GetA c d attr m₁ ν₁ Q
theorem ev_Attr {value : Expr} {attr : Str} {pos : Pos} {Q : D → Mp → Lg → Prop} (h : Run c (V c) (eval value env) m ν (Q_ev_Attr c attr Q))
    (he : eval (.Attribute value attr pos) env = (do
      let o ← eval value env
      standAt pos.atName
      let r ← holding [o] (getAttr o attr true)
      letTemporaryGo value o r
      pure r) := by with_unfolding_all rfl) : Run c (V c) (eval (.Attribute value attr pos) env) m ν Q := fun φ s o =>
  PyProof.Rows.Attribute_any_ ((h φ).use o fun v d h₁ tk₁ φ₁ m₁ ν₁ o₁ st r q => RunAt.fin (q φ₁ v r) o₁ st) he
end

/- MB9 -/

section
variable {c : Cx} {env : Env} {φ ψ : Fz} {m m' : Mp} {ν ν' : Lg} {h h' : Heap}

/-! ## the ledger turned at one place -/
inductive UpdL : Lg → Addr → MO → MO → Lg → Prop
  | head {a : Addr} {x y : MO} {r : Lg} : UpdL ((a, x) :: r) a x y ((a, y) :: r)
  | tail {a : Addr} {x y : MO} {p : Addr × MO} {r r' : Lg} : UpdL r a x y r' → UpdL (p :: r) a x y (p :: r')
theorem UpdL.mem {ν ν' : Lg} {a : Addr} {x y : MO} (u : UpdL ν a x y ν') : (a, x) ∈ ν := by
  induction u with
  | head => exact List.mem_cons_self
  | tail _ ih => exact List.mem_cons_of_mem _ ih
theorem UpdL.addr {ν ν' : Lg} {a : Addr} {x y : MO} (u : UpdL ν a x y ν') : ν'.map (·.1) = ν.map (·.1) := by
  induction u with
  | head => rfl
  | @tail _ _ _ p _ _ _ ih => exact congrArg (List.cons p.1) ih
theorem UpdL.each {ν ν' : Lg} {a : Addr} {x y : MO} (u : UpdL ν a x y ν') (hn : (ν.map (·.1)).Nodup) : ∀ p ∈ ν', p = (a, y) ∨ (p ∈ ν ∧ p.1 ≠ a) := by
  induction u with
  | head => exact fun p hp => (List.mem_cons.mp hp).imp_right fun hp => ⟨List.mem_cons_of_mem _ hp, fun q => (List.nodup_cons.mp hn).1 (by rw [← q]; exact List.mem_map_of_mem (f := (·.1)) hp)⟩
  | tail u ih => exact fun p hp => (List.mem_cons.mp hp).elim (fun q => .inr ⟨q ▸ List.mem_cons_self, fun e => (List.nodup_cons.mp hn).1 (by have := List.mem_map_of_mem (f := (·.1)) u.mem; rw [← e, q] at this; exact this)⟩) fun hp => (ih (List.nodup_cons.mp hn).2 p hp).imp_right fun e => ⟨List.mem_cons_of_mem _ e.1, e.2⟩
theorem Ok.upd {a : Addr} {x y : MO} {ob : Obj} (o : Ok c φ m ν h) (u : UpdL ν a x y ν') (k : ∀ b ob, b ≠ a → h.get? b = some ob → h'.get? b = some ob) (e : h'.get? a = some ob) (r : MRep c.prog c.w φ ob y) :
    Ok c φ m ν' h' ∧ Step c.L φ ν h φ ν' h' := by
  have ha := u.mem
  have aL : a ≠ c.L := (o.lg _ ha).l
  have adr : ∀ p ∈ ν', ∃ q ∈ ν, q.1 = p.1 := fun p hp => by
    have : p.1 ∈ ν.map (·.1) := u.addr ▸ List.mem_map_of_mem hp
    obtain ⟨q, hq, e⟩ := List.mem_map.mp this
    exact ⟨q, hq, e⟩
  constructor
  · exact {
      nsd := o.nsd
      ns := let ⟨mv, p, q⟩ := o.ns; ⟨mv, p.at' fun ob e => k _ ob (Ne.symm aL) e, q⟩
      fz := fun b ob' e' => k _ _ (fun q => o.fzN b ob' e' _ ha q.symm) (o.fz _ _ e')
      fzL := o.fzL
      fzN := fun b ob' e' p hp => let ⟨q, hq, eq⟩ := adr p hp; eq ▸ o.fzN b ob' e' q hq
      lg := fun p hp => by
        rcases u.each o.nd p hp with rfl | ⟨hp, hne⟩
        · exact ⟨aL, ob, e, r⟩
        · obtain ⟨x, ob', e', r'⟩ := o.lg p hp
          exact ⟨x, ob', k _ _ hne e', r'⟩
      nd := u.addr ▸ o.nd
      gd := o.gd }
  · exact ⟨fun b ob' e' bL bN => k _ _ (fun q => bN _ ha q.symm) e', fun _ _ e => e, fun _ _ e => .inl e, fun p hp => .inl (adr p hp)⟩

/-! ## new objects -/
theorem Ok.alloc {ob : Obj} (o : Ok c φ m ν h) (hf : ob.isFreed = false) : Ok c (addF φ h.objs.size ob) m ν (h.push ob) ∧ Step c.L φ ν h (addF φ h.objs.size ob) ν (h.push ob) :=
  have k : ∀ b x, h.get? b = some x → (h.push ob).get? b = some x := fun b x e => Heap.get?_push_of_some _ e
  ⟨(o.grow k).freeze (o.off (size_none h)) (Heap.get?_push_size _ hf), (Step.grow k).freeze (size_none h)⟩
theorem Ok.allocL {ob : Obj} {mo : MO} (o : Ok c φ m ν h) (hf : ob.isFreed = false) (r : MRep c.prog c.w φ ob mo) : Ok c φ m ((h.objs.size, mo) :: ν) (h.push ob) ∧ Step c.L φ ν h φ ((h.objs.size, mo) :: ν) (h.push ob) :=
  have k : ∀ b x, h.get? b = some x → (h.push ob).get? b = some x := fun b x e => Heap.get?_push_of_some _ e
  ⟨(o.grow k).push (o.off (size_none h)) (Heap.get?_push_size _ hf) r, (Step.grow k).push (size_none h)⟩
theorem addF_here {a : Addr} {ob : Obj} : addF φ a ob a ob := .inr ⟨rfl, rfl⟩

theorem sizeLine_ge {n : Nat} (h : n ≤ 100000) : n ≤ sizeLine := by rw [sizeLine_eq]; omega

abbrev Q_ev_Tuple (Q : D → Mp → Lg → Prop) (ds : List D) (m₁ : Mp) (ν₁ : Lg) : Prop := ds.length ≤ 100000 ∧ Q (.tup ds) m₁ ν₁
theorem ev_Tuple {elts : List Expr} {k : Nat} {pos : Pos} {Q : D → Mp → Lg → Prop} (h : Args c env pos elts m ν (Q_ev_Tuple Q)) : Run c (V c) (eval (.Tuple elts k pos) env) m ν Q := by
  intro φ s o
  refine PyProof.Rows.Tuple_ ((h φ).use o fun vs ds h₁ tk₁ φ₁ m₁ ν₁ o₁ st ra q => ?_)
  refine wpAny_newObj_type ?_ (by show vs.toArray.size ≤ sizeLine; rw [List.size_toArray, ra.length]; exact sizeLine_ge q.1)
  obtain ⟨o₂, st₂⟩ := o₁.alloc (ob := tupOf vs.toArray 0) rfl
  exact ⟨_, _, _, m₁, ν₁, .tup ds, rfl, o₂, st.trans o₁ st₂, .tup addF_here (ra.up le_addF), q.2⟩
theorem ev_List {elts : List Expr} {pos : Pos} {Q : D → Mp → Lg → Prop} (h : Args c env pos elts m ν fun ds m₁ ν₁ => ds.length ≤ 100000 ∧ Q (.lst ds) m₁ ν₁) : Run c (V c) (eval (.List elts pos) env) m ν Q := by
  intro φ s o
  refine PyProof.Rows.List_ ((h φ).use o fun vs ds h₁ tk₁ φ₁ m₁ ν₁ o₁ st ra q => ?_)
  refine wpAny_newObj_type ?_ (by show vs.toArray.size ≤ sizeLine; rw [List.size_toArray, ra.length]; exact sizeLine_ge q.1)
  obtain ⟨o₂, st₂⟩ := o₁.alloc (ob := listOf vs.toArray 0) rfl
  exact ⟨_, _, _, m₁, ν₁, .lst ds, rfl, o₂, st.trans o₁ st₂, .lst addF_here (ra.up le_addF), q.2⟩
theorem ev_ListM {elts : List Expr} {pos : Pos} {Q : D → Mp → Lg → Prop} (h : Args c env pos elts m ν fun ds m₁ ν₁ => ds.length ≤ 100000 ∧ ∀ a, Q (.raw (.ref a)) m₁ ((a, .lst ds) :: ν₁)) : Run c (V c) (eval (.List elts pos) env) m ν Q := by
  intro φ s o
  refine PyProof.Rows.List_ ((h φ).use o fun vs ds h₁ tk₁ φ₁ m₁ ν₁ o₁ st ra q => ?_)
  refine wpAny_newObj_type ?_ (by show vs.toArray.size ≤ sizeLine; rw [List.size_toArray, ra.length]; exact sizeLine_ge q.1)
  obtain ⟨o₂, st₂⟩ := o₁.allocL (ob := listOf vs.toArray 0) rfl (.lst ra)
  exact ⟨_, _, _, m₁, _, .raw (.ref h₁.objs.size), rfl, o₂, st.trans o₁ st₂, .raw _, q.2 _⟩

/-! ## lists, frozen or on the ledger -/
inductive LstOf (ν : Lg) : D → List D → Prop
  | frozen {ds : List D} : LstOf ν (.lst ds) ds
  | live {a : Addr} {ds : List D} : (a, MO.lst ds) ∈ ν → LstOf ν (.raw (.ref a)) ds
inductive IsL (c : Cx) (φ : Fz) (h : Heap) (u : Value) (ds : List D) : Prop
  | mk (a : Addr) (vs : List Value) (n : Nat) (e : u = .ref a) (g : h.get? a = some (listOf (List.toArray vs) n)) (r : RepAll c.prog c.w φ vs ds)
theorem LstOf.get {d : D} {ds : List D} {u : Value} (l : LstOf ν d ds) (r : Rep c.prog c.w φ u d) (o : Ok c φ m ν h) : IsL c φ h u ds := by
  cases l with
  | frozen => cases r with | @lst a vs n _ ha ra => exact ⟨a, vs, n, rfl, o.fz _ _ ha, ra⟩
  | live hm =>
    cases r
    obtain ⟨_, ob, e, rb⟩ := o.lg _ hm
    cases rb with | @lst vs n _ ra => exact ⟨_, vs, n, rfl, e, ra⟩
theorem isList_of {a : Addr} {vs : List Value} {n : Nat} (e : h.get? a = some (listOf (List.toArray vs) n)) : h.IsList a vs.toArray := ⟨_, e, rfl, n, rfl⟩
theorem iter_of {d : D} {ds : List D} (hh : c.A.handled = none) (l : LstOf ν d ds) : ∃ Kν, IterD c.prog c.w c.A d ds Kν ∧ Kν ν := by
  cases l with
  | frozen => exact ⟨_, iter_lst hh, trivial⟩
  | live hm => exact ⟨_, iter_ptr hh, hm⟩

/-! ## items -/
abbrev B_sub (c : Cx) (value slice : Expr) (a : D) (Q : D → Mp → Lg → Prop) (i : D) (m₂ : Mp) (ν₂ : Lg) : Prop := Subs c value slice a i m₂ ν₂ Q
abbrev Q_ev_Sub (c : Cx) (env : Env) (value : Expr) (slice : Expr) (Q : D → Mp → Lg → Prop) (a : D) (m₁ : Mp) (ν₁ : Lg) : Prop := Run c (V c) (eval slice env) m₁ ν₁ (B_sub c value slice a Q)
theorem ev_Sub {value slice : Expr} {pos : Pos} {Q : D → Mp → Lg → Prop} (h : Run c (V c) (eval value env) m ν (Q_ev_Sub c env value slice Q)) :
    Run c (V c) (eval (.Subscript value slice pos) env) m ν Q := fun φ s o =>
  PyProof.Rows.Subscript_ ((h φ).use o fun u a h₁ tk₁ φ₁ m₁ ν₁ o₁ st ru q => (q φ₁).use (s := { s with heap := h₁, toks := tk₁ }) o₁ fun v i h₂ tk₂ φ₂ m₂ ν₂ o₂ st₂ rv q₂ => RunAt.fin (s := s) (q₂ φ₂ u v (ru.up st₂.mono) rv) o₂ (st.trans o₁ st₂))
def PlainSlice (slice : Expr) : Prop := ∀ o i, subscripted slice false o i = operate [o, i] (getItem o i)
theorem su_list {value slice : Expr} {a d : D} {k : Int} {ds : List D} {Q : D → Mp → Lg → Prop} (hs : PlainSlice slice) (l : LstOf ν a ds) (h0 : 0 ≤ k) (hb : k < 2 ^ 63) (e : ds[k.toNat]? = some d) (q : Q d m ν) : Subs c value slice a (.int k) m ν Q := by
  intro φ u v ru rv s o
  cases rv
  obtain ⟨x, vs, n, rfl, ex, ra⟩ := l.get ru o
  obtain ⟨w, hw, rw'⟩ := ra.get e
  exact tail_any (isList_of ex).typeIs slot_list_getitem.lookup (wpAny_getItem_list (isList_of ex) h0 hb (by simpa using hw) (Fin.here (tk := s.toks) o rw' q)) (hs _ _)
theorem su_last {value slice : Expr} {a d : D} {ds : List D} {Q : D → Mp → Lg → Prop} (hs : PlainSlice slice) (l : LstOf ν a ds) (e : ds.getLast? = some d) (hl : ds.length ≤ 100000) (q : Q d m ν) : Subs c value slice a (.int (-1)) m ν Q := by
  intro φ u v ru rv s o
  cases rv
  obtain ⟨x, vs, n, rfl, ex, ra⟩ := l.get ru o
  rw [List.getLast?_eq_getElem?] at e
  obtain ⟨w, hw, rw'⟩ := ra.get e
  have hlen := ra.length
  have hpos : 0 < ds.length := by
    have := (List.getElem?_eq_some_iff.mp e).1; omega
  exact tail_any (isList_of ex).typeIs slot_list_getitem.lookup (wpAny_getItem_list_neg (isList_of ex) (by decide) (by rw [List.size_toArray, hlen]; omega) (by decide) (by
    rw [List.size_toArray, hlen, show (-1 + (ds.length : Int)).toNat = ds.length - 1 by omega]; simpa using hw) (Fin.here (tk := s.toks) o rw' q)) (hs _ _)
theorem su_tup {value slice : Expr} {d : D} {k : Int} {ds : List D} {Q : D → Mp → Lg → Prop} (hs : PlainSlice slice) (h0 : 0 ≤ k) (hb : k < 2 ^ 63) (e : ds[k.toNat]? = some d) (q : Q d m ν) : Subs c value slice (.tup ds) (.int k) m ν Q := by
  intro φ u v ru rv s o
  cases rv
  cases ru with
  | @tup x vs n _ hx ra =>
    obtain ⟨w, hw, rw'⟩ := ra.get e
    have T : IsTup s.heap x vs.toArray := ⟨_, o.fz _ _ hx, rfl, n, rfl⟩
    have hlt : k.toNat < vs.length := (List.getElem?_eq_some_iff.mp hw).1
    obtain ⟨j, rfl⟩ := Int.eq_ofNat_of_zero_le h0
    refine tail_any T.typeIs slot_tuple_getitem.lookup (PyProof.Rows.getItem_tuple T (by omega) hb (j := j) ?_ (by simpa using hw) (Fin.here (tk := s.toks) o rw' q)) (hs _ _)
    unfold seqIndex?
    simp at hlt ⊢
    omega
theorem su_smap {value slice : Expr} {d : D} {x : Str} {ks : List Str} {ds : List D} {Q : D → Mp → Lg → Prop} (hs : PlainSlice slice) (a : AtL ks ds x d) (q : Q d m ν) : Subs c value slice (.smap ks ds) (.str x) m ν Q := by
  intro φ u v ru rv s o
  cases rv
  cases ru with
  | @smap y ob kvs _ _ hy hd hk ra hsm =>
    have DD : s.heap.DictOf (strKind c.prog c.w) y kvs := Heap.dictOf_iff.mpr ⟨ob, o.fz _ _ hy, hd⟩
    obtain ⟨i, hx, he⟩ := a.get
    obtain ⟨z, hz, rz⟩ := ra.get he
    have hkv : kvs[i]? = some (x, z) := by
      rw [← hk, List.getElem?_map] at hx
      rw [List.getElem?_map] at hz
      cases q : kvs[i]? with
      | none => rw [q] at hx; cases hx
      | some p => obtain ⟨p1, p2⟩ := p; rw [q] at hx hz; simp at hx hz; rw [hx, hz]
    have hn : (kvs.map (·.1)).Nodup := let ⟨_, _, _, _, _, _, n⟩ := hd; n
    exact tail_any DD.typeIs slot_dict_getitem.lookup (wpAny_getItem_of (strKind_is _ _ _ _) DD.mapOf (valueAt_of_get hn hkv) (Fin.here (tk := s.toks + 1) o rz q)) (hs _ _)

/-! ## stores -/
def SetI (c : Cx) (a i d : D) (m : Mp) (ν : Lg) (Q : Mp → Lg → Prop) : Prop := ∀ φ u v w, Rep c.prog c.w φ u a → Rep c.prog c.w φ v i → Rep c.prog c.w φ w d → RunAt c eqr φ (setItem u v w) m ν (fun (_ : Unit) => Q)
def SetA (c : Cx) (a d : D) (name : Str) (m : Mp) (ν : Lg) (Q : Mp → Lg → Prop) : Prop := ∀ φ u w, Rep c.prog c.w φ u a → Rep c.prog c.w φ w d → RunAt c eqr φ (setAttr u name w) m ν (fun (_ : Unit) => Q)
abbrev Q_ex_AssignSub (c : Cx) (env : Env) (o : Expr) (i : Expr) (Q : FD → Mp → Lg → Prop) (d : D) (m₁ : Mp) (ν₁ : Lg) : Prop := Run c (V c) (eval o env) m₁ ν₁ fun a m₂ ν₂ => Run c (V c) (eval i env) m₂ ν₂ fun j m₃ ν₃ => SetI c a j d m₃ ν₃ (Q .next)
theorem ex_AssignSub {o i e : Expr} {p pos : Pos} {Q : FD → Mp → Lg → Prop}
    (h : Run c (V c) (eval e env) m ν (Q_ex_AssignSub c env o i Q))
    (hs : swapsWith e (some (.Subscript o i p)) pos.line env = pure false := by rfl) : Ex1 c env (.Assign [.Subscript o i p] e pos) m ν Q := fun φ s ok =>
  wpAny_Assign_Subscript ((h φ).use ok fun w d h₁ tk₁ φ₁ m₁ ν₁ o₁ st rw' q => (q φ₁).use o₁ fun u a h₂ tk₂ φ₂ m₂ ν₂ o₂ st₂ ru q₂ => (q₂ φ₂).use o₂ fun v j h₃ tk₃ φ₃ m₃ ν₃ o₃ st₃ rv q₃ =>
    (q₃ φ₃ u v w (ru.up st₃.mono) rv ((rw'.up st₂.mono).up st₃.mono)).use o₃ fun _ _ h₄ tk₄ φ₄ m₄ ν₄ o₄ st₄ _ q₄ => ⟨h₄, tk₄, φ₄, m₄, ν₄, .next, rfl, o₄, ((st.trans o₁ st₂).trans o₂ st₃).trans o₃ st₄, .next, q₄⟩) hs
abbrev Q_ex_AssignAttr (c : Cx) (env : Env) (o : Expr) (attr : Str) (Q : FD → Mp → Lg → Prop) (d : D) (m₁ : Mp) (ν₁ : Lg) : Prop := Run c (V c) (eval o env) m₁ ν₁ fun a m₂ ν₂ => SetA c a d attr m₂ ν₂ (Q .next)
theorem ex_AssignAttr {o e : Expr} {attr : Str} {p pos : Pos} {Q : FD → Mp → Lg → Prop}
    (h : Run c (V c) (eval e env) m ν (Q_ex_AssignAttr c env o attr Q))
    (hs : swapsWith e (some (.Attribute o attr p)) pos.line env = pure false := by rfl) : Ex1 c env (.Assign [.Attribute o attr p] e pos) m ν Q := fun φ s ok =>
  plainObj_wpAny_Assign_Attribute ((h φ).use ok fun w d h₁ tk₁ φ₁ m₁ ν₁ o₁ st rw' q => (q φ₁).use o₁ fun u a h₂ tk₂ φ₂ m₂ ν₂ o₂ st₂ ru q₂ =>
    (q₂ φ₂ u w ru (rw'.up st₂.mono)).use o₂ fun _ _ h₄ tk₄ φ₄ m₄ ν₄ o₄ st₄ _ q₄ => ⟨h₄, tk₄, φ₄, m₄, ν₄, .next, rfl, o₄, (st.trans o₁ st₂).trans o₂ st₄, .next, q₄⟩) hs

theorem listOf_update {a : Addr} {vs : List Value} {n : Nat} {f : Array Value → Array Value} (e : h.get? a = some (listOf (List.toArray vs) n)) : ∃ n', (h.update a (Obj.mapSeq f)).get? a = some (listOf (f vs.toArray) n') := ⟨_, PySem.IsL.update e f⟩
theorem si_list {a : Addr} {d : D} {k : Int} {ds : List D} {Q : Mp → Lg → Prop} (h0 : 0 ≤ k) (hb : k < 2 ^ 63) (hl : k < ds.length) (u : UpdL ν a (.lst ds) (.lst (ds.set k.toNat d)) ν') (q : Q m ν') : SetI c (.raw (.ref a)) (.int k) d m ν Q := by
  intro φ x v w rx rv rw' s o
  cases rv
  obtain ⟨y, vs, n, e', ex, ra⟩ := (LstOf.live u.mem).get rx o
  subst e'
  cases rx
  obtain ⟨n', e₂⟩ := listOf_update (f := (·.setIfInBounds k.toNat w)) ex
  refine ki_setAt ex h0 hb (by rw [List.size_toArray, ra.length]; exact hl) ?_
  obtain ⟨o₂, st₂⟩ := o.upd u (fun b ob hb e => ((Heap.SameBut.update ..).2 b hb).trans e) e₂ (by
    have : vs.toArray.setIfInBounds k.toNat w = (vs.set k.toNat w).toArray := by apply Array.toList_inj.mp; simp
    rw [this]; exact .lst (ra.set rw'))
  exact ⟨_, s.toks, φ, m, ν', (), rfl, o₂, st₂, rfl, q⟩
theorem si_last {a : Addr} {d : D} {ds : List D} {Q : Mp → Lg → Prop} (hl : 0 < ds.length) (u : UpdL ν a (.lst ds) (.lst (ds.set (ds.length - 1) d)) ν') (q : Q m ν') : SetI c (.raw (.ref a)) (.int (-1)) d m ν Q := by
  intro φ x v w rx rv rw' s o
  cases rv
  obtain ⟨y, vs, n, e', ex, ra⟩ := (LstOf.live u.mem).get rx o
  subst e'
  cases rx
  obtain ⟨n', e₂⟩ := listOf_update (f := (·.setIfInBounds (-1 + ((vs.toArray).size : Int)).toNat w)) ex
  have hlen := ra.length
  refine ki_setBack ex (by decide) (by rw [List.size_toArray, hlen]; omega) (by decide) ?_
  obtain ⟨o₂, st₂⟩ := o.upd u (fun b ob hb e => ((Heap.SameBut.update ..).2 b hb).trans e) e₂ (by
    rw [List.size_toArray, hlen, show (-1 + (ds.length : Int)).toNat = ds.length - 1 by omega]
    have : vs.toArray.setIfInBounds (ds.length - 1) w = (vs.set (ds.length - 1) w).toArray := by apply Array.toList_inj.mp; simp
    rw [this]; exact .lst (ra.set rw'))
  exact ⟨_, s.toks, φ, m, ν', (), rfl, o₂, st₂, rfl, q⟩
end

/- MB10 -/

section
variable {c : Cx} {env : Env} {φ ψ : Fz} {m m' : Mp} {ν ν' : Lg} {h h' : Heap}

theorem Ok.upd' {a : Addr} {x y : MO} {ob : Obj} {mv : Str → Option Value} (o : Ok c φ m ν h) (hm : Names c.prog c.w φ c.ns m mv) (hL : h'.Ns c.L mv) (u : UpdL ν a x y ν') (k : ∀ b ob, b ≠ a → b ≠ c.L → h.get? b = some ob → h'.get? b = some ob) (e : h'.get? a = some ob)
    (r : MRep c.prog c.w φ ob y) : Ok c φ m ν' h' ∧ Step c.L φ ν h φ ν' h' := by
  have ha := u.mem
  have aL : a ≠ c.L := (o.lg _ ha).l
  have adr : ∀ p ∈ ν', ∃ q ∈ ν, q.1 = p.1 := fun p hp => by
    have : p.1 ∈ ν.map (·.1) := u.addr ▸ List.mem_map_of_mem hp
    obtain ⟨q, hq, e⟩ := List.mem_map.mp this
    exact ⟨q, hq, e⟩
  constructor
  · exact {
      nsd := o.nsd
      ns := ⟨mv, hL, hm⟩
      fz := fun b ob' e' => k _ _ (fun q => o.fzN b ob' e' _ ha q.symm) (o.fzL _ _ e') (o.fz _ _ e')
      fzL := o.fzL
      fzN := fun b ob' e' p hp => let ⟨q, hq, eq⟩ := adr p hp; eq ▸ o.fzN b ob' e' q hq
      lg := fun p hp => by
        rcases u.each o.nd p hp with rfl | ⟨hp, hne⟩
        · exact ⟨aL, ob, e, r⟩
        · obtain ⟨x, ob', e', r'⟩ := o.lg p hp
          exact ⟨x, ob', k _ _ hne x e', r'⟩
      nd := u.addr ▸ o.nd
      gd := o.gd }
  · exact ⟨fun b ob' e' bL bN => k _ _ (fun q => bN _ ha q.symm) bL e', fun _ _ e => e, fun _ _ e => .inl e, fun p hp => .inl (adr p hp)⟩

def allBut (h : Heap) (L d : Addr) : List (Addr × Obj) := (List.range h.objs.size).filterMap fun a => if a = L ∨ a = d then none else (h.get? a).map fun o => (a, o)
theorem allBut_mem {L d : Addr} {p : Addr × Obj} : p ∈ allBut h L d ↔ h.get? p.1 = some p.2 ∧ p.1 ≠ L ∧ p.1 ≠ d := by
  unfold allBut
  rw [List.mem_filterMap]
  constructor
  · rintro ⟨a, _, e⟩
    split at e
    · cases e
    · rename_i hn
      rw [not_or] at hn
      cases q : h.get? a with
      | none => rw [q] at e; cases e
      | some o => rw [q] at e; cases e; exact ⟨q, hn.1, hn.2⟩
  · rintro ⟨e, hL, hd⟩
    exact ⟨p.1, List.mem_range.mpr (Heap.lt_size e), by rw [if_neg (not_or.mpr ⟨hL, hd⟩), e]; rfl⟩

/-- an attribute stored into an object of the text's own -/
theorem sa_live {C dx : Addr} {ks ks' : List Str} {ds ds' : List D} {name : Str} {d : D} {Q : Mp → Lg → Prop} (g : AttrS c.K C name) (p : PutA ks ds name d ks' ds') (hz : ks.length < 900) (u : UpdL ν dx (.attrs ks ds) (.attrs ks' ds') ν') (q : Q m ν') :
    SetA c (.obj C dx) d name m ν Q := by
  intro φ x w rx rw' s o
  cases rx with
  | @obj x _ _ hx =>
    obtain ⟨dL, od, eo, ro⟩ := o.lg _ u.mem
    cases ro with
    | @attrs es n _ vs _ en nd ra =>
      have I := inst_at (o.fz _ _ hx) eo
      obtain ⟨mv, hns, hmv⟩ := o.ns
      have hn0 : ∀ b, ({ objs := #[] } : Heap).get? b = none := fun b => by
        cases q : ({ objs := #[] } : Heap).get? b with
        | none => rfl
        | some ob => exact absurd (Heap.lt_size q) (Nat.not_lt_zero _)
      have F : Fr { objs := #[] } c.L s.heap mv := ⟨hns, fun b ob e => (by rw [hn0] at e; exact nomatch e), Nat.zero_le _⟩
      have N : News { objs := #[] } c.L s.heap ([] ++ (dx, dictOf es n) :: allBut s.heap c.L dx) := fun pr hp => by
        rcases List.mem_cons.mp hp with rfl | hp
        · exact ⟨eo, dL, hn0 _⟩
        · obtain ⟨a, b, _⟩ := allBut_mem.mp hp; exact ⟨a, b, hn0 _⟩
      have hl : (getL name es).isSome = true := by
        unfold getL
        split
        · rfl
        · rw [en.noRef]; rfl
      obtain ⟨vs', en', ra'⟩ := p.put (prog := c.prog) (s.toks + 1) en ra rw'
      have hlen : (putL name (PyData.keyHash c.w.params name) (.str name (s.toks + 1)) w es).length ≤ 1000 := by
        have := en'.len.1; have := p.len; omega
      refine set_plain o.inK I g.sa (osa_dict (s := { s with toks := s.toks + 1 }) F N o.inK I rfl g.po g.tk g.hd hl (fun _ h => nomatch h) (fun pr hp => (allBut_mem.mp hp).2.2) (putName_dict _ _ _ _ _ _) rfl hlen fun h' F' N' => ?_)
      have e' := (N' _ (List.mem_append_right _ List.mem_cons_self)).1
      obtain ⟨o₂, st₂⟩ := o.upd' hmv F'.ns u (fun b ob hb hbL e => (N' (b, ob) (List.mem_append_right _ (List.mem_cons_of_mem _ (allBut_mem.mpr ⟨e, hbL, hb⟩)))).1) e' (.attrs en' (p.nodup nd).1 ra')
      exact ⟨h', _, φ, m, ν', (), rfl, o₂, st₂, rfl, q⟩

/-! ## maps on the ledger -/
def storedK (ks : List Int) (ds : List D) (k : Int) (d : D) : List Int × List D :=
  if k ∈ ks then (ks, (ks.zip ds).map fun p => if p.1 = k then d else p.2) else (ks ++ [k], ds ++ [d])
theorem stored_rep {prog : Program} {w : World} : ∀ {kvs : List (Int × Value)} {ds : List D} (k : Int) {v : Value} {d : D}, RepAll prog w φ (kvs.map (·.2)) ds → Rep prog w φ v d →
    RepAll prog w φ ((kvs.map fun kv => if kv.1 = k then (kv.1, v) else kv).map (·.2)) (((kvs.map (·.1)).zip ds).map fun p => if p.1 = k then d else p.2)
  | [], [], _, _, _, _, _ => .nil
  | kv :: r, d' :: ds, k, v, d, .cons h t, rv => by
    simp only [List.map_cons, List.zip_cons_cons]
    refine .cons ?_ (stored_rep k t rv)
    by_cases q : kv.1 = k
    · simp [q]; exact rv
    · simp [q]; exact h
theorem any_key (kvs : List (Int × Value)) (k : Int) : (kvs.any fun kv => decide (kv.1 = k)) = decide (k ∈ kvs.map (·.1)) := by
  rw [Bool.eq_iff_iff, List.any_eq_true, decide_eq_true_eq, List.mem_map]
  constructor
  · rintro ⟨kv, hm, e⟩; exact ⟨kv, hm, of_decide_eq_true e⟩
  · rintro ⟨kv, hm, e⟩; exact ⟨kv, hm, decide_eq_true e⟩
theorem si_map {a : Addr} {d : D} {k : Int} {ks : List Int} {ds : List D} {Q : Mp → Lg → Prop} (hl : ks.length ≤ 100000) (u : UpdL ν a (.map ks ds) (.map (storedK ks ds k d).1 (storedK ks ds k d).2) ν') (q : Q m ν') : SetI c (.raw (.ref a)) (.int k) d m ν Q := by
  intro φ x v w rx rv rw' s o
  cases rv
  cases rx
  obtain ⟨aL, ob, e, r⟩ := o.lg _ u.mem
  cases r with
  | @map _ kvs _ _ hd hk ra =>
    have DD : s.heap.DictOf (intKind c.prog c.w) a kvs := Heap.dictOf_iff.mpr ⟨ob, e, hd⟩
    have hsz : kvs.length ≤ sizeLine := sizeLine_ge (by have : kvs.length = ks.length := by rw [← hk, List.length_map]
                                                        omega)
    refine wpAny_setItem_pairs (intKind_is _ _ _ _) DD (fun h' hD hs => ?_) hsz
    obtain ⟨ob', e', hd'⟩ := Heap.dictOf_iff.mp hD
    obtain ⟨o₂, st₂⟩ := o.upd u (fun b ob hb e => hs.extBut b ob hb e) e' (by
      refine .map hd' ?_ ?_
      · unfold stored storedK
        rw [any_key, hk]
        by_cases q : k ∈ ks
        · simp only [q, decide_true, if_true]; rw [keys_map_store, hk]
        · simp [q, hk]
      · unfold stored storedK
        rw [any_key, hk]
        by_cases q : k ∈ ks
        · simp only [q, decide_true, if_true]; rw [← hk]; exact stored_rep k ra rw'
        · simp [q]; exact ra.append (.cons rw' .nil))
    exact ⟨h', _, φ, m, ν', (), rfl, o₂, st₂, rfl, q⟩
end

/- MB11 -/

/-- room for n more frames -/
structure AOk (A : Around) (n : Nat) : Prop where
  h : A.handled = none
  d : A.depth + n < 900
  u : A.units + 10 * n < 9000
theorem AOk.le {A : Around} {n k : Nat} (x : AOk A n) (h : k ≤ n) : AOk A k := ⟨x.h, by have := x.d; omega, by have := x.u; omega⟩
theorem AOk.deeper {A : Around} {n : Nat} {env : Env} (x : AOk A (n + 1)) : AOk (A.deeper env) n :=
  ⟨x.h, by have := x.d; show A.depth + 1 + n < 900; omega, by have := x.u; show A.units + 3 + 10 * n < 9000; omega⟩
theorem AOk.make {A : Around} {n : Nat} {C : Addr} {vs : List Value} (x : AOk A (n + 1)) : AOk (A.under (.builtin "type.__call__" ⟨.ref C :: vs, []⟩)) n :=
  ⟨x.h, by have := x.d; rw [depth_under_make]; omega, by have := x.u; rw [units_under_make]; omega⟩
theorem AOk.room {A : Around} {n : Nat} (x : AOk A n) : A.depth < recursionLimit := by have := x.d; show A.depth < 1000; omega
theorem AOk.units {A : Around} {n : Nat} (x : AOk A n) : A.units + 800 < cLine := by have := x.u; show A.units + 800 < 9900; omega

section
variable {c : Cx} {env : Env} {φ ψ : Fz} {m m' : Mp} {ν ν' : Lg} {h h' : Heap}

/-- a class of the text's own is called -/
structure ClsG (K : Frag) (C fI : Addr) : Prop where
  mkc : makesIn K C = true
  init : findIn K (.ref C) "__init__" = some (some (.ref fI))
  fn : typeIn K (.ref fI) = some (.type "function")

theorem call_cls {C fI : Addr} {n : Nat} {ds : List D} {Q : D → Mp → Lg → Prop} (g : ClsG c.K C fI) (ha : AOk c.A (n + 1))
    (hi : ∀ A' dx, AOk A' n → CodeD (c.in A' c.L c.ns) (.ref fI) (.obj C dx :: ds) m ((dx, .attrs [] []) :: ν) fun d m₁ ν₁ => d = .none ∧ Q (.obj C dx) m₁ ν₁) : CodeD c (.ref C) ds m ν Q := by
  intro φ vs ra s o
  obtain ⟨hh, gs, dr, tk, os⟩ := s
  refine make_core (makes_of o.inK g.mkc) (looks_findIn o.inK g.init) (fun self => bind_fn o.inK self g.fn) (.inl rfl) ?_
  obtain ⟨o₁, st₁⟩ := o.allocL (ob := dictOf [] 0) (mo := .attrs [] []) rfl (.attrs .nil .nil .nil)
  obtain ⟨o₂, st₂⟩ := o₁.alloc (ob := instObj C hh.objs.size) rfl
  have st := st₁.trans o₁ st₂
  have hsz : (hh.push (dictOf [] 0)).objs.size = hh.objs.size + 1 := Heap.size_push _ _
  rw [hsz] at o₂ st
  have A' := ha.make (C := C) (vs := vs)
  have z := hi _ hh.objs.size A' (addF φ (hh.objs.size + 1) (instObj C hh.objs.size)) (.ref (hh.objs.size + 1) :: vs) (.cons (.obj addF_here) (ra.up le_addF)) ⟨(hh.push (dictOf [] 0)).push (instObj C hh.objs.size), gs, dr, tk, os⟩
    { nsd := o₂.nsd, ns := o₂.ns, fz := o₂.fz, fzL := o₂.fzL, fzN := o₂.fzN, lg := o₂.lg, nd := o₂.nd, gd := o₂.gd }
  refine codeAny_mono z fun r s' y => ?_
  cases r with
  | error e => exact y.elim
  | ok f =>
    cases f with
    | ret v =>
      obtain ⟨h', tk', φ', m', ν', d, rfl, o', st', rv, rfl, q⟩ := y
      have o'' : Ok c φ' m' ν' h' := { nsd := o'.nsd, ns := o'.ns, fz := o'.fz, fzL := o'.fzL, fzN := o'.fzN, lg := o'.lg, nd := o'.nd, gd := o'.gd }
      have rv' : v = .none := by cases rv; rfl
      exact ⟨rv', h', tk', φ', m', ν', .obj C hh.objs.size, rfl, o'', st.trans o₂ st', .obj (st'.mono _ _ addF_here), q⟩
    | _ => exact y.elim

/-! ## what is live is frozen -/
theorem Ok.unpush {a : Addr} {mo : MO} (o : Ok c φ m ((a, mo) :: ν) h) : ∃ ob, h.get? a = some ob ∧ MRep c.prog c.w φ ob mo ∧ Ok c (addF φ a ob) m ν h := by
  obtain ⟨aL, ob, e, r⟩ := o.lg _ List.mem_cons_self
  have nd := o.nd
  rw [List.map_cons, List.nodup_cons] at nd
  have o' : Ok c φ m ν h := { nsd := o.nsd, ns := o.ns, fz := o.fz, fzL := o.fzL, fzN := fun b ob e p hp => o.fzN b ob e p (List.mem_cons_of_mem _ hp), lg := fun p hp => o.lg p (List.mem_cons_of_mem _ hp), nd := nd.2, gd := o.gd }
  exact ⟨ob, e, r, o'.freeze ⟨Ne.symm aL, fun b ob' e' q => o.fzN b ob' e' _ List.mem_cons_self q.symm, fun p hp q => nd.1 (q ▸ List.mem_map_of_mem (f := (·.1)) hp)⟩ e⟩
theorem Step.unpush {L a : Addr} {mo : MO} {ob : Obj} {φ₀ : Fz} {ν₀ : Lg} {h₀ : Heap} (s : Step L φ₀ ν₀ h₀ φ ((a, mo) :: ν) h) : Step L φ₀ ν₀ h₀ (addF φ a ob) ν h :=
  ⟨s.keep, fun b o x => .inl (s.mono b o x), fun b o x => by
    rcases x with x | ⟨rfl, rfl⟩
    · exact s.newφ b o x
    · exact .inr (s.newν _ List.mem_cons_self), fun p hp => s.newν p (List.mem_cons_of_mem _ hp)⟩
/-- the first entry of the ledger, frozen: what it is now called -/
inductive Frz : D → Addr → MO → D → Prop
  | lst {a : Addr} {ds : List D} : Frz (.raw (.ref a)) a (.lst ds) (.lst ds)
  | map {a : Addr} {ks : List Int} {ds : List D} : (a == sysModules) = false → Frz (.raw (.ref a)) a (.map ks ds) (.map ks ds)
  | inst {C a : Addr} {ks : List Str} {ds : List D} : Frz (.obj C a) a (.attrs ks ds) (.inst C ks ds)
theorem Frz.rep {a : Addr} {mo : MO} {ob : Obj} {d d' : D} {v : Value} (f : Frz d a mo d') (r : Rep c.prog c.w φ v d) (mr : MRep c.prog c.w φ ob mo) : Rep c.prog c.w (addF φ a ob) v d' := by
  cases f with
  | lst => cases r; cases mr with | lst ra => exact .lst addF_here (ra.up le_addF)
  | map hs => cases r; cases mr with | map hd hk ra => exact .map addF_here hd hk (ra.up le_addF) hs
  | inst => cases r with | obj hx => cases mr with | attrs en nd ra => exact .inst (le_addF _ _ hx) addF_here en nd (ra.up le_addF)
theorem Fin.frz {s s' : Shared} {v : Value} {Q : D → Mp → Lg → Prop} (f : Fin c (V c) (fun d m₁ ν₁ => ∃ a mo d' ν₂, ν₁ = (a, mo) :: ν₂ ∧ Frz d a mo d' ∧ Q d' m₁ ν₂) φ ν s v s') : Fin c (V c) Q φ ν s v s' := by
  obtain ⟨h', tk, φ', m', ν', d, rfl, o, st, r, a, mo, d', ν₂, rfl, fz, q⟩ := f
  obtain ⟨ob, e, mr, o'⟩ := o.unpush
  exact ⟨h', tk, _, m', ν₂, d', rfl, o', st.unpush, fz.rep r mr, q⟩
theorem CodeD.frz {f : Value} {ds : List D} {Q : D → Mp → Lg → Prop} (h : CodeD c f ds m ν fun d m₁ ν₁ => ∃ a mo d' ν₂, ν₁ = (a, mo) :: ν₂ ∧ Frz d a mo d' ∧ Q d' m₁ ν₂) : CodeD c f ds m ν Q := fun φ vs ra s o => by
  refine codeAny_mono (h φ vs ra s o) fun r s' y => ?_
  cases r with
  | error e => exact y.elim
  | ok f =>
    cases f with
    | ret v => exact y.frz
    | _ => exact y.elim
theorem Run.frz {t : Sem Value} {Q : D → Mp → Lg → Prop} (h : Run c (V c) t m ν fun d m₁ ν₁ => ∃ a mo d' ν₂, ν₁ = (a, mo) :: ν₂ ∧ Frz d a mo d' ∧ Q d' m₁ ν₂) : Run c (V c) t m ν Q := fun φ s o => wpAny_mono (h φ s o) (fun _ _ f => f.frz) fun _ _ x => x
end

/- MB12 -/

section
variable {c : Cx} {env : Env} {φ ψ : Fz} {m m' : Mp} {ν ν' : Lg} {h h' : Heap}

/-! ## ints -/
section
variable {a b : Int} {Q : D → Mp → Lg → Prop}
theorem bin_add (q : Q (.int (a + b)) m ν) : Bin c .Add (.int a) (.int b) m ν Q := fun φ u v ru rv s o => by
  cases ru; cases rv; exact PySem.P.add_int (Fin.here (tk := s.toks + 1) o (.int _ _) q)
theorem bin_sub (q : Q (.int (a - b)) m ν) : Bin c .Sub (.int a) (.int b) m ν Q := fun φ u v ru rv s o => by
  cases ru; cases rv; exact PySem.P.sub_int (Fin.here (tk := s.toks + 1) o (.int _ _) q)
theorem bin_mul (hm : IntMulOk a b) (q : Q (.int (a * b)) m ν) : Bin c .Mult (.int a) (.int b) m ν Q := fun φ u v ru rv s o => by
  cases ru; cases rv; exact PySem.P.mul_int (Fin.here (tk := s.toks + 1) o (.int _ _) q) hm
theorem bin_mod (hb : b ≠ 0) (q : Q (.int (a.fmod b)) m ν) : Bin c .Mod (.int a) (.int b) m ν Q := fun φ u v ru rv s o => by
  cases ru; cases rv; exact PyProof.Rows.mod_int hb (Fin.here (tk := s.toks + 1) o (.int _ _) q)
theorem noPylong {a b : Int} (h : b.natAbs.log2 < 8970) : ¬(Builtin.divisionGoesByPylong a b) = true := by
  unfold Builtin.divisionGoesByPylong
  simp only [Bool.and_eq_true, decide_eq_true_eq]
  intro h'
  have h1 := h'.1
  split at h1 <;> omega
theorem bin_floordiv (hb : b ≠ 0) (hl : b.natAbs.log2 < 8970) (q : Q (.int (a.fdiv b)) m ν) : Bin c .FloorDiv (.int a) (.int b) m ν Q := fun φ u v ru rv s o => by
  cases ru; cases rv; exact PySem.AutoIntOps.floordiv_1 (by simpa using hb) (noPylong hl) (Fin.here (tk := s.toks + 1) o (.int _ _) q)
theorem inp_add (q : Q (.int (a + b)) m ν) : Inp c .Add (.int a) (.int b) m ν Q := fun φ u v ru rv s o => by
  cases ru; cases rv; exact PySem.P.iadd_int (Fin.here (tk := s.toks + 1) o (.int _ _) q)
theorem una_neg (q : Q (.int (-a)) m ν) : Una c .USub (.int a) m ν Q := fun φ u ru s o => by
  cases ru; exact PySem.P.neg_int (Fin.here (tk := s.toks + 1) o (.int _ _) q)
theorem cmp_eq (q : Q (.bool (decide (a = b))) m ν) : Cmp c .Eq (.int a) (.int b) m ν Q := fun φ u v ru rv s o => by
  cases ru; cases rv
  refine PySem.P.eq_int (Fin.here (tk := s.toks) o ?_ q)
  rw [show (a == b) = decide (a = b) by rfl]; exact .bool _
theorem cmp_ne (q : Q (.bool (decide (a ≠ b))) m ν) : Cmp c .NotEq (.int a) (.int b) m ν Q := fun φ u v ru rv s o => by
  cases ru; cases rv
  refine PySem.P.ne_int (Fin.here (tk := s.toks) o ?_ q)
  rw [show (a != b) = decide (a ≠ b) by by_cases h : a = b <;> simp [h]]; exact .bool _
theorem cmp_lt (q : Q (.bool (decide (a < b))) m ν) : Cmp c .Lt (.int a) (.int b) m ν Q := fun φ u v ru rv s o => by
  cases ru; cases rv; exact PySem.P.lt_int (Fin.here (tk := s.toks) o (.bool _) q)
theorem cmp_le (q : Q (.bool (decide (a ≤ b))) m ν) : Cmp c .LtE (.int a) (.int b) m ν Q := fun φ u v ru rv s o => by
  cases ru; cases rv; exact PySem.P.le_int (Fin.here (tk := s.toks) o (.bool _) q)
theorem cmp_gt (q : Q (.bool (decide (b < a))) m ν) : Cmp c .Gt (.int a) (.int b) m ν Q := fun φ u v ru rv s o => by
  cases ru; cases rv; exact PySem.P.gt_int (Fin.here (tk := s.toks) o (.bool _) q)
theorem cmp_ge (q : Q (.bool (decide (b ≤ a))) m ν) : Cmp c .GtE (.int a) (.int b) m ν Q := fun φ u v ru rv s o => by
  cases ru; cases rv; exact PySem.P.ge_int (Fin.here (tk := s.toks) o (.bool _) q)
end
section
variable {Q : Bool → Mp → Lg → Prop}
theorem tru_bool {b : Bool} (q : Q b m ν) : Tru c (.bool b) m ν Q := fun φ u ru s o => by
  cases ru
  exact wpAny_pure (Fin.here (tk := s.toks) o (show eqr φ b b from rfl) q)
theorem tru_int {i : Int} (q : Q (decide (i ≠ 0)) m ν) : Tru c (.int i) m ν Q := fun φ u ru s o => by
  cases ru
  refine PySem.P.truthy_int (Fin.here (tk := s.toks) o ?_ q)
  show (i != 0) = decide (i ≠ 0)
  by_cases h : i = 0 <;> simp [h]
theorem tru_list {d : D} {ds : List D} (l : LstOf ν d ds) (hl : ds.length ≤ 100000) (q : Q (!ds.isEmpty) m ν) : Tru c d m ν Q := fun φ u ru s o => by
  obtain ⟨a, vs, n, rfl, e, ra⟩ := l.get ru o
  have hlen := ra.length
  refine wpAny_truthy_list (isList_of e) (by rw [List.size_toArray]; omega) (Fin.here (tk := s.toks + 1 + 1) o ?_ q)
  show (!vs.toArray.isEmpty) = (!ds.isEmpty)
  cases vs <;> cases ds <;> simp_all
end

/-! ## none -/
def D.isNone : D → Bool
  | .none => true
  | .raw _ => false
  | _ => false
def D.sure : D → Prop
  | .raw v => v ≠ .none
  | _ => True
theorem Rep.isNone {prog : Program} {w : World} {v : Value} {d : D} (r : Rep prog w φ v d) (hs : d.sure) : (v == .none) = d.isNone := by
  cases r <;> first | rfl | (simp [D.isNone]; exact hs)
theorem cmp_is {d : D} {Q : D → Mp → Lg → Prop} (hs : d.sure) (q : Q (.bool d.isNone) m ν) : Cmp c .Is d .none m ν Q := fun φ u v ru rv s o => by
  cases rv
  refine PySem.is_none (Fin.here (tk := s.toks) o ?_ q)
  rw [ru.isNone hs]; exact .bool _
theorem cmp_isNot {d : D} {Q : D → Mp → Lg → Prop} (hs : d.sure) (q : Q (.bool (!d.isNone)) m ν) : Cmp c .IsNot d .none m ν Q := fun φ u v ru rv s o => by
  cases rv
  refine PySem.isNot_none (Fin.here (tk := s.toks) o ?_ q)
  rw [ru.isNone hs]; exact .bool _

/-! ## len, range -/
theorem call_len {d : D} {ds : List D} {Q : D → Mp → Lg → Prop} (l : LstOf ν d ds) (hl : ds.length ≤ 100000) (q : Q (.int ds.length) m ν) : CallD c (.builtin "len") [d] m ν Q := fun φ vs ra s o => by
  cases ra with
  | cons r ra =>
    cases ra
    obtain ⟨a, vs, n, rfl, e, ra⟩ := l.get r o
    have hlen := ra.length
    refine Calls.call_len_list (isList_of e) (by rw [List.size_toArray]; omega) (Fin.here (tk := s.toks + 1 + 1) o ?_ q)
    rw [List.size_toArray, hlen]; exact .int _ _
theorem call_len_tup {ds : List D} {Q : D → Mp → Lg → Prop} (hl : ds.length ≤ 100000) (q : Q (.int ds.length) m ν) : CallD c (.builtin "len") [.tup ds] m ν Q := fun φ vs ra s o => by
  cases ra with
  | cons r ra =>
    cases ra
    cases r with
    | @tup a vs n _ ha ra =>
      have hlen := ra.length
      refine PyProof.Rows.len_tuple ⟨_, o.fz _ _ ha, rfl, n, rfl⟩ (by rw [List.size_toArray]; omega) (Fin.here (tk := s.toks + 1 + 1) o ?_ q)
      rw [List.size_toArray, hlen]; exact .int _ _
theorem call_range1 {b : Int} {Q : D → Mp → Lg → Prop} (q : Q (.range 0 b) m ν) : CallD c (.type "range") [.int b] m ν Q := fun φ vs ra s o => by
  cases ra with
  | cons r ra =>
    cases ra; cases r
    refine PySem.call_range_1 ?_
    obtain ⟨o₂, st₂⟩ := o.alloc (ob := { cls := .type "range", data := .fields #[.int 0 s.toks, .int b _, .int 1 (s.toks + 1)] }) rfl
    exact ⟨_, _, _, m, ν, .range 0 b, rfl, o₂, st₂, .range addF_here, q⟩
theorem call_range2 {a b : Int} {Q : D → Mp → Lg → Prop} (q : Q (.range a b) m ν) : CallD c (.type "range") [.int a, .int b] m ν Q := fun φ vs ra s o => by
  cases ra with
  | cons r ra =>
    cases r
    cases ra with
    | cons r ra =>
      cases r
      cases ra
      refine PySem.call_range_2 ?_
      obtain ⟨o₂, st₂⟩ := o.alloc (ob := { cls := .type "range", data := .fields #[.int a _, .int b _, .int 1 s.toks] }) rfl
      exact ⟨_, _, _, m, ν, .range a b, rfl, o₂, st₂, .range addF_here, q⟩

/-! ## tuples taken apart -/
theorem ex_AssignPair {elts : List Expr} {k : Nat} {tpos pos : Pos} {e : Expr} {Q : FD → Mp → Lg → Prop} (h : Run c (V c) (eval e env) m ν fun d m₁ ν₁ => Asg c env (.Tuple elts k tpos) d m₁ ν₁ fun _ => Q .next)
    (hs : swapsWithSole [.Tuple elts k tpos] e pos.line env = pure false := by rfl) (hw : swappedStores [.Tuple elts k tpos] e env = pure none := by rfl) : Ex1 c env (.Assign [.Tuple elts k tpos] e pos) m ν Q := fun φ s o =>
  PyProof.Rows.Assign_Tuple ((h φ).use o fun v d h₁ tk₁ φ₁ m₁ ν₁ o₁ st r q => (q φ₁ v r).use (s := { s with heap := h₁, toks := tk₁ }) o₁ fun _ _ h₂ tk₂ φ₂ m₂ ν₂ o₂ st₂ _ q₂ => ⟨h₂, tk₂, φ₂, m₂, ν₂, .next, rfl, o₂, st.trans o₁ st₂, .next, q₂⟩) hs hw
abbrev Q_ex_Swap2 (c : Cx) (x : Str) (y : Str) (Q : FD → Mp → Lg → Prop) (d : D) (m₁ : Mp) (ν₁ : Lg) : Prop := ∃ a b m₂ m₃, d = .tup [a, b] ∧ SetAt c.ns m₁ y b m₂ ∧ SetAt c.ns m₂ x a m₃ ∧ Q .next m₃ ν₁
theorem ex_Swap2 {x y : Str} {p q : Pos} {k : Nat} {tpos pos : Pos} {e : Expr} {Q : FD → Mp → Lg → Prop} (E : EnvOk c env) (hh : c.A.handled = none)
    (h : Run c (V c) (eval e env) m ν (Q_ex_Swap2 c x y Q))
    (hs : swapsWithSole [.Tuple [.Name x p, .Name y q] k tpos] e pos.line env = pure false := by rfl) (hw : swappedStores [.Tuple [.Name x p, .Name y q] k tpos] e env = pure (some [x, y]) := by rfl) :
    Ex1 c env (.Assign [.Tuple [.Name x p, .Name y q] k tpos] e pos) m ν Q := fun φ s o => by
  refine PyProof.Rows.Assign_Tuple_swapped (names := [x, y]) ((h φ).use o fun v d h₁ tk₁ φ₁ m₁ ν₁ o₁ st r q => ?_) hs hw
  obtain ⟨a, b, m₂, m₃, rfl, sb, sa, q⟩ := q
  cases r with
  | @tup t vs n _ ha ra =>
    cases ra with
    | @cons v₁ vs₁ _ _ r1 ra =>
      cases ra with
      | @cons v₂ vs₂ _ _ r2 ra =>
        cases ra
        have T : h₁.IsTuple t #[v₁, v₂] := ⟨_, o₁.fz _ _ ha, rfl, n, rfl⟩
        have e2 : [x, y].length = (#[v₁, v₂] : Array Value).size := rfl
        rw [e2]
        refine wpAny_unpackItems_tuple hh T (fun h' he => ?_)
        have k : ∀ b ob, h₁.get? b = some ob → h'.get? b = some ob := fun b ob e => he b ob (Nat.ne_of_lt (Heap.lt_size e)) e
        show wpAny _ _ (do holding [v₁] (bindName env y v₂); assignInOrder [bindName env x] [v₁]) _ _ _
        refine wpAny_bind (wpAny_holding (wpAny_bindName ((store_local (Q := fun _ m ν' => m₂ = m ∧ ν₁ = ν') E r2 sb ⟨rfl, rfl⟩).use (s := { s with heap := h', toks := tk₁ }) (o₁.grow k) fun _ _ h₂ tk₂ φ₂ m' ν' o₂ st₂ _ z' => ?_)))
        obtain ⟨rfl, rfl⟩ := z'
        show wpAny _ _ (do holding [] (bindName env x v₁); assignInOrder [] []) _ _ _
        refine wpAny_bind (wpAny_holding (wpAny_bindName ((store_local (Q := fun _ m ν' => m₃ = m ∧ ν₁ = ν') E (r1.up st₂.mono) sa ⟨rfl, rfl⟩).use o₂ fun _ _ h₃ tk₃ φ₃ m'' ν'' o₃ st₃ _ z' => ?_)))
        obtain ⟨rfl, rfl⟩ := z'
        exact wpAny_pure ⟨h₃, tk₃, φ₃, m₃, ν₁, .next, rfl, o₃, ((st.trans o₁ (.grow k)).trans (o₁.grow k) st₂).trans o₂ st₃, .next, q⟩

theorem swapped2 {x y : Str} {p q tpos vpos : Pos} {k k' : Nat} {e f : Expr} (E : EnvOk c env) (hx : x ∈ c.ns) (hy : y ∈ c.ns) (hl : (q.line == p.line) = true) (hxy : (y == x) = false) (h1 : ([e, f].any fun | .Starred .. => true | _ => false) = false)
    (h2 : [e, f].all (foldedForSure 8) = false) (h3 : [e, f].all (constantsAlone 8) = false) :
    swappedStores [.Tuple [.Name x p, .Name y q] k tpos] (.Tuple [e, f] k' vpos) env = pure (some [x, y]) := by
  have hb : env.blockKind = .function := by unfold Env.blockKind; simp [E.kind]
  unfold swappedStores
  have n1 : (([.Name x p, .Name y q] : List Expr).filterMap fun | .Name id pos => if env.kindOf id == some .local && pos.line == ((([.Name x p, .Name y q] : List Expr).head?.map (·.pos.line)).getD 0) then some id else none | _ => none) = [x, y] := by
    have e1 : (p.line == (((([.Name x p, .Name y q] : List Expr).head?).map (·.pos.line)).getD 0)) = true := by show (p.line == p.line) = true; simp
    have e2 : (q.line == (((([.Name x p, .Name y q] : List Expr).head?).map (·.pos.line)).getD 0)) = true := hl
    simp only [List.filterMap_cons, List.filterMap_nil, E.kindOf (E.own x hx), E.kindOf (E.own y hy), e1, e2]
    rfl
  have n2 : ([x, y] : List Str).eraseDups = [x, y] := by
    rw [List.eraseDups_cons]
    simp only [List.filter_cons, hxy, Bool.not_false, if_true, List.filter_nil, List.eraseDups_cons, List.eraseDups_nil]
  simp only [hb]
  show (if ([e, f].any fun | .Starred .. => true | _ => false) = true then pure none else _ : Sem (Option (List Str))) = _
  rw [h1, if_neg Bool.false_ne_true]
  refine Eq.trans (show _ = (if ((([.Name x p, .Name y q] : List Expr).filterMap fun | .Name id pos => if env.kindOf id == some .local && pos.line == ((([.Name x p, .Name y q] : List Expr).head?.map (·.pos.line)).getD 0) then some id else none | _ => none).length != 2 || (([.Name x p, .Name y q] : List Expr).filterMap fun | .Name id pos => if env.kindOf id == some .local && pos.line == ((([.Name x p, .Name y q] : List Expr).head?.map (·.pos.line)).getD 0) then some id else none | _ => none).eraseDups.length != (([.Name x p, .Name y q] : List Expr).filterMap fun | .Name id pos => if env.kindOf id == some .local && pos.line == ((([.Name x p, .Name y q] : List Expr).head?.map (·.pos.line)).getD 0) then some id else none | _ => none).length) = true then pure none else if [e, f].all (foldedForSure 8) = true then pure none else if [e, f].all (constantsAlone 8) = true then (do unsupported "assign.tuple-of-constant-expressions:order-of-the-stores"; pure (some _)) else pure (some (([.Name x p, .Name y q] : List Expr).filterMap fun | .Name id pos => if env.kindOf id == some .local && pos.line == ((([.Name x p, .Name y q] : List Expr).head?.map (·.pos.line)).getD 0) then some id else none | _ => none)) : Sem (Option (List Str))) from rfl) ?_
  rw [n1, n2, h2, h3]
  rfl
abbrev Q_ex_Expr (Q : FD → Mp → Lg → Prop) (_x : D) (m₁ : Mp) (ν₁ : Lg) : Prop := Q .next m₁ ν₁
theorem ex_Expr {e : Expr} {pos : Pos} {Q : FD → Mp → Lg → Prop} (E : EnvOk c env) (h : Run c (V c) (eval e env) m ν (Q_ex_Expr Q)) (hs : swapsWith e none pos.line env = pure false := by rfl) : Ex1 c env (.Expr e pos) m ν Q := fun φ s o =>
  wpAny_Expr_any ((h φ).use o fun v d h₁ tk₁ φ₁ m₁ ν₁ o₁ st r q => ⟨h₁, tk₁, φ₁, m₁, ν₁, .next, rfl, o₁, st, .next, q⟩) (by unfold interactive; rw [E.kind]; rfl) hs
theorem ex_Return0 {pos : Pos} {Q : FD → Mp → Lg → Prop} (q : Q (.ret .none) m ν) : Ex1 c env (.Return none pos) m ν Q := fun φ s o => wpAny_Return_none (Fin.here (tk := s.toks) o (.ret .none) q)
end

/- MB13 -/

section
variable {c : Cx} {env : Env} {φ φ' ψ : Fz} {m m₀ m' : Mp} {ν νm νr νi ν' : Lg} {h h₁ h' : Heap}

theorem Ok.perm (o : Ok c φ m ν h) (p : ν.Perm ν') : Ok c φ m ν' h :=
  { nsd := o.nsd, ns := o.ns, fz := o.fz, fzL := o.fzL, fzN := fun a ob e q hq => o.fzN a ob e q (p.mem_iff.mpr hq), lg := fun q hq => o.lg q (p.mem_iff.mpr hq), nd := (p.map (·.1)).nodup_iff.mp o.nd, gd := o.gd }
theorem Ok.drop (o : Ok c φ m (νi ++ ν) h) : Ok c φ m ν h :=
  { nsd := o.nsd, ns := o.ns, fz := o.fz, fzL := o.fzL, fzN := fun a ob e q hq => o.fzN a ob e q (List.mem_append_right _ hq), lg := fun q hq => o.lg q (List.mem_append_right _ hq)
    nd := by have := o.nd; rw [List.map_append, List.nodup_append] at this; exact this.2.1, gd := o.gd }
theorem Step.sub {L : Addr} (st : Step L φ ν h φ' ν' h') (e : ∀ p ∈ νi, p ∈ ν') : Step L φ ν h φ' νi h' := ⟨st.keep, st.mono, st.newφ, fun p hp => st.newν p (e p hp)⟩
theorem Step.from {L : Addr} (st : Step L φ νi h₁ φ' ν' h') (hk : ∀ b ob, h.get? b = some ob → h₁.get? b = some ob) (hL : h.get? L = none) (hi : ∀ p ∈ νi, p ∈ ν ∨ h.get? p.1 = none) : Step L φ ν h φ' ν' h' := by
  have none1 : ∀ a, h₁.get? a = none → h.get? a = none := fun a e => by
    cases q : h.get? a with
    | none => rfl
    | some ob => rw [hk _ _ q] at e; cases e
  refine ⟨fun a ob e aL aN => st.keep a ob (hk _ _ e) aL fun p hp q => ?_, st.mono, fun a ob e => ?_, fun p hp => ?_⟩
  · rcases hi p hp with x | x
    · exact aN p x q
    · rw [q, e] at x; cases x
  · rcases st.newφ a ob e with x | ⟨p, hp, x⟩ | x
    · exact .inl x
    · rcases hi p hp with y | y
      · exact .inr (.inl ⟨p, y, x⟩)
      · exact .inr (.inr (x ▸ y))
    · exact .inr (.inr (none1 _ x))
  · rcases st.newν p hp with ⟨q, hq, x⟩ | x
    · rcases hi q hq with y | y
      · exact .inl ⟨q, y, x⟩
      · exact .inr (x ▸ y)
    · exact .inr (none1 _ x)

/-! the ledger in another order -/
theorem CodeD.perm {f : Value} {ds : List D} {Q : D → Mp → Lg → Prop} (p : ν.Perm ν') (hh : CodeD c f ds m ν' fun d m₁ ν₁ => ∃ ν₂, ν₁.Perm ν₂ ∧ Q d m₁ ν₂) : CodeD c f ds m ν Q := fun φ vs ra s o => by
  refine codeAny_mono (hh φ vs ra s (o.perm p)) fun r s' y => ?_
  cases r with
  | error e => exact y.elim
  | ok fl =>
    cases fl with
    | ret v =>
      obtain ⟨h', tk, φ', m', ν₁, b, rfl, o', st, r, ν₂, p₂, q⟩ := y
      refine ⟨h', tk, φ', m', ν₂, b, rfl, o'.perm p₂, ?_, r, q⟩
      refine ⟨fun a ob e aL aN => st.keep a ob e aL fun q hq => aN q (p.mem_iff.mpr hq), st.mono, fun a ob e => ?_, fun q hq => ?_⟩
      · rcases st.newφ a ob e with x | ⟨q, hq, x⟩ | x
        · exact .inl x
        · exact .inr (.inl ⟨q, p.mem_iff.mpr hq, x⟩)
        · exact .inr (.inr x)
      · rcases st.newν q (p₂.mem_iff.mpr hq) with ⟨q', hq', x⟩ | x
        · exact .inl ⟨q', p.mem_iff.mpr hq', x⟩
        · exact .inr x
    | _ => exact y.elim

/-! ## calls, with cells or without -/
def fnChk (scope : Scope) (ps ns cs gs : List Str) : Bool :=
  decide ps.Nodup && decide ns.Nodup && decide ((scope.names.map (·.1)).Nodup) && ns.all (fun x => decide ((x, NameKind.local) ∈ scope.names)) && cs.all (fun x => decide ((x, NameKind.cell) ∈ scope.names)) &&
  gs.all (fun x => decide ((x, NameKind.globalImplicit) ∈ scope.names)) && ps.all (fun x => decide (x ∈ ns) || decide (x ∈ cs)) && scope.names.all (fun p => !(p.1 == ("__debug__" : Str)) && (decide (p.2 = .cell) == decide (p.1 ∈ cs))) &&
  decide ((cellsFrom 0 scope.names []).map (·.1) = cs) && decide (scope.kind = .function) && !scope.isCoroutine && !scope.isGenerator

structure CellE (env : Env) (x : Str) (a : Addr) : Prop where
  mem : (x, NameKind.cell) ∈ env.scope.names
  at_ : env.cells.lookup x = some a

def cellsL (cl : List (Str × Addr)) (b : List (Str × D)) : Lg := cl.map fun p => (p.2, .cell (b.lookup p.1))

theorem bindL_get {kindOf : Str → Option NameKind} : ∀ {ps : List Str} {vs : List Value} {mm : Str → Option Value} {i : Nat} {x : Str} {v : Value}, ps.Nodup → ps[i]? = some x → vs[i]? = some v → kindOf x = some .local → bindL kindOf (ps.zip vs) mm x = some v := by
  have keep : ∀ (ps : List Str) (vs : List Value) (mm : Str → Option Value) (x : Str), x ∉ ps → bindL kindOf (ps.zip vs) mm x = mm x := by
    intro ps
    induction ps with
    | nil => intro vs mm x _; rfl
    | cons p ps ih =>
      intro vs mm x hx
      cases vs with
      | nil => rfl
      | cons v vs =>
        rw [List.zip_cons_cons]; unfold bindL
        rw [ih _ _ _ fun q => hx (List.mem_cons_of_mem _ q)]
        split
        · exact if_neg (fun (q : x = p) => hx (by rw [q]; exact List.mem_cons_self))
        · rfl
  intro ps
  induction ps with
  | nil => intro vs mm i x v _ hx; simp at hx
  | cons p ps ih =>
    intro vs mm i x v hn hx hv hk
    rw [List.nodup_cons] at hn
    cases vs with
    | nil => simp at hv
    | cons u vs =>
      rw [List.zip_cons_cons]; unfold bindL
      cases i with
      | zero =>
        simp at hx hv; subst hx; subst hv
        rw [keep _ _ _ _ hn.1, if_pos hk]; simp
      | succ i => exact ih hn.2 (by simpa using hx) (by simpa using hv) hk
theorem bindC_get {kindOf : Str → Option NameKind} : ∀ {ps : List Str} {vs : List Value} {mm : Str → Option Value} {x : Str}, ps.Nodup → kindOf x ≠ some .local → vs.length = ps.length → bindC kindOf (ps.zip vs) mm x = match (ps.zip vs).lookup x with | some v => some v | none => mm x := by
  have keep : ∀ (ps : List Str) (vs : List Value) (mm : Str → Option Value) (x : Str), x ∉ ps → bindC kindOf (ps.zip vs) mm x = mm x := by
    intro ps
    induction ps with
    | nil => intro vs mm x _; rfl
    | cons p ps ih =>
      intro vs mm x hx
      cases vs with
      | nil => rfl
      | cons v vs =>
        rw [List.zip_cons_cons]; unfold bindC
        rw [ih _ _ _ fun q => hx (List.mem_cons_of_mem _ q)]
        split
        · rfl
        · exact if_neg (fun (q : x = p) => hx (by rw [q]; exact List.mem_cons_self))
  intro ps
  induction ps with
  | nil => intro vs mm x _ _ _; rfl
  | cons p ps ih =>
    intro vs mm x hn hk hl
    rw [List.nodup_cons] at hn
    cases vs with
    | nil => simp at hl
    | cons u vs =>
      rw [List.zip_cons_cons]; unfold bindC
      by_cases q : x = p
      · subst q
        rw [if_neg hk, keep _ _ _ _ hn.1, List.lookup_cons, beq_self_eq_true]; simp
      · have e0 : List.lookup x ((p, u) :: ps.zip vs) = (ps.zip vs).lookup x := by rw [List.lookup_cons, beq_eq_false_iff_ne.mpr q]
        rw [e0, ih hn.2 hk (by simpa using hl)]
        cases (ps.zip vs).lookup x with
        | some v => rfl
        | none =>
          simp only
          split
          · rfl
          · exact if_neg q

theorem zip_lookup_rep {prog : Program} {w : World} : ∀ {ps : List Str} {vs : List Value} {ds : List D} (x : Str), RepAll prog w φ vs ds → vs.length = ps.length →
    ((ps.zip vs).lookup x = none ∧ (ps.zip ds).lookup x = none) ∨ ∃ v d, (ps.zip vs).lookup x = some v ∧ (ps.zip ds).lookup x = some d ∧ Rep prog w φ v d
  | [], _, _, x, _, _ => .inl ⟨rfl, rfl⟩
  | p :: ps, v :: vs, d :: ds, x, .cons r ra, hl => by
    rw [List.zip_cons_cons, List.zip_cons_cons, List.lookup_cons, List.lookup_cons]
    cases x == p with
    | true => exact .inr ⟨v, d, rfl, rfl, r⟩
    | false => exact zip_lookup_rep x ra (by simpa using hl)

theorem lookup_zip_get {α : Type} : ∀ {ps : List Str} {as : List α} {x : Str} {a : α}, (ps.zip as).lookup x = some a → ∃ i : Nat, ps[i]? = some x ∧ as[i]? = some a
  | [], _, _, _, e => by simp at e
  | _ :: _, [], _, _, e => by simp at e
  | p :: ps, b :: as, x, a, e => by
    rw [List.zip_cons_cons, List.lookup_cons] at e
    by_cases q : x = p
    · subst q; simp at e; exact ⟨0, rfl, by simp [e]⟩
    · rw [beq_eq_false_iff_ne.mpr q] at e
      obtain ⟨i, h1, h2⟩ := lookup_zip_get e
      exact ⟨i + 1, by simpa using h1, by simpa using h2⟩

theorem push_cells {b : List (Str × D)} {cm : Str → Option Value} : ∀ {cl : List (Str × Addr)}, Ok c φ m ν h → (∀ p ∈ cl, h.IsCell p.2 (cm p.1) ∧ Off c.L φ ν p.2 ∧ ((cm p.1 = none ∧ b.lookup p.1 = none) ∨ ∃ v d, cm p.1 = some v ∧ b.lookup p.1 = some d ∧ Rep c.prog c.w φ v d)) →
    cl.Pairwise (fun x y => x.2 ≠ y.2) → Ok c φ m (cellsL cl b ++ ν) h
  | [], o, _, _ => o
  | p :: cl, o, hx, hp => by
    rw [List.pairwise_cons] at hp
    have o' := push_cells (cl := cl) o (fun q hq => hx q (List.mem_cons_of_mem _ hq)) hp.2
    obtain ⟨⟨ob, e, hd⟩, off, hv⟩ := hx p List.mem_cons_self
    have off' : Off c.L φ (cellsL cl b ++ ν) p.2 := ⟨off.l, off.f, fun q hq => by
      rcases List.mem_append.mp hq with hq | hq
      · unfold cellsL at hq
        obtain ⟨r, hr, rfl⟩ := List.mem_map.mp hq
        exact Ne.symm (hp.1 r hr)
      · exact off.n q hq⟩
    refine o'.push off' e ?_
    rcases hv with ⟨h1, h2⟩ | ⟨v, d, h1, h2, r⟩
    · rw [h2]; rw [h1] at hd; exact .cell0 hd
    · rw [h2]; rw [h1] at hd; exact .cell1 hd r

theorem mem_lookup_of_nodup {α : Type} {l : List (Str × α)} {x : Str} {k : α} (hn : (l.map (·.1)).Nodup) (hm : (x, k) ∈ l) : l.lookup x = some k := lookup_of_nodup hn hm

/-- a call of a def of the text -/
inductive Back (Q : D → Mp → Lg → Prop) (m : Mp) (νr : Lg) (fl : FD) (ν' : Lg) : Prop
  | mk (νc ν₂ : Lg) (p : ν'.Perm (νc ++ ν₂)) (q : Q (retD fl) m (ν₂ ++ νr))
inductive Back0 (Q : D → Mp → Lg → Prop) (m : Mp) (fl : FD) (ν' : Lg) : Prop
  | mk (νc ν₂ : Lg) (p : ν'.Perm (νc ++ ν₂)) (q : Q (retD fl) m ν₂)
/-- a call of a def of the text -/
theorem call_fnB' {f : Addr} {name qual : Str} {params : Arguments} {body : List Stmt} {scope : Scope} {dV kV doc pm cdv ct oc : Value} {an od : Option Addr} {osl : Array (Option Value)} {n : Nat} (ps ns cs gs : List Str) {ds : List D} {Q : D → Mp → Lg → Prop}
    (ho : c.K.lookup f = some ⟨oc, od, .func (fnOf name qual params body scope dV kV doc pm an cdv ct), osl⟩) (hcd : codeIn c.K cdv qual = true) (ha : AOk c.A (n + 1))
    (hbind : ∀ (s : Shared) (vs : List Value), c.K.In s.heap → vs.length = ps.length → BindsTo s (fnOf name qual params body scope dV kV doc pm an cdv ct) ⟨vs, []⟩ (ps.zip vs))
    (hchk : fnChk scope ps ns cs gs = true) (hn : ds.length = ps.length) (hm₀ : m₀ = ns.map fun x => (ps.zip ds).lookup x)
    (hcl : ∀ k, cellsFrom k scope.names [] = cellsFrom k (cs.reverse.map fun x => (x, NameKind.cell)) [])
    (h : ∀ A' L' env, AOk A' n → EnvOk (c.in A' L' ns) env → (∀ x ∈ gs, (x, NameKind.globalImplicit) ∈ env.scope.names) → (∀ x ∈ cs, (x, NameKind.cell) ∈ env.scope.names) → env.cells = cellsFrom (L' + 1) (cs.reverse.map fun x => (x, NameKind.cell)) [] →
      Ex (c.in A' L' ns) env body m₀ (cellsL (cellsFrom (L' + 1) (cs.reverse.map fun x => (x, NameKind.cell)) []) (ps.zip ds) ++ νm) (fun fl _ ν' => Back Q m νr fl ν')) :
    CodeD c (.ref f) ds m (νm ++ νr) Q := by
  intro φ vs ra s o
  simp only [fnChk, Bool.and_eq_true, decide_eq_true_eq, List.all_eq_true, Bool.not_eq_true', Bool.or_eq_true, beq_iff_eq] at hchk
  obtain ⟨⟨⟨⟨⟨⟨⟨⟨⟨⟨⟨hps, hnsd⟩, hsn⟩, hnl⟩, hcc⟩, hg⟩, hpc⟩, hdb⟩, hcn⟩, hk⟩, hco⟩, hgen⟩ := hchk
  have hvl : vs.length = ps.length := by rw [ra.length, hn]
  have lk : ∀ x k, (x, k) ∈ scope.names → scope.names.lookup x = some k := fun x k hm => lookup_of_nodup hsn hm
  have csl : ∀ k x, x ∈ cs → ((cellsFrom k scope.names []).lookup x).isSome = true := fun k x hx => by
    have e : (cellsFrom k scope.names []).map (·.1) = cs := (cellsFrom_names scope.names k 0 [] [] rfl).trans hcn
    rw [← e] at hx
    obtain ⟨p, hp, rfl⟩ := List.mem_map.mp hx
    cases q : (cellsFrom k scope.names []).lookup p.1 with
    | some _ => rfl
    | none =>
      rw [List.lookup_eq_none_iff] at q
      have := q p hp
      simp at this
  refine codeAny_call_function (fd := fnOf name qual params body scope dV kV doc pm an cdv ct) (body := body) ha.room (o.fz _ _ (o.gd.get ho)) rfl hco hgen rfl (codeRec_of o.inK hcd) ?_
  refine hbind s vs o.inK hvl _ _ _ _ (wpAny_newFunctionEnv_cells hk (fun x hx => ?_) fun env₀ he₀ s₁ x => ?_)
  · have hx' := (List.of_mem_zip (a := x.1) (b := x.2) hx).1
    rcases hpc _ hx' with q | q
    · exact .inl (lk _ _ (hnl _ q))
    · exact .inr ⟨lk _ _ (hcc _ q), csl _ _ q⟩
  · rw [show env₀ = callEnvC (fnOf name qual params body scope dV kV doc pm an cdv ct) s.heap.objs.size f from he₀] at x ⊢
    refine ⟨o.noLimit.keeps x.toInCall.keep, codeAny_func ?_⟩
    obtain ⟨h₁, tk, rfl, hk₁⟩ := x.done
    generalize hL' : s.heap.objs.size = L' at *
    have hLn : s.heap.get? L' = none := hL' ▸ size_none s.heap
    -- the environment
    generalize henv : callEnvC (fnOf name qual params body scope dV kV doc pm an cdv ct) L' f = env at *
    have eL : env.locals = L' := by subst henv; rfl
    have eS : env.scope = scope := by subst henv; rfl
    have eC : env.cells = cellsFrom (L' + 1) scope.names [] := by subst henv; rfl
    have E : EnvOk (c.in (c.A.deeper env) L' ns) env := ⟨eL, by rw [eS]; exact hk, by subst henv; rfl, by subst henv; rfl, by rw [eS]; exact hsn, fun y hy => by rw [eS]; exact hnl y hy, fun p hp => by rw [eS] at hp; exact (hdb p hp).1⟩
    have kof : ∀ y k, (y, k) ∈ scope.names → env.kindOf y = some k := fun y k hm => by
      show env.scope.names.lookup y = some k
      rw [eS]; exact lk y k hm
    have names : Names c.prog c.w φ ns m₀ (bindL env.kindOf (ps.zip vs) fun _ => none) := fun i y d hy hd => by
      rw [hm₀, List.getElem?_map, hy] at hd
      simp only [Option.map_some, Option.some.injEq] at hd
      obtain ⟨j, hj, hdj⟩ := lookup_zip_get hd
      obtain ⟨v, hv, rv⟩ := ra.get hdj
      exact ⟨v, bindL_get hps hj hv (kof _ _ (hnl _ (List.mem_of_getElem? hy))), rv⟩
    have cof : ∀ p ∈ cellsFrom (L' + 1) scope.names [], p.1 ∈ cs := fun p hp => by
      have e : (cellsFrom (L' + 1) scope.names []).map (·.1) = cs := (cellsFrom_names scope.names (L' + 1) 0 [] [] rfl).trans hcn
      rw [← e]; exact List.mem_map_of_mem hp
    have hcnd : ((cellsFrom (L' + 1) scope.names []).map (·.1)).Nodup := by
      rw [(cellsFrom_names scope.names (L' + 1) 0 [] [] rfl).trans hcn]
      have : cs.Nodup := by
        rw [← hcn]
        have sub : ∀ (names : List (Str × NameKind)) (k : Nat) (acc : List (Str × Addr)), (acc.map (·.1)).Nodup → (names.map (·.1)).Nodup → (∀ y ∈ acc.map (·.1), y ∉ names.map (·.1)) → ((cellsFrom k names acc).map (·.1)).Nodup := by
          intro names
          induction names with
          | nil => intro k acc h1 _ _; exact h1
          | cons p r ih =>
            intro k acc h1 h2 h3
            rw [List.map_cons, List.nodup_cons] at h2
            unfold cellsFrom
            split
            · refine ih _ _ ?_ h2.2 ?_
              · rw [List.map_cons, List.nodup_cons]; exact ⟨fun q => h3 _ q List.mem_cons_self, h1⟩
              · intro y hy
                rw [List.map_cons] at hy
                rcases List.mem_cons.mp hy with rfl | hy
                · exact h2.1
                · exact fun q => h3 y hy (List.mem_cons_of_mem _ q)
            · exact ih _ _ h1 h2.2 fun y hy q => h3 y hy (List.mem_cons_of_mem _ q)
        exact sub _ _ _ List.nodup_nil hsn (by simp)
      exact this
    have oe : Ok (c.in (c.A.deeper env) L' ns) φ m₀ νm h₁ := o.enter hk₁ hLn hnsd (eL ▸ x.toInCall.ns) names
    have offN : ∀ a, s.heap.get? a = none → L' ≠ a → Off L' φ νm a := fun a e ne => by
      refine ⟨ne, fun b ob eb q => ?_, fun p hp q => ?_⟩
      · have := o.fz _ _ eb; rw [q, e] at this; cases this
      · obtain ⟨_, _, eb, _⟩ := o.lg p (List.mem_append_left _ hp); rw [q, e] at eb; cases eb
    have nLe : ∀ a, L' < a → s.heap.get? a = none := fun a ha => by
      cases q : s.heap.get? a with
      | none => rfl
      | some ob => have := Heap.lt_size q; rw [hL'] at this; exact absurd (Nat.lt_trans ha this) (Nat.lt_irrefl _)
    have cellsOk := push_cells (b := ps.zip ds) (cm := bindC env.kindOf (ps.zip vs) fun _ => none) (cl := cellsFrom (L' + 1) scope.names []) oe (fun p hp => by
      have hpa : (p.1, p.2) ∈ env.cells := eC ▸ hp
      have hlt : L' < p.2 := eL ▸ x.above p.1 p.2 hpa
      refine ⟨x.cell p.1 p.2 (lookup_of_nodup (eC ▸ hcnd) hpa), offN _ (nLe _ hlt) (Nat.ne_of_lt hlt), ?_⟩
      have hkp : env.kindOf p.1 ≠ some .local := by rw [kof _ _ (hcc _ (cof p hp))]; decide
      rw [bindC_get hps hkp hvl]
      rcases zip_lookup_rep (φ := φ) p.1 ra hvl with ⟨h1, h2⟩ | ⟨v, d, h1, h2, r⟩
      · rw [h1]; exact .inl ⟨rfl, h2⟩
      · rw [h1]; exact .inr ⟨v, d, rfl, h2, r⟩) (eC ▸ x.apart)
    have hc' := hcl (L' + 1)
    refine wpAny_mono ((h (c.A.deeper env) L' env ha.deeper E (fun y hy => by rw [eS]; exact hg y hy) (fun y hy => by rw [eS]; exact hcc y hy) (eC.trans hc') φ).use (s := { s with heap := h₁, toks := tk }) (by rw [← hc']; exact cellsOk) fun fl fd h' tk' φ' m' ν' o' st rf q => ?_) (fun _ _ x => x) fun _ _ x => x
    obtain ⟨νc, ν₂, hp, q⟩ := q
    have o'' := (o'.perm hp).drop
    have st' : Step L' φ νm s.heap φ' ν₂ h' := (st.sub fun p h2 => hp.mem_iff.mpr (List.mem_append_right _ h2)).from hk₁ hLn fun p h2 => by
      rcases List.mem_append.mp h2 with h2 | h2
      · refine .inr ?_
        unfold cellsL at h2
        obtain ⟨r, hr, rfl⟩ := List.mem_map.mp h2
        rw [← hc', ← eC] at hr
        exact nLe _ (eL ▸ x.above r.1 r.2 hr)
      · exact .inl h2
    obtain ⟨ok, stp⟩ := nest o (fun _ _ e => e) hLn o'' st'
    have z : Fin c (V c) Q φ (νm ++ νr) s (retV fl) { s with heap := h', toks := tk' } := ⟨h', tk', φ', m, ν₂ ++ νr, retD fd, rfl, ok, stp, RepF.retV (c := c.in (c.A.deeper env) L' ns) rf, q⟩
    cases rf <;> exact z
theorem call_fn' {f : Addr} {name qual : Str} {params : Arguments} {body : List Stmt} {scope : Scope} {dV kV doc pm cdv ct oc : Value} {an od : Option Addr} {osl : Array (Option Value)} {n : Nat} (ps ns cs gs : List Str) {ds : List D} {Q : D → Mp → Lg → Prop}
    (ho : c.K.lookup f = some ⟨oc, od, .func (fnOf name qual params body scope dV kV doc pm an cdv ct), osl⟩) (hcd : codeIn c.K cdv qual = true) (ha : AOk c.A (n + 1))
    (hbind : ∀ (vs : List Value), vs.length = ps.length → bindArgs (fnOf name qual params body scope dV kV doc pm an cdv ct) ⟨vs, []⟩ = pure (ps.zip vs))
    (hchk : fnChk scope ps ns cs gs = true) (hn : ds.length = ps.length) (hm₀ : m₀ = ns.map fun x => (ps.zip ds).lookup x)
    (hcl : ∀ k, cellsFrom k scope.names [] = cellsFrom k (cs.reverse.map fun x => (x, NameKind.cell)) [])
    (h : ∀ A' L' env, AOk A' n → EnvOk (c.in A' L' ns) env → (∀ x ∈ gs, (x, NameKind.globalImplicit) ∈ env.scope.names) → (∀ x ∈ cs, (x, NameKind.cell) ∈ env.scope.names) → env.cells = cellsFrom (L' + 1) (cs.reverse.map fun x => (x, NameKind.cell)) [] →
      Ex (c.in A' L' ns) env body m₀ (cellsL (cellsFrom (L' + 1) (cs.reverse.map fun x => (x, NameKind.cell)) []) (ps.zip ds) ++ νm) (fun fl _ ν' => Back Q m νr fl ν')) :
    CodeD c (.ref f) ds m (νm ++ νr) Q :=
  call_fnB' ps ns cs gs ho hcd ha (fun _ vs _ h => BindsTo.of_eq (hbind vs h)) hchk hn hm₀ hcl h
end

/- MB14 -/

section
variable {c : Cx} {env : Env} {φ φ' ψ : Fz} {m m₀ m' : Mp} {ν νm νr νi ν' : Lg} {h h₁ h' : Heap}

/-! ## captured names -/
theorem ev_cell {x : Str} {a : Addr} {pos : Pos} {d : D} {Q : D → Mp → Lg → Prop} (E : EnvOk c env) (k : CellE env x a) (hm : (a, MO.cell (some d)) ∈ ν) (q : Q d m ν) : Run c (V c) (eval (.Name x pos) env) m ν Q := by
  intro φ s o
  obtain ⟨_, ob, e, r⟩ := o.lg _ hm
  cases r with
  | cell1 hd rv => exact wpAny_Name (wpAny_loadName_cell E.kind (E.kindOf k.mem) k.at_ ⟨ob, e, hd⟩ (Fin.here (tk := s.toks) o rv q)) (E.dbgOf k.mem)
theorem store_cell {x : Str} {a : Addr} {v : Value} {d : D} {od : Option D} {Q : Unit → Mp → Lg → Prop} (E : EnvOk c env) (k : CellE env x a) (r : Rep c.prog c.w φ v d) (u : UpdL ν a (.cell od) (.cell (some d)) ν') (q : Q () m ν') : RunAt c eqr φ (storeName env x v) m ν Q := by
  intro s o
  obtain ⟨_, ob, e, r'⟩ := o.lg _ u.mem
  have hc : ∃ v₀, s.heap.IsCell a v₀ := by
    cases r' with
    | cell0 hd => exact ⟨_, ob, e, hd⟩
    | cell1 hd _ => exact ⟨_, ob, e, hd⟩
  obtain ⟨v₀, hc⟩ := hc
  refine wpAny_storeName_cell E.kind (E.kindOf k.mem) k.at_ hc fun h' hc' hs => ?_
  obtain ⟨ob', e', hd'⟩ := hc'
  obtain ⟨o₂, st₂⟩ := o.upd u (fun b ob hb e => hs.extBut b ob hb e) e' (.cell1 hd' r)
  exact ⟨h', s.toks, φ, m, ν', (), rfl, o₂, st₂, rfl, q⟩
theorem swaps_cell {x : Str} {a : Addr} {p : Pos} {e : Expr} {l : Nat} (E : EnvOk c env) (k : CellE env x a) : swapsWith e (some (.Name x p)) l env = pure false := by
  unfold swapsWith
  cases e <;> first | rfl | (simp only [E.kindOf k.mem, pure_bind]; rw [show (some NameKind.cell == some NameKind.local) = false from rfl, Bool.and_false, Bool.false_and, Bool.false_and])
abbrev Q_ex_AssignCell (a : Addr) (Q : FD → Mp → Lg → Prop) (d : D) (m₁ : Mp) (ν₁ : Lg) : Prop := ∃ od ν₂, UpdL ν₁ a (.cell od) (.cell (some d)) ν₂ ∧ Q .next m₁ ν₂
theorem ex_AssignCell {x : Str} {a : Addr} {p pos : Pos} {e : Expr} {Q : FD → Mp → Lg → Prop} (E : EnvOk c env) (k : CellE env x a) (h : Run c (V c) (eval e env) m ν (Q_ex_AssignCell a Q)) :
    Ex1 c env (.Assign [.Name x p] e pos) m ν Q := by
  intro φ s o
  refine wpAny_Assign_Name ((h φ).use o fun v d h₁ tk₁ φ₁ m₁ ν₁ o₁ st r q => ?_) (swaps_cell E k)
  obtain ⟨od, ν₂, u, q⟩ := q
  refine (store_cell (Q := fun _ m ν => Q .next m ν) E k r u q).use o₁ fun _ _ h₂ tk₂ φ₂ m₃ ν₃ o₂ st₂ _ q₂ => ⟨h₂, tk₂, φ₂, m₃, ν₃, .next, rfl, o₂, st.trans o₁ st₂, .next, q₂⟩

/-! ## comprehensions -/
theorem closure_go {env : Env} : ∀ (names : List (Str × NameKind)) (fs acc : List (Str × Addr)), (names.filter (fun p => p.2 == .free)).map (·.1) = (fs.map (·.1)) → (∀ p ∈ fs, env.cells.lookup p.1 = some p.2) →
    (forIn names acc fun x r => if (x.2 == NameKind.free) = true then do let a ← cellOf env x.1; pure (ForInStep.yield ((x.1, a) :: r)) else pure (ForInStep.yield r) : Sem (List (Str × Addr))) = pure (fs.reverse ++ acc)
  | [], fs, acc, h, _ => by
    have : fs = [] := by simpa using h.symm
    subst this; rfl
  | (n, k) :: r, fs, acc, h, hc => by
    rw [List.forIn_cons]
    by_cases hk : (k == NameKind.free) = true
    · simp only [List.filter_cons, hk, if_true, List.map_cons] at h
      cases fs with
      | nil => simp at h
      | cons p fs =>
        rw [List.map_cons, List.cons.injEq] at h
        have hp : env.cells.lookup n = some p.2 := by rw [h.1]; exact hc p List.mem_cons_self
        have e1 : cellOf env n = pure p.2 := by unfold cellOf; rw [hp]
        simp only [hk, if_true, e1]
        have := closure_go (env := env) r fs ((n, p.2) :: acc) h.2 (fun q hq => hc q (List.mem_cons_of_mem _ hq))
        show (forIn r ((n, p.2) :: acc) _ : Sem (List (Str × Addr))) = _
        rw [this, List.reverse_cons, List.append_assoc]
        have hn : n = p.1 := h.1
        rw [hn]; simp
    · simp only [List.filter_cons, hk, if_false] at h
      simp only [hk, if_false]
      exact closure_go (env := env) r fs acc h hc
theorem closure_eq {env : Env} {scope : Scope} {fs : List (Str × Addr)} (h : (scope.names.filter (fun p => p.2 == .free)).map (·.1) = fs.map (·.1)) (hc : ∀ p ∈ fs, env.cells.lookup p.1 = some p.2) : closureFor scope env = pure fs.reverse := by
  have := closure_go (env := env) scope.names fs [] h hc
  rw [List.append_nil] at this
  unfold closureFor
  show (forIn scope.names [] _ >>= fun cs => pure cs : Sem (List (Str × Addr))) = _
  first
    | (rw [this]; rfl)
    | (have e2 := this
       simp only [bind_pure] at *
       exact e2)

def compChk (scope : Scope) (ns' gs : List Str) : Bool :=
  decide ns'.Nodup && decide ((scope.names.map (·.1)).Nodup) && ns'.all (fun x => decide ((x, NameKind.local) ∈ scope.names)) && gs.all (fun x => decide ((x, NameKind.globalImplicit) ∈ scope.names)) &&
  scope.names.all (fun p => !(p.1 == ("__debug__" : Str)) && !(p.2 == .cell)) && decide (scope.kind = .function)

theorem relabel_fst (scope : Scope) (env : Env) : (relabel scope env).names.map (·.1) = scope.names.map (·.1) := by
  unfold relabel
  simp only [List.map_map]
  refine List.map_congr_left fun p hp => ?_
  obtain ⟨n, k⟩ := p
  simp only [Function.comp]
  split <;> rfl
theorem relabel_mem {scope : Scope} {env : Env} {x : Str} {k : NameKind} (hk : (k == .free) = false) (hm : (x, k) ∈ scope.names) : (x, k) ∈ (relabel scope env).names := by
  unfold relabel
  refine List.mem_map.mpr ⟨(x, k), hm, ?_⟩
  simp only [hk, Bool.false_and, Bool.false_eq_true, if_false]
theorem cEnv_ok {scope : Scope} {cl : List (Str × Addr)} {C : Addr} {ns' gs : List Str} (E : EnvOk c env) (hc : compChk scope ns' gs = true) :
    EnvOk (c.in c.A C ns') (cEnv scope cl C env) ∧ (∀ x ∈ gs, (x, NameKind.globalImplicit) ∈ (cEnv scope cl C env).scope.names) := by
  simp only [compChk, Bool.and_eq_true, decide_eq_true_eq, List.all_eq_true, Bool.not_eq_true'] at hc
  obtain ⟨⟨⟨⟨⟨h1, h2⟩, h3⟩, h4⟩, h5⟩, h6⟩ := hc
  refine ⟨⟨rfl, h6, E.glob, E.blt, by show ((relabel scope env).names.map (·.1)).Nodup; rw [relabel_fst]; exact h2, fun x hx => relabel_mem rfl (h3 x hx), fun p hp => ?_⟩, fun x hx => relabel_mem rfl (h4 x hx)⟩
  have : p.1 ∈ scope.names.map (·.1) := by rw [← relabel_fst scope env]; exact List.mem_map_of_mem hp
  obtain ⟨q, hq, e⟩ := List.mem_map.mp this
  rw [← e]; exact (h5 q hq).1
theorem cEnv_cell {scope : Scope} {cl : List (Str × Addr)} {C a : Addr} {x : Str} (E : EnvOk c env) (k : CellE env x a) (hf : (x, NameKind.free) ∈ scope.names) (hl : cl.lookup x = some a) : CellE (cEnv scope cl C env) x a := by
  refine ⟨?_, hl⟩
  show (x, NameKind.cell) ∈ (relabel scope env).names
  unfold relabel
  refine List.mem_map.mpr ⟨(x, .free), hf, ?_⟩
  simp only [E.kind, E.kindOf k.mem]; rfl

/-- a comprehension over d -/
def CompJ (c : Cx) (env : Env) (elt target : Expr) (ifs : List Expr) (scope : Scope) (cl : List (Str × Addr)) (ns' : List Str) (d : D) (m : Mp) (ν : Lg) (R : List D → Lg → Prop) : Prop :=
  ∃ (σ : Type) (ds : List D) (Kν : Lg → Prop) (νf : σ → Lg) (P : Nat → σ → List D → Prop) (x₀ : σ), CompP c env elt target ifs scope cl ns' d m ν ds Kν νf P x₀ ∧ ∀ x acc, P ds.length x acc → R acc (νf x)

theorem chk_parts {scope : Scope} {ns' gs : List Str} (hc : compChk scope ns' gs = true) : (∀ y ∈ scope.names, y.2 ≠ .cell) ∧ scope.kind = .function ∧ ∀ x ∈ scope.names, x.2 = .local → scope.names.lookup x.1 = some .local := by
  simp only [compChk, Bool.and_eq_true, decide_eq_true_eq, List.all_eq_true, Bool.not_eq_true'] at hc
  obtain ⟨⟨⟨⟨⟨h1, h2⟩, h3⟩, h4⟩, h5⟩, h6⟩ := hc
  exact ⟨fun y hy => by have := (h5 y hy).2; simpa using this, h6, fun x hx e => by obtain ⟨n, k⟩ := x; exact lookup_of_nodup h2 (e ▸ hx)⟩

theorem Off.ns {C : Addr} {mC : Str → Option Value} {h'' : Heap} (x : Off c.L φ ν C) (hn : h.Ns C mC) (st : Step c.L φ ν h φ' ν' h') : h'.Ns C mC := hn.at' fun ob e => st.keep C ob e (Ne.symm x.l) x.n

section
variable {elt target iter : Expr} {ifs : List Expr} {scope : Scope} {pos : Pos} {fs : List (Str × Addr)} {ns' gs : List Str}
theorem ev_ListComp {Q : D → Mp → Lg → Prop} (fs : List (Str × Addr)) (ns' gs : List Str) (hf : (scope.names.filter (fun p => p.2 == .free)).map (·.1) = fs.map (·.1)) (hcs : ∀ p ∈ fs, env.cells.lookup p.1 = some p.2) (hchk : compChk scope ns' gs = true)
    (h : Run c (V c) (eval iter env) m ν fun d m₁ ν₁ => CompJ c env elt target ifs scope fs.reverse ns' d m₁ ν₁ fun acc ν₂ => Q (.lst acc) m₁ ν₂) (hs : ∀ x, foldedSetIterable iter env x = pure x := by intro _; rfl) :
    Run c (V c) (eval (.ListComp elt [⟨target, iter, ifs, 0⟩] scope pos) env) m ν Q := by
  intro φ s o
  rw [arm_eval_ListComp]
  obtain ⟨hcell, hkind, hnm⟩ := chk_parts hchk
  refine wpAny_comprehension_free rfl hs (closure_eq hf hcs) hkind hnm ((h φ).use (s := s) o fun v d h₁ tk₁ φ₁ m₁ ν₁ o₁ st r q => ?_)
  obtain ⟨σ, ds, Kν, νf, P, x₀, cp, hR⟩ := q
  refine comp_core (s := { s with heap := h₁, toks := tk₁ }) cp hcell hkind r o₁ fun x acc D C vs n mC h' tk φ' hP ok st' nD offD eD ra nC offC hDC hmC => ?_
  refine ⟨mC, hmC, fun h'' hsb => ?_⟩
  have k : ∀ b ob, b ≠ C → h'.get? b = some ob → h''.get? b = some ob := fun b ob hb e => hsb.extBut b ob hb e
  have o₂ := ok.touchO offC k
  have st₂ := st'.touch nC k
  exact ⟨h'', _, _, m₁, _, .lst acc, rfl, o₂.freeze offD (k D _ hDC eD), st.trans o₁ (st₂.freeze nD), .lst addF_here (ra.up le_addF), hR x acc hP⟩
theorem ev_ListCompM {Q : D → Mp → Lg → Prop} (fs : List (Str × Addr)) (ns' gs : List Str) (hf : (scope.names.filter (fun p => p.2 == .free)).map (·.1) = fs.map (·.1)) (hcs : ∀ p ∈ fs, env.cells.lookup p.1 = some p.2) (hchk : compChk scope ns' gs = true)
    (h : Run c (V c) (eval iter env) m ν fun d m₁ ν₁ => CompJ c env elt target ifs scope fs.reverse ns' d m₁ ν₁ fun acc ν₂ => ∀ a, Q (.raw (.ref a)) m₁ ((a, .lst acc) :: ν₂)) (hs : ∀ x, foldedSetIterable iter env x = pure x := by intro _; rfl) :
    Run c (V c) (eval (.ListComp elt [⟨target, iter, ifs, 0⟩] scope pos) env) m ν Q := by
  intro φ s o
  rw [arm_eval_ListComp]
  obtain ⟨hcell, hkind, hnm⟩ := chk_parts hchk
  refine wpAny_comprehension_free rfl hs (closure_eq hf hcs) hkind hnm ((h φ).use (s := s) o fun v d h₁ tk₁ φ₁ m₁ ν₁ o₁ st r q => ?_)
  obtain ⟨σ, ds, Kν, νf, P, x₀, cp, hR⟩ := q
  refine comp_core (s := { s with heap := h₁, toks := tk₁ }) cp hcell hkind r o₁ fun x acc D C vs n mC h' tk φ' hP ok st' nD offD eD ra nC offC hDC hmC => ?_
  refine ⟨mC, hmC, fun h'' hsb => ?_⟩
  have k : ∀ b ob, b ≠ C → h'.get? b = some ob → h''.get? b = some ob := fun b ob hb e => hsb.extBut b ob hb e
  have o₂ := ok.touchO offC k
  have st₂ := st'.touch nC k
  exact ⟨h'', _, _, m₁, _, .raw (.ref D), rfl, o₂.push offD (k D _ hDC eD) (.lst ra), st.trans o₁ (st₂.push nD), .raw _, hR x acc hP D⟩
theorem swaps_comp {x : Str} {p : Pos} {gens : List Comprehension} {l : Nat} (E : EnvOk c env) (hx : x ∈ c.ns) (hl : (p.line == pos.line) = true) (hsc : (scope.names.any fun q => q.1 == x && (q.2 == .local || q.2 == .cell)) = false) :
    swapsWith (.ListComp elt gens scope pos) (some (.Name x p)) l env = pure true := by
  unfold swapsWith
  have hb : env.blockKind = .function := by unfold Env.blockKind; simp [E.kind]
  show (pure (env.blockKind == .function && env.kindOf x == some .local && p.line == pos.line && !(scope.names.any fun q => q.1 == x && (q.2 == .local || q.2 == .cell))) : Sem Bool) = pure true
  rw [hb, E.kindOf (E.own x hx), hl, hsc]; rfl
theorem ex_AssignComp {x : Str} {p spos : Pos} {Q : FD → Mp → Lg → Prop} (E : EnvOk c env) (hx : x ∈ c.ns) (hl : (p.line == pos.line) = true) (hsc : (scope.names.any fun q => q.1 == x && (q.2 == .local || q.2 == .cell)) = false)
    (fs : List (Str × Addr)) (ns' gs : List Str) (hf : (scope.names.filter (fun p => p.2 == .free)).map (·.1) = fs.map (·.1)) (hcs : ∀ p ∈ fs, env.cells.lookup p.1 = some p.2) (hchk : compChk scope ns' gs = true)
    (h : Run c (V c) (eval iter env) m ν fun d m₁ ν₁ => CompJ c env elt target ifs scope fs.reverse ns' d m₁ ν₁ fun acc ν₂ => ∃ m₂, SetAt c.ns m₁ x (.lst acc) m₂ ∧ Q .next m₂ ν₂) (hs : ∀ x, foldedSetIterable iter env x = pure x := by intro _; rfl) :
    Ex1 c env (.Assign [.Name x p] (.ListComp elt [⟨target, iter, ifs, 0⟩] scope pos) spos) m ν Q := by
  intro φ s o
  show wpAny _ _ (exec (.Assign [.Name x p] (.ListComp elt [⟨target, iter, ifs, 0⟩] scope pos) spos) env) _ _ s
  rw [exec_Assign_Name_used _ _ _ _ (swaps_comp E hx hl hsc), arm_evalThenUse_ListComp]
  obtain ⟨hcell, hkind, hnm⟩ := chk_parts hchk
  refine wpAny_bind (wpAny_standAt (wpAny_bind (wpAny_bind ?_)))
  refine wpAny_comprehension_free rfl hs (closure_eq hf hcs) hkind hnm ((h φ).use (s := s) o fun v d h₁ tk₁ φ₁ m₁ ν₁ o₁ st r q => ?_)
  obtain ⟨σ, ds, Kν, νf, P, x₀, cp, hR⟩ := q
  refine comp_core (s := { s with heap := h₁, toks := tk₁ }) cp hcell hkind r o₁ fun y acc D C vs n mC h' tk φ' hP ok st' nD offD eD ra nC offC hDC hmC => ?_
  obtain ⟨m₂, sa, q⟩ := hR y acc hP
  have o₂ := ok.freeze offD eD
  have st₂ := st'.freeze (ob := listOf (List.toArray vs) n) nD
  have offC' : Off c.L (addF φ' D (listOf (List.toArray vs) n)) (νf y) C := ⟨offC.l, fun a ob e => by rcases e with e | ⟨rfl, _⟩; exact offC.f _ _ e; exact hDC, offC.n⟩
  refine wpAny_mono ((asg_name (p := p) (Q := fun _ m ν => m₂ = m ∧ νf y = ν) E sa ⟨rfl, rfl⟩ _ (.ref D) (.lst addF_here (ra.up le_addF))).use (s := { s with heap := h', toks := tk }) (E := fun _ _ => False) o₂ (R := fun _ s'' => ∃ h₃ tk₃ φ₃, s'' = { s with heap := h₃, toks := tk₃ } ∧ Ok c φ₃ m₂ (νf y) h₃ ∧ Step c.L (addF φ' D (listOf (List.toArray vs) n)) (νf y) h' φ₃ (νf y) h₃)
    fun _ _ h₃ tk₃ φ₃ m₃ ν₃ o₃ st₃ _ z => ?_) (fun _ s'' z => ?_) fun _ _ x => x
  · obtain ⟨rfl, rfl⟩ := z; exact ⟨h₃, tk₃, φ₃, rfl, o₃, st₃⟩
  · obtain ⟨h₃, tk₃, φ₃, rfl, o₃, st₃⟩ := z
    obtain ⟨oC, hoC⟩ := Ns_ex hmC
    obtain ⟨offC₃, eC₃⟩ := offC'.next st₃ hoC
    refine ⟨mC, hmC.at' fun ob e => by rw [hoC] at e; cases e; exact eC₃, fun h'' hsb => ?_⟩
    have k : ∀ b ob, b ≠ C → h₃.get? b = some ob → h''.get? b = some ob := fun b ob hb e => hsb.extBut b ob hb e
    refine wpAny_pure (wpAny_pure ?_)
    exact ⟨h'', _, φ₃, m₂, νf y, .next, rfl, o₃.touchO offC₃ k, st.trans o₁ ((st₂.trans o₂ st₃).touch nC k), .next, q⟩

/-- a comprehension that changes nothing -/
theorem cj_pure {α : Type} (xs : List α) (enc : α → D) (p : α → Bool) (g : α → D) {d : D} {cl : List (Str × Addr)} {Kν : Lg → Prop} {R : List D → Lg → Prop} (hnd : ns'.Nodup) (hi : IterD c.prog c.w c.A d (xs.map enc) Kν) (hk : Kν ν) (hl : xs.length ≤ 100000)
    (turn : ∀ C x, x ∈ xs → Asg (c.in c.A C ns') (cEnv scope cl C env) target (enc x) (blank ns') ν fun _ m₂ ν₂ => Tsts (c.in c.A C ns') (cEnv scope cl C env) ifs m₂ ν₂ fun b m₃ ν₃ => b = p x ∧
      if b = true then Run (c.in c.A C ns') (V c) (eval elt (cEnv scope cl C env)) m₃ ν₃ fun e m₄ ν₄ => m₄.length = ns'.length ∧ e = g x ∧ ν₄ = ν else m₃.length = ns'.length ∧ ν₃ = ν)
    (q : R ((xs.filter p).map g) ν) : CompJ c env elt target ifs scope cl ns' d m ν R := by
  refine ⟨Unit, xs.map enc, Kν, fun _ => ν, fun i _ acc => acc = ((xs.take i).filter p).map g, (), ⟨hnd, hi, by rw [List.length_map]; exact sizeLine_ge hl, by simp, rfl, fun _ _ _ _ => hk, fun C i x acc d hd hP => ?_⟩, fun _ acc hacc => ?_⟩
  · rw [List.getElem?_map] at hd
    cases hx : xs[i]? with
    | none => rw [hx] at hd; cases hd
    | some y =>
      rw [hx] at hd
      simp only [Option.map_some, Option.some.injEq] at hd
      subst hd
      obtain ⟨hi', ey⟩ := List.getElem?_eq_some_iff.mp hx
      have hmem : y ∈ xs := List.mem_of_getElem? hx
      have htk : xs.take (i + 1) = xs.take i ++ [y] := by rw [List.take_succ, hx]; rfl
      intro φ v rv s o
      refine wpAny_mono (turn C y hmem φ v rv s o) (fun _ _ f => ?_) fun _ _ x => x
      obtain ⟨h', tk, φ', m', ν', b, e1, e2, e3, e4, hT⟩ := f
      refine ⟨h', tk, φ', m', ν', b, e1, e2, e3, e4, ?_⟩
      have key : ∀ (b : Bool) m₃ ν₃, (b = p y ∧ if b = true then Run (c.in c.A C ns') (V c) (eval elt (cEnv scope cl C env)) m₃ ν₃ fun e m₄ ν₄ => m₄.length = ns'.length ∧ e = g y ∧ ν₄ = ν else m₃.length = ns'.length ∧ ν₃ = ν) →
          if b = true then Run (c.in c.A C ns') (V c) (eval elt (cEnv scope cl C env)) m₃ ν₃ fun e m₄ ν₄ => m₄.length = ns'.length ∧ ∃ z : Unit, acc ++ [e] = ((xs.take (i + 1)).filter p).map g ∧ ν = ν₄ else m₃.length = ns'.length ∧ ∃ z : Unit, acc = ((xs.take (i + 1)).filter p).map g ∧ ν = ν₃ := by
        rintro b m₃ ν₃ ⟨hb, hz⟩
        cases b with
        | true =>
          simp only [if_true] at hz ⊢
          refine Run.mono hz fun e m₄ ν₄ z => ⟨z.1, (), ?_, z.2.2.symm⟩
          rw [hP, htk, z.2.1]; simp [← hb]
        | false =>
          simp only [Bool.false_eq_true, if_false] at hz ⊢
          refine ⟨hz.1, (), ?_, hz.2.symm⟩
          rw [hP, htk]; simp [← hb]
      unfold Tsts at hT ⊢
      split at hT
      · exact key _ _ _ hT
      · exact Run.mono hT fun b m₃ ν₃ z => key _ _ _ z
      · exact hT.elim
  · rw [hacc, List.length_map, List.take_length]; exact q
end
end

/- MB15 -/

structure GN (env : Env) (gs : List Str) : Prop where
  all : ∀ x ∈ gs, (x, NameKind.globalImplicit) ∈ env.scope.names
structure CS (env : Env) (fs : List (Str × Addr)) : Prop where
  all : ∀ p ∈ fs, CellE env p.1 p.2
theorem GN.get {env : Env} {gs : List Str} {x : Str} (g : GN env gs) (h : x ∈ gs) : (x, NameKind.globalImplicit) ∈ env.scope.names := g.all x h
theorem CS.get {env : Env} {fs : List (Str × Addr)} {x : Str} {a : Addr} (g : CS env fs) (h : (x, a) ∈ fs) : CellE env x a := g.all _ h
theorem CS.look {env : Env} {fs : List (Str × Addr)} (g : CS env fs) : ∀ p ∈ fs, env.cells.lookup p.1 = some p.2 := fun p hp => (g.all p hp).at_

theorem swap_ok {ns : List Str} {m m₂ m₃ : Mp} {x y : Str} {a b : D} {P : Mp → Prop} (sb : SetAt ns m y b m₂) (sa : SetAt ns m₂ x a m₃) (q : P m₃) : ∃ a' b' m₂ m₃, D.tup [a, b] = D.tup [a', b'] ∧ SetAt ns m y b' m₂ ∧ SetAt ns m₂ x a' m₃ ∧ P m₃ :=
  ⟨_, _, _, _, rfl, sb, sa, q⟩
theorem set_ok {ns : List Str} {m m₂ : Mp} {x : Str} {a : D} {P : Mp → Prop} (sa : SetAt ns m x a m₂) (q : P m₂) : ∃ m₂, SetAt ns m x a m₂ ∧ P m₂ := ⟨_, sa, q⟩
theorem cset_ok {ν ν' : Lg} {a : Addr} {od : Option D} {d : D} {P : Lg → Prop} (u : UpdL ν a (.cell od) (.cell (some d)) ν') (q : P ν') : ∃ od ν₂, UpdL ν a (.cell od) (.cell (some d)) ν₂ ∧ P ν₂ := ⟨_, _, u, q⟩
theorem callee_ok {K : Frag} {f : Value} {P : Value → Prop} (k : Kp K f) (q : P f) : ∃ f', D.raw f = D.raw f' ∧ Kp K f' ∧ P f' := ⟨_, rfl, k, q⟩
theorem len_ok {α : Type} {l : List α} {P : Prop} (h : l.length ≤ 100000) (q : P) : l.length ≤ 100000 ∧ P := ⟨h, q⟩

section
variable {c : Cx} {env : Env} {φ φ' ψ : Fz} {m m₀ m' : Mp} {ν νm νr νi ν' : Lg} {h h₁ h' : Heap}

/-- a call of a def without captured names -/
theorem call_fn0 {f : Addr} {name qual : Str} {params : Arguments} {body : List Stmt} {scope : Scope} {dV kV doc pm cdv ct oc : Value} {an od : Option Addr} {osl : Array (Option Value)} {n : Nat} (ps ns gs : List Str) (m₀ : Mp) {ds : List D} {Q : D → Mp → Lg → Prop}
    (ho : c.K.lookup f = some ⟨oc, od, .func (fnOf name qual params body scope dV kV doc pm an cdv ct), osl⟩) (hcd : codeIn c.K cdv qual = true) (ha : AOk c.A (n + 1))
    (hbind : ∀ (vs : List Value), vs.length = ps.length → bindArgs (fnOf name qual params body scope dV kV doc pm an cdv ct) ⟨vs, []⟩ = pure (ps.zip vs))
    (hchk : fnChk scope ps ns [] gs = true) (hn : ds.length = ps.length) (hm₀ : m₀ = ns.map fun x => (ps.zip ds).lookup x) (hcl : ∀ k, cellsFrom k scope.names [] = [])
    (h : ∀ A' L' env, AOk A' n → EnvOk (c.in A' L' ns) env → GN env gs → Ex (c.in A' L' ns) env body m₀ νm fun fl _ ν' => Q (retD fl) m (ν' ++ νr)) :
    CodeD c (.ref f) ds m (νm ++ νr) Q :=
  call_fn' ps ns [] gs ho hcd ha hbind hchk hn hm₀ hcl fun A' L' env hA E hg _ _ => (h A' L' env hA E ⟨hg⟩).mono fun fl _ ν' q => ⟨[], ν', .refl _, q⟩
/-- the same, the whole ledger handed down -/
theorem call_fnr {f : Addr} {name qual : Str} {params : Arguments} {body : List Stmt} {scope : Scope} {dV kV doc pm cdv ct oc : Value} {an od : Option Addr} {osl : Array (Option Value)} {n : Nat} (ps ns gs : List Str) (m₀ : Mp) {ds : List D} {Q : D → Mp → Lg → Prop}
    (ho : c.K.lookup f = some ⟨oc, od, .func (fnOf name qual params body scope dV kV doc pm an cdv ct), osl⟩) (hcd : codeIn c.K cdv qual = true) (ha : AOk c.A (n + 1))
    (hbind : ∀ (vs : List Value), vs.length = ps.length → bindArgs (fnOf name qual params body scope dV kV doc pm an cdv ct) ⟨vs, []⟩ = pure (ps.zip vs))
    (hchk : fnChk scope ps ns [] gs = true) (hn : ds.length = ps.length) (hm₀ : m₀ = ns.map fun x => (ps.zip ds).lookup x) (hcl : ∀ k, cellsFrom k scope.names [] = [])
    (h : ∀ A' L' env, AOk A' n → EnvOk (c.in A' L' ns) env → GN env gs → Ex (c.in A' L' ns) env body m₀ ν fun fl _ ν' => Q (retD fl) m ν') :
    CodeD c (.ref f) ds m ν Q := by
  have := call_fn0 (νm := ν) (νr := []) (Q := Q) (m := m) ps ns gs m₀ ho hcd ha hbind hchk hn hm₀ hcl fun A' L' env hA E hg => (h A' L' env hA E hg).mono fun fl _ ν' q => by rw [List.append_nil]; exact q
  rw [List.append_nil] at this; exact this
/-- one captured name -/
theorem call_fn1 {f : Addr} {name qual : Str} {params : Arguments} {body : List Stmt} {scope : Scope} {dV kV doc pm cdv ct oc : Value} {an od : Option Addr} {osl : Array (Option Value)} {n : Nat} (ps ns : List Str) (x : Str) (gs : List Str) (m₀ : Mp) (od1 : Option D) {ds : List D} {Q : D → Mp → Lg → Prop}
    (ho : c.K.lookup f = some ⟨oc, od, .func (fnOf name qual params body scope dV kV doc pm an cdv ct), osl⟩) (hcd : codeIn c.K cdv qual = true) (ha : AOk c.A (n + 1))
    (hbind : ∀ (vs : List Value), vs.length = ps.length → bindArgs (fnOf name qual params body scope dV kV doc pm an cdv ct) ⟨vs, []⟩ = pure (ps.zip vs))
    (hchk : fnChk scope ps ns [x] gs = true) (hn : ds.length = ps.length) (hm₀ : m₀ = ns.map fun x => (ps.zip ds).lookup x) (h1 : (ps.zip ds).lookup x = od1) (hcl : ∀ k, cellsFrom k scope.names [] = [(x, k)])
    (h : ∀ A' L' env a, AOk A' n → EnvOk (c.in A' L' ns) env → GN env gs → CS env [(x, a)] → Ex (c.in A' L' ns) env body m₀ ((a, .cell od1) :: νm) fun fl _ ν' => Back Q m νr fl ν') :
    CodeD c (.ref f) ds m (νm ++ νr) Q :=
  call_fn' ps ns [x] gs ho hcd ha hbind hchk hn hm₀ (fun k => (hcl k).trans rfl) fun A' L' env hA E hg hc hcells => by
    have := h A' L' env (L' + 1) hA E ⟨hg⟩ ⟨fun p hp => by
      rw [List.mem_singleton] at hp; subst hp
      refine ⟨hc x List.mem_cons_self, ?_⟩
      rw [hcells]
      show List.lookup x [(x, L' + 1)] = _
      simp⟩
    rw [← h1] at this
    exact this
/-- two captured names -/
theorem call_fn2 {f : Addr} {name qual : Str} {params : Arguments} {body : List Stmt} {scope : Scope} {dV kV doc pm cdv ct oc : Value} {an od : Option Addr} {osl : Array (Option Value)} {n : Nat} (ps ns : List Str) (x y : Str) (gs : List Str) (m₀ : Mp) (od1 od2 : Option D) {ds : List D} {Q : D → Mp → Lg → Prop}
    (ho : c.K.lookup f = some ⟨oc, od, .func (fnOf name qual params body scope dV kV doc pm an cdv ct), osl⟩) (hcd : codeIn c.K cdv qual = true) (ha : AOk c.A (n + 1))
    (hbind : ∀ (vs : List Value), vs.length = ps.length → bindArgs (fnOf name qual params body scope dV kV doc pm an cdv ct) ⟨vs, []⟩ = pure (ps.zip vs))
    (hchk : fnChk scope ps ns [y, x] gs = true) (hn : ds.length = ps.length) (hm₀ : m₀ = ns.map fun x => (ps.zip ds).lookup x) (h1 : (ps.zip ds).lookup x = od1) (h2 : (ps.zip ds).lookup y = od2) (hxy : (x == y) = false) (hcl : ∀ k, cellsFrom k scope.names [] = [(y, k + 1), (x, k)])
    (h : ∀ A' L' env a b, AOk A' n → EnvOk (c.in A' L' ns) env → GN env gs → CS env [(y, b), (x, a)] → Ex (c.in A' L' ns) env body m₀ ((b, .cell od2) :: (a, .cell od1) :: νm) fun fl _ ν' => Back Q m νr fl ν') :
    CodeD c (.ref f) ds m (νm ++ νr) Q :=
  call_fn' ps ns [y, x] gs ho hcd ha hbind hchk hn hm₀ (fun k => (hcl k).trans rfl) fun A' L' env hA E hg hc hcells => by
    have := h A' L' env (L' + 1) (L' + 1 + 1) hA E ⟨hg⟩ ⟨fun p hp => by
      rcases List.mem_cons.mp hp with rfl | hp
      · refine ⟨hc y List.mem_cons_self, ?_⟩
        rw [hcells]
        show List.lookup y [(y, L' + 1 + 1), (x, L' + 1)] = _
        simp
      · rw [List.mem_singleton] at hp; subst hp
        refine ⟨hc x (List.mem_cons_of_mem _ List.mem_cons_self), ?_⟩
        rw [hcells]
        show List.lookup x [(y, L' + 1 + 1), (x, L' + 1)] = _
        simp [List.lookup_cons, hxy]⟩
    rw [← h1, ← h2] at this
    exact this

section
variable {elt target iter : Expr} {ifs : List Expr} {scope : Scope} {pos : Pos} {fs : List (Str × Addr)} {ns' gs : List Str}
theorem cEnv_CS {cl : List (Str × Addr)} {C : Addr} (E : EnvOk c env) (hcs : CS env fs) (hf : (scope.names.filter (fun p => p.2 == .free)).map (·.1) = fs.map (·.1)) (hnd : (fs.map (·.1)).Nodup) : CS (cEnv scope fs.reverse C env) fs := by
  refine ⟨fun p hp => cEnv_cell E (hcs.all p hp) ?_ ?_⟩
  · have : p.1 ∈ (scope.names.filter (fun p => p.2 == .free)).map (·.1) := by rw [hf]; exact List.mem_map_of_mem hp
    obtain ⟨q, hq, e⟩ := List.mem_map.mp this
    obtain ⟨h1, h2⟩ := List.mem_filter.mp hq
    obtain ⟨q1, q2⟩ := q
    have : q2 = .free := by simpa using h2
    subst this; rw [← e]; exact h1
  · refine lookup_of_nodup ?_ (List.mem_reverse.mpr hp)
    rw [List.map_reverse]; exact (List.reverse_perm _).nodup_iff.mpr hnd

theorem cj_pure' {α : Type} (xs : List α) (enc : α → D) (p : α → Bool) (g : α → D) {d : D} {Kν : Lg → Prop} {R : List D → Lg → Prop} (E : EnvOk c env) (hchk : compChk scope ns' gs = true) (hcs : CS env fs)
    (hf : (scope.names.filter (fun p => p.2 == .free)).map (·.1) = fs.map (·.1)) (hnd : (fs.map (·.1)).Nodup) (hi : IterD c.prog c.w c.A d (xs.map enc) Kν) (hk : Kν ν) (hl : xs.length ≤ 100000)
    (turn : ∀ C env' x, x ∈ xs → EnvOk (c.in c.A C ns') env' → GN env' gs → CS env' fs → Asg (c.in c.A C ns') env' target (enc x) (blank ns') ν fun _ m₂ ν₂ => Tsts (c.in c.A C ns') env' ifs m₂ ν₂ fun b m₃ ν₃ => b = p x ∧
      if b = true then Run (c.in c.A C ns') (V c) (eval elt env') m₃ ν₃ fun e m₄ ν₄ => m₄.length = ns'.length ∧ e = g x ∧ ν₄ = ν else m₃.length = ns'.length ∧ ν₃ = ν)
    (q : R ((xs.filter p).map g) ν) : CompJ c env elt target ifs scope fs.reverse ns' d m ν R :=
  cj_pure xs enc p g (by simp only [compChk, Bool.and_eq_true, decide_eq_true_eq] at hchk; exact hchk.1.1.1.1.1) hi hk hl (fun C x hx => by
    obtain ⟨E', hg⟩ := cEnv_ok (C := C) (cl := fs.reverse) E hchk
    exact turn C _ x hx E' ⟨hg⟩ (cEnv_CS (cl := fs.reverse) E hcs hf hnd)) q
end
end

/- MB16 -/

section
variable {c : Cx} {env : Env} {φ φ' ψ : Fz} {m m₀ m' : Mp} {ν νm νr νi ν' : Lg} {h h₁ h' : Heap}

/-- new objects only -/
theorem Ok.newObj {a : Addr} {ob : Obj} (o : Ok c φ m ν h) (k : ∀ b x, h.get? b = some x → h'.get? b = some x) (n : h.get? a = none) (e : h'.get? a = some ob) : Ok c (addF φ a ob) m ν h' ∧ Step c.L φ ν h (addF φ a ob) ν h' :=
  ⟨(o.grow k).freeze (o.off n) e, (Step.grow k).freeze n⟩
theorem Ok.newObjL {a : Addr} {ob : Obj} {mo : MO} (o : Ok c φ m ν h) (k : ∀ b x, h.get? b = some x → h'.get? b = some x) (n : h.get? a = none) (e : h'.get? a = some ob) (r : MRep c.prog c.w φ ob mo) : Ok c φ m ((a, mo) :: ν) h' ∧ Step c.L φ ν h φ ((a, mo) :: ν) h' :=
  ⟨(o.grow k).push (o.off n) e r, (Step.grow k).push n⟩

/-! the kit's frames, from and to -/
def allO (h : Heap) (L : Addr) : List (Addr × Obj) := (List.range h.objs.size).filterMap fun a => if a = L then none else (h.get? a).map fun o => (a, o)
theorem allO_mem {L : Addr} {p : Addr × Obj} : p ∈ allO h L ↔ h.get? p.1 = some p.2 ∧ p.1 ≠ L := by
  unfold allO
  rw [List.mem_filterMap]
  constructor
  · rintro ⟨a, _, e⟩
    split at e
    · cases e
    · rename_i hn
      cases q : h.get? a with
      | none => rw [q] at e; cases e
      | some o => rw [q] at e; cases e; exact ⟨q, hn⟩
  · rintro ⟨e, hL⟩
    exact ⟨p.1, List.mem_range.mpr (Heap.lt_size e), by rw [if_neg hL, e]; rfl⟩
theorem empty_none (b : Addr) : ({ objs := #[] } : Heap).get? b = none := by
  cases q : ({ objs := #[] } : Heap).get? b with
  | none => rfl
  | some ob => exact absurd (Heap.lt_size q) (Nat.not_lt_zero _)
theorem fr_of {L : Addr} {mv : Str → Option Value} (hns : h.Ns L mv) : Fr { objs := #[] } L h mv := ⟨hns, fun b ob e => (by rw [empty_none] at e; exact nomatch e), Nat.zero_le _⟩
theorem news_of {L : Addr} : News { objs := #[] } L h (allO h L) := fun pr hp => let ⟨a, b⟩ := allO_mem.mp hp; ⟨a, b, empty_none _⟩
theorem news_keep {L : Addr} (N : News { objs := #[] } L h' (allO h L)) : ∀ b ob, h.get? b = some ob → b ≠ L → h'.get? b = some ob := fun b ob e hL => (N (b, ob) (allO_mem.mpr ⟨e, hL⟩)).1
/-- back from the kit: the same names, the same objects -/
theorem Ok.back {mv : Str → Option Value} (o : Ok c φ m ν h) (hm : Names c.prog c.w φ c.ns m mv) (hn : h'.Ns c.L mv) (k : ∀ b ob, h.get? b = some ob → b ≠ c.L → h'.get? b = some ob) : Ok c φ m ν h' ∧ Step c.L φ ν h φ ν h' :=
  ⟨{ nsd := o.nsd, ns := ⟨mv, hn, hm⟩, fz := fun a ob e => k _ _ (o.fz _ _ e) (o.fzL _ _ e), fzL := o.fzL, fzN := o.fzN
     lg := fun p hp => let ⟨a, ob, b, r⟩ := o.lg p hp; ⟨a, ob, k _ _ b a, r⟩, nd := o.nd, gd := o.gd },
   ⟨fun a ob e aL _ => k _ _ e aL, fun _ _ e => e, fun _ _ e => .inl e, fun p hp => .inl ⟨p, hp, rfl⟩⟩⟩

/-! ## calls of builtins -/
theorem call_min {a b : Int} {Q : D → Mp → Lg → Prop} (hh : c.A.handled = none) (q : Q (.int (min a b)) m ν) : CallD c (.builtin "min") [.int a, .int b] m ν Q := fun φ vs ra s o => by
  cases ra with
  | cons r ra =>
    cases r
    cases ra with
    | cons r ra =>
      cases r; cases ra
      obtain ⟨mv, hns, hmv⟩ := o.ns
      refine min_two_N hh (fr_of hns) news_of fun h' tk F N => ?_
      obtain ⟨o', st⟩ := o.back hmv F.ns (news_keep N)
      refine ⟨h', tk, φ, m, ν, _, rfl, o', st, ?_, q⟩
      rw [show min a b = if b < a then b else a by by_cases h : b < a <;> simp [h] <;> omega]
      exact .int _ _
theorem call_max {a b : Int} {Q : D → Mp → Lg → Prop} (hh : c.A.handled = none) (q : Q (.int (max a b)) m ν) : CallD c (.builtin "max") [.int a, .int b] m ν Q := fun φ vs ra s o => by
  cases ra with
  | cons r ra =>
    cases r
    cases ra with
    | cons r ra =>
      cases r; cases ra
      obtain ⟨mv, hns, hmv⟩ := o.ns
      refine max_two_N hh (fr_of hns) news_of fun h' tk F N => ?_
      obtain ⟨o', st⟩ := o.back hmv F.ns (news_keep N)
      refine ⟨h', tk, φ, m, ν, _, rfl, o', st, ?_, q⟩
      rw [show max a b = if b > a then b else a by by_cases h : b > a <;> simp [h] <;> omega]
      exact .int _ _
theorem call_abs {a : Int} {Q : D → Mp → Lg → Prop} (q : Q (.int (a.natAbs : Int)) m ν) : CallD c (.builtin "abs") [.int a] m ν Q := fun φ vs ra s o => by
  cases ra with
  | cons r ra =>
    cases r; cases ra
    refine call_abs_int fun u tk => ⟨s.heap, tk, φ, m, ν, _, rfl, o, .refl, ?_, q⟩
    rw [show (a.natAbs : Int) = if a < 0 then -a else a by by_cases h : a < 0 <;> simp [h] <;> omega]
    exact .int _ _
theorem call_int {a : Int} {Q : D → Mp → Lg → Prop} (q : Q (.int a) m ν) : CallD c (.type "int") [.int a] m ν Q := fun φ vs ra s o => by
  cases ra with
  | cons r ra =>
    cases r; cases ra
    exact PySem.call_int_int (Fin.here (tk := s.toks) o (.int _ _) q)
theorem call_ord {x : Str} {Q : D → Mp → Lg → Prop} (h1 : x.length = 1) (q : Q (.int (x.cps.getD 0 0 : Nat)) m ν) : CallD c (.builtin "ord") [.str x] m ν Q := fun φ vs ra s o => by
  cases ra with
  | cons r ra =>
    cases r; cases ra
    exact ord_of_one h1 (Fin.here (tk := s.toks + 1) o (.int _ _) q)
theorem call_tuple_tup {ds : List D} {Q : D → Mp → Lg → Prop} (q : Q (.tup ds) m ν) : CallD c (.type "tuple") [.tup ds] m ν Q := fun φ vs ra s o => by
  cases ra with
  | cons r ra =>
    cases ra
    cases r with
    | tup ha ra =>
      exact PySem.call_tuple_same ⟨_, o.fz _ _ ha, rfl, _, rfl⟩ (Fin.here (tk := s.toks) o (.tup ha ra) q)
theorem call_tuple_lst {d : D} {ds : List D} {Q : D → Mp → Lg → Prop} (l : LstOf ν d ds) (hl : ds.length ≤ 100000) (q : Q (.tup ds) m ν) : CallD c (.type "tuple") [d] m ν Q := fun φ vs ra s o => by
  cases ra with
  | cons r ra =>
    cases ra
    obtain ⟨a, vs, n, rfl, e, ra⟩ := l.get r o
    refine PySem.call_tuple_list (isList_of e) (fun h' k => ?_) (by rw [List.size_toArray, ra.length]; exact sizeLine_ge hl)
    have o' := o.grow k
    obtain ⟨o₂, st₂⟩ := o'.alloc (ob := tupOf vs.toArray 0) rfl
    exact ⟨_, s.toks, _, m, ν, .tup ds, rfl, o₂, (Step.grow k).trans o' st₂, .tup addF_here (ra.up le_addF), q⟩

/-! ## lists -/
theorem bin_add_lists {a b : D} {ds es : List D} {Q : D → Mp → Lg → Prop} (la : LstOf ν a ds) (lb : LstOf ν b es) (hl : ds.length + es.length ≤ 100000) (q : Q (.lst (ds ++ es)) m ν) : Bin c .Add a b m ν Q := fun φ u v ru rv s o => by
  obtain ⟨x, vs, n, rfl, ex, rx⟩ := la.get ru o
  obtain ⟨y, us, k, rfl, ey, ry⟩ := lb.get rv o
  obtain ⟨mv, hns, hmv⟩ := o.ns
  refine add_lists (fr_of hns) news_of (isList_of ex) (isList_of ey) (fun h' F N => ?_) (by rw [rx.length, ry.length]; exact sizeLine_ge hl)
  obtain ⟨o', st⟩ := o.back hmv F.ns (fun b ob e hb => (N (b, ob) (.tail _ (allO_mem.mpr ⟨e, hb⟩))).1)
  have e := (N _ (.head _)).1
  exact ⟨h', s.toks, _, m, ν, _, rfl, o'.freeze (o.off (size_none _)) e, st.freeze (size_none _), .lst addF_here ((rx.append ry).up le_addF), q⟩

/-- a list's method, found -/
theorem gm_list {name : Str} {id : String} {d : D} {ds : List D} {R : Value → List D → Prop} (slot : Slot "list" name id) (ty : typeOf (.builtin id) = pure (.type "method_descriptor")) (hp : name.length ≤ 100000) (l : LstOf ν d ds) (q : R (.builtin id) [d]) : GetM c d name m ν R := by
  intro φ u s pl E Z ru o z
  obtain ⟨a, vs, n, rfl, e, ra⟩ := l.get ru o
  exact getMethod_builtin (isList_of e).typeIs PySem.F.plainAttrs_list slot ty (fun b hb => by cases hb; exact ⟨_, e, rfl⟩) (z _ _ _ s.toks (.cons ru .nil) q)
theorem gm_append {a : Addr} {ds : List D} {R : Value → List D → Prop} (hm : (a, MO.lst ds) ∈ ν) (q : R (.builtin "list.append") [.raw (.ref a)]) : GetM c (.raw (.ref a)) "append" m ν R := gm_list PySem.F.slot_list_append PySem.F.type_list_append (by decide) (.live hm) q
theorem call_append {a : Addr} {ds : List D} {d : D} {Q : D → Mp → Lg → Prop} (u : UpdL ν a (.lst ds) (.lst (ds ++ [d])) ν') (hl : ds.length < 100000) (q : Q .none m ν') : CallD c (.builtin "list.append") [.raw (.ref a), d] m ν Q := fun φ vs ra s o => by
  cases ra with
  | cons r ra =>
    cases r
    cases ra with
    | cons r ra =>
      cases ra
      obtain ⟨_, ob, e, mr⟩ := o.lg _ u.mem
      cases mr with
      | @lst vs n _ rv =>
        refine wpAny_list_append_plain ⟨n, e⟩ (fun h₆ hpl hs₆ => ?_) (by rw [List.size_toArray, rv.length]; exact sizeLine_ge (Nat.le_of_lt hl))
        obtain ⟨n', e₆⟩ := hpl
        obtain ⟨o', st⟩ := o.upd u (fun b ob hb e => hs₆.extBut b ob hb e) e₆ (by simpa using MRep.lst (rv.append (.cons r .nil)))
        exact ⟨h₆, s.toks, φ, m, ν', .none, rfl, o', st, .none, q⟩
end

/- MB17 -/

section
variable {c : Cx} {env : Env} {φ φ' ψ : Fz} {m m₀ m' : Mp} {ν νm νr νi ν' : Lg} {h h₁ h' : Heap}

theorem cmp_eq_str {x y : Str} {Q : D → Mp → Lg → Prop} (q : Q (.bool (decide (x = y))) m ν) : Cmp c .Eq (.str x) (.str y) m ν Q := fun φ u v ru rv s o => by
  cases ru; cases rv
  refine PySem.P.eq_str (Fin.here (tk := s.toks) o ?_ q)
  rw [show (x.cps.toList == y.cps.toList) = decide (x = y) by
    by_cases e : x = y
    · simp [e]
    · have : x.cps.toList ≠ y.cps.toList := fun h => e (by obtain ⟨a⟩ := x; obtain ⟨b⟩ := y; exact congrArg _ (Array.toList_inj.mp h))
      rw [beq_eq_false_iff_ne.mpr this, decide_eq_false e]]
  exact .bool _
theorem cmp_in_str {x y : Str} {b : Bool} {Q : D → Mp → Lg → Prop} (e : (!(Builtin.Str.occurrences x y 0 x.length 1).isEmpty) = b) (q : Q (.bool b) m ν) : Cmp c .In (.str y) (.str x) m ν Q := fun φ u v ru rv s o => by
  cases ru; cases rv
  refine PySem.P.in_str (Fin.here (tk := s.toks) o ?_ q)
  rw [e]; exact .bool _
theorem call_len_str {x : Str} {Q : D → Mp → Lg → Prop} (hl : x.length ≤ 100000) (q : Q (.int x.length) m ν) : CallD c (.builtin "len") [.str x] m ν Q := fun φ vs ra s o => by
  cases ra with
  | cons r ra =>
    cases r; cases ra
    exact PySem.P.len_str (by omega) (Fin.here (tk := s.toks + 1 + 1) o (.int _ _) q)
theorem gm_lower {x : Str} {R : Value → List D → Prop} (q : R (.builtin "str.lower") [.str x]) : GetM c (.str x) "lower" m ν R := fun φ u s pl E Z ru o z => by
  cases ru; exact PySem.GM.lower (z _ _ _ s.toks (.cons (.str _ _) .nil) q)
theorem call_lower {x y : Str} {Q : D → Mp → Lg → Prop} (e : Txt.lower x = y) (hf : Builtin.Str.tooLong (Txt.lower x).length = false) (q : Q (.str y) m ν) : CallD c (.builtin "str.lower") [.str x] m ν Q := fun φ vs ra s o => by
  cases ra with
  | cons r ra =>
    cases r; cases ra
    exact KXw.lower e hf fun t' k => ⟨s.heap, k, φ, m, ν, _, rfl, o, .refl, .str _ _, q⟩
theorem gm_split {x : Str} {R : Value → List D → Prop} (q : R (.builtin "str.split") [.str x]) : GetM c (.str x) "split" m ν R := fun φ u s pl E Z ru o z => by
  cases ru; exact PySem.GM.split (z _ _ _ s.toks (.cons (.str _ _) .nil) q)
theorem strs_rep {prog : Program} {w : World} : ∀ {vs : List Value} {xs : List Str}, StrsAre vs xs → RepAll prog w φ vs (xs.map .str)
  | _, _, .nil => .nil
  | _, _, .cons x t h => .cons (.str x t) (strs_rep h)
theorem call_split {x y : Str} {xs : List Str} {Q : D → Mp → Lg → Prop} (hy : (y.length == 0) = false) (e : Txt.split x y = xs) (hl : x.length ≤ 1000) (q : Q (.lst (xs.map .str)) m ν) : CallD c (.builtin "str.split") [.str x, .str y] m ν Q := fun φ vs ra s o => by
  cases ra with
  | cons r ra =>
    cases r
    cases ra with
    | cons r ra =>
      cases r; cases ra
      obtain ⟨mv, hns, hmv⟩ := o.ns
      refine splitN1A (fr_of hns) news_of hy (fun l h' k e' hs _ _ F N => ?_) (by have := sizeLine_ge (n := x.length + 2) (by omega); exact this)
      obtain ⟨o', st⟩ := o.back hmv F.ns (fun b ob e hb => (N (b, ob) (.tail _ (allO_mem.mpr ⟨e, hb⟩))).1)
      have eN := (N _ (.head _)).1
      have := strs_rep (prog := c.prog) (w := c.w) (φ := φ) hs
      rw [e', e] at this
      exact ⟨h', k, _, m, ν, _, rfl, o'.freeze (o.off (size_none _)) eN, st.freeze (size_none _), .lst (n := 0) addF_here (this.up le_addF), q⟩

theorem iter_str {prog : Program} {w : World} {A : Around} {x : Str} (hh : A.handled = none) (ha : (x.cps.all (· < 128)) = true) : IterD prog w A (.str x) (x.cps.toList.map fun k => .str ⟨#[k]⟩) (fun _ => True) := by
  intro φ v ν s R E r hf hl hk h
  cases r with
  | str _ t =>
    refine wpAny_pyIter_ascii ha (h _ _ s.toks _ (fun _ => True) (fun i o => o.cls = .type "str_ascii_iterator" ∧ o.data = .fields #[.str x t, .int i 0]) (size_none _) ?_ trivial (Heap.get?_push_size _ rfl) ⟨rfl, rfl⟩ fun b ob e => Heap.get?_push_of_some _ e)
    refine ⟨fun _ _ => trivial, fun i o x => ⟨_, x.1, by decide +kernel⟩, ?_, ?_, ?_⟩
    · intro i φ ν s E R o hf hl hI hN sp _ ho st hi k
      rw [List.length_map, Array.length_toList] at hi
      refine wpAny_pyNext_ascii_item (i := i) (x := x) (t := t) ⟨o, ho, st.1, st.2⟩ (c := x.cps[i]) (by simp [hi]) fun h' hit hs => ?_
      obtain ⟨o', ho', hc', hd'⟩ := hit
      exact k _ _ h' (s.toks + 1) o' (by simp [hi]) (.str _ _) ho' ⟨hc', hd'⟩ fun b ob hb e => hs.extBut b ob hb e
    · intro φ ν s E R o hf hl hI hN sp _ ho st k
      rw [List.length_map, Array.length_toList] at st
      refine wpAny_pyNext_ascii_end (x := x) (t := t) hh ⟨o, ho, st.1, st.2⟩ (by simp) fun h' hs => ?_
      exact k h' s.toks fun b ob hb e => hs b ob hb e
    · intro i s E R o ho st k
      exact wpAny_pyIter_striter_ascii ⟨o, ho, st.1, st.2⟩ k

/-! ## equality -/
theorem listIs {a : Addr} {vs : List Value} {n : Nat} (e : h.get? a = some (listOf (List.toArray vs) n)) : h.IsList a vs.toArray := ⟨_, e, rfl, n, rfl⟩
theorem tupIs {a : Addr} {vs : List Value} {n : Nat} (e : h.get? a = some (tupOf (List.toArray vs) n)) : h.IsTuple a vs.toArray := ⟨_, e, rfl, n, rfl⟩
mutual
/-- data that is compared -/
inductive Cp : Nat → D → Prop
  | none {k : Nat} : Cp k .none
  | bool {k : Nat} (b : Bool) : Cp k (.bool b)
  | int {k : Nat} (i : Int) : Cp k (.int i)
  | str {k : Nat} (x : Str) : Cp k (.str x)
  | raw {k : Nat} (v : Value) : Cp k (.raw v)
  | tup {k : Nat} {ds : List D} : CpAll k ds → Cp (k + 1) (.tup ds)
  | lst {k : Nat} {ds : List D} : CpAll k ds → Cp (k + 1) (.lst ds)
inductive CpAll : Nat → List D → Prop
  | nil {k : Nat} : CpAll k []
  | cons {k : Nat} {d : D} {ds : List D} : Cp k d → CpAll k ds → CpAll k (d :: ds)
end
theorem CpAll.get : ∀ {k : Nat} {ds : List D} {i : Nat} {d : D}, CpAll k ds → ds[i]? = some d → Cp k d
  | _, _, 0, _, .cons a _, e => by simp at e; exact e ▸ a
  | _, _, i + 1, _, .cons _ r, e => CpAll.get (i := i) r (by simpa using e)
  | _, _, _, _, .nil, e => by simp at e
theorem eq_int_self {A : Around} {s : Shared} {i : Int} {t u : Tok} : SeqAt.EqAt A s (.int i t) (.int i u) true := by have := SeqAt.EqAt.int_int (A := A) (s := s) i t i u; rwa [beq_self_eq_true] at this
theorem eq_str_self {A : Around} {s : Shared} {i : Str} {t u : Tok} : SeqAt.EqAt A s (.str i t) (.str i u) true := by have := SeqAt.EqAt.str_str (A := A) (s := s) i t i u; rwa [beq_self_eq_true] at this
theorem all_yes (n : Nat) : ((List.range n).all fun _ => true) = true := by rw [List.all_eq_true]; intros; rfl
theorem eq_refl {prog : Program} {w : World} : ∀ (k : Nat) {d : D} {v u : Value} {A : Around} {s : Shared}, Cp k d → Rep prog w φ v d → Rep prog w φ u d → HasF φ s.heap → A.units + k < cLine → SeqAt.EqAt A s v u true := by
  intro k
  induction k with
  | zero =>
    intro d v u A s hc rv ru hf hu
    cases hc with
    | none => cases rv; cases ru; exact .same _
    | bool => cases rv; cases ru; exact .same _
    | int => cases rv; cases ru; exact eq_int_self
    | str => cases rv; cases ru; exact eq_str_self
    | raw => cases rv; cases ru; exact .same _
  | succ k ih =>
    intro d v u A s hc rv ru hf hu
    have h1 : A.in1.units + k < cLine := by show A.units + 1 + k < cLine; omega
    cases hc with
    | none => cases rv; cases ru; exact .same _
    | bool => cases rv; cases ru; exact .same _
    | int => cases rv; cases ru; exact eq_int_self
    | str => cases rv; cases ru; exact eq_str_self
    | raw => cases rv; cases ru; exact .same _
    | tup hc =>
      cases rv with
      | @tup a vs n _ ha ra =>
        cases ru with
        | @tup b us n' _ hb rb =>
          by_cases hab : a = b
          · subst hab; exact .same _
          · have hl : vs.length = us.length := by rw [ra.length, rb.length]
            have := SeqAt.RcAt.tuples (A := A) (s := s) (e := fun _ => true) (tupIs (hf _ _ ha)) (tupIs (hf _ _ hb)) (by omega) (fun j p1 p2 => by
              have p1' : j < vs.length := by simpa using p1
              obtain ⟨x, hx, rx⟩ := ra.getV (i := j) (v := vs[j]) (List.getElem?_eq_getElem p1')
              obtain ⟨y, hy, ry⟩ := rb.getV (i := j) (v := us[j]'(hl ▸ p1')) (List.getElem?_eq_getElem _)
              rw [hx] at hy; cases hy
              exact ih (hc.get hx) rx ry hf h1)
            refine SeqAt.EqAt.of_refs hab ?_
            simpa [hl, all_yes] using this
    | lst hc =>
      cases rv with
      | @lst a vs n _ ha ra =>
        cases ru with
        | @lst b us n' _ hb rb =>
          by_cases hab : a = b
          · subst hab; exact .same _
          · have hl : vs.length = us.length := by rw [ra.length, rb.length]
            have := SeqAt.RcAt.lists (A := A) (s := s) (e := fun _ => true) (listIs (hf _ _ ha)) (listIs (hf _ _ hb)) (by simpa using hl) (by omega) (fun j p1 p2 => by
              have p1' : j < vs.length := by simpa using p1
              obtain ⟨x, hx, rx⟩ := ra.getV (i := j) (v := vs[j]) (List.getElem?_eq_getElem p1')
              obtain ⟨y, hy, ry⟩ := rb.getV (i := j) (v := us[j]'(hl ▸ p1')) (List.getElem?_eq_getElem _)
              rw [hx] at hy; cases hy
              exact ih (hc.get hx) rx ry hf h1)
            refine SeqAt.EqAt.of_refs hab ?_
            simpa [hl, all_yes] using this
/-- a tuple is as it is -/
theorem cmp_eq_same {k : Nat} {ds : List D} {Q : D → Mp → Lg → Prop} (hc : CpAll k ds) (hu : c.A.units + k + 1 < cLine) (q : Q (.bool true) m ν) : Cmp c .Eq (.tup ds) (.tup ds) m ν Q := fun φ u v ru rv s o => by
  cases ru with
  | @tup a vs n _ ha ra =>
    cases rv with
    | @tup b us n' _ hb rb =>
      have hl : vs.length = us.length := by rw [ra.length, rb.length]
      refine SeqAt.eq_tupleAt (e := fun _ => true) (tupIs (o.fz _ _ ha)) (tupIs (o.fz _ _ hb)) (by omega) (fun j p1 p2 => ?_) (Fin.here (tk := s.toks) o (by simpa [hl, all_yes] using (Rep.bool true : Rep c.prog c.w φ _ _)) q)
      have p1' : j < vs.length := by simpa using p1
      obtain ⟨x, hx, rx⟩ := ra.getV (i := j) (v := vs[j]) (List.getElem?_eq_getElem p1')
      obtain ⟨y, hy, ry⟩ := rb.getV (i := j) (v := us[j]'(hl ▸ p1')) (List.getElem?_eq_getElem _)
      rw [hx] at hy; cases hy
      exact eq_refl k (hc.get hx) rx ry o.fz (by show c.A.units + 1 + k < cLine; omega)
/-- tuples of words -/
theorem eq_strs {prog : Program} {w : World} {xs ys : List Str} {v u : Value} {A : Around} {s : Shared} (rv : Rep prog w φ v (.tup (xs.map .str))) (ru : Rep prog w φ u (.tup (ys.map .str))) (hf : HasF φ s.heap) (hu : A.units < cLine) :
    (∃ a b, v = .ref a ∧ u = .ref b ∧ SeqAt.RcAt A s v u (decide (xs = ys))) := by
  cases rv with
  | @tup a vs n _ ha ra =>
    cases ru with
    | @tup b us n' _ hb rb =>
      refine ⟨a, b, rfl, rfl, ?_⟩
      have la := ra.length
      have lb := rb.length
      rw [List.length_map] at la lb
      have := SeqAt.RcAt.tuples (A := A) (s := s) (e := fun j => xs[j]? == ys[j]?) (tupIs (hf _ _ ha)) (tupIs (hf _ _ hb)) hu (fun j p1 p2 => by
        have p1' : j < vs.length := by simpa using p1
        have p2' : j < us.length := by simpa using p2
        obtain ⟨x, hx, rx⟩ := ra.getV (i := j) (v := vs[j]) (List.getElem?_eq_getElem p1')
        obtain ⟨y, hy, ry⟩ := rb.getV (i := j) (v := us[j]) (List.getElem?_eq_getElem p2')
        rw [List.getElem?_map] at hx hy
        have q1 : xs[j]? = some xs[j] := List.getElem?_eq_getElem (by omega)
        have q2 : ys[j]? = some ys[j] := List.getElem?_eq_getElem (by omega)
        rw [q1] at hx; rw [q2] at hy
        simp only [Option.map_some, Option.some.injEq] at hx hy
        subst hx; subst hy
        show SeqAt.EqAt A.in1 s vs[j] us[j] (xs[j]? == ys[j]?)
        rw [q1, q2]
        generalize vs[j] = p at rx ⊢
        generalize us[j] = p' at ry ⊢
        cases rx; cases ry
        exact SeqAt.EqAt.str_str _ _ _ _)
      rw [show decide (xs = ys) = ((List.range (min vs.toArray.size us.toArray.size)).all (fun j => xs[j]? == ys[j]?) && vs.toArray.size == us.toArray.size) from ?_]
      · exact this
      · rw [List.size_toArray, List.size_toArray, la, lb]
        by_cases e : xs = ys
        · subst e; simp
        · rw [decide_eq_false e]
          symm
          rw [Bool.and_eq_false_iff]
          by_cases hl : xs.length = ys.length
          · left
            rw [Bool.eq_false_iff]
            intro hall
            rw [List.all_eq_true] at hall
            refine e (List.ext_getElem? fun j => ?_)
            by_cases hj : j < xs.length
            · exact beq_iff_eq.mp (hall j (List.mem_range.mpr (by omega)))
            · rw [List.getElem?_eq_none (by omega), List.getElem?_eq_none (by omega)]
          · right; simpa using hl
theorem cmp_eq_strs {xs ys : List Str} {Q : D → Mp → Lg → Prop} (hu : c.A.units < cLine) (q : Q (.bool (decide (xs = ys))) m ν) : Cmp c .Eq (.tup (xs.map .str)) (.tup (ys.map .str)) m ν Q := fun φ u v ru rv s o => by
  obtain ⟨a, b, rfl, rfl, e⟩ := eq_strs ru rv o.fz hu
  exact e _ _ _ _ (Fin.here (tk := s.toks) o (.bool _) q)

/-! membership -/
theorem mem_ints {prog : Program} {w : World} {i : Int} {t : Tok} {A : Around} {s : Shared} : ∀ (is : List Int) {vs : List Value}, RepAll prog w φ vs (is.map .int) → (∀ y ∈ vs, SeqAt.EqAt A s y (.int i t) (isInt i y)) ∧ vs.any (isInt i) = decide (i ∈ is) := by
  intro is
  induction is with
  | nil => intro vs ra; cases ra; exact ⟨by simp, by simp⟩
  | cons k is ih =>
    intro vs ra
    rw [List.map_cons] at ra
    cases ra with
    | cons r ra =>
      obtain ⟨h1, h2⟩ := ih ra
      cases r with
      | int _ u =>
        refine ⟨fun y hy => ?_, ?_⟩
        · rcases List.mem_cons.mp hy with rfl | hy
          · exact SeqAt.EqAt.int_int _ _ _ _
          · exact h1 y hy
        · rw [List.any_cons, h2]
          show ((k == i) || _) = _
          by_cases e : k = i
          · subst e; simp
          · have e' : (k == i) = false := beq_eq_false_iff_ne.mpr e
            rw [e']
            simp [Ne.symm e, eq_comm]
theorem cmp_notin_ints {d : D} {is : List Int} {i : Int} {Q : D → Mp → Lg → Prop} (l : LstOf ν d (is.map .int)) (q : Q (.bool (!decide (i ∈ is))) m ν) : Cmp c .NotIn (.int i) d m ν Q := fun φ u v ru rv s o => by
  cases ru
  obtain ⟨a, vs, n, rfl, e, ra⟩ := l.get rv o
  obtain ⟨h1, h2⟩ := mem_ints (i := i) (t := _) (A := c.A.in1) (s := s) is ra
  refine SeqAt.notIn_listAt (isInt i) (listIs e) (fun y hy => h1 y (by simpa using hy)) (Fin.here (tk := s.toks) o ?_ q)
  rw [show vs.toArray.any (isInt i) = vs.any (isInt i) by simp, h2]; exact .bool _
theorem mem_strs {prog : Program} {w : World} {i : Str} {t : Tok} {A : Around} {s : Shared} : ∀ (is : List Str) {vs : List Value}, RepAll prog w φ vs (is.map .str) → (∀ y ∈ vs, SeqAt.EqAt A s y (.str i t) (isStrOf i y)) ∧ vs.any (isStrOf i) = decide (i ∈ is) := by
  intro is
  induction is with
  | nil => intro vs ra; cases ra; exact ⟨by simp, by simp⟩
  | cons k is ih =>
    intro vs ra
    rw [List.map_cons] at ra
    cases ra with
    | cons r ra =>
      obtain ⟨h1, h2⟩ := ih ra
      cases r with
      | str _ u =>
        refine ⟨fun y hy => ?_, ?_⟩
        · rcases List.mem_cons.mp hy with rfl | hy
          · exact SeqAt.EqAt.str_str _ _ _ _
          · exact h1 y hy
        · rw [List.any_cons, h2]
          show ((k == i) || _) = _
          by_cases e : k = i
          · subst e; simp
          · have e' : (k == i) = false := beq_eq_false_iff_ne.mpr e
            rw [e']
            simp [Ne.symm e, eq_comm]
theorem cmp_notin_strs {d : D} {is : List Str} {i : Str} {Q : D → Mp → Lg → Prop} (l : LstOf ν d (is.map .str)) (q : Q (.bool (!decide (i ∈ is))) m ν) : Cmp c .NotIn (.str i) d m ν Q := fun φ u v ru rv s o => by
  cases ru
  obtain ⟨a, vs, n, rfl, e, ra⟩ := l.get rv o
  obtain ⟨h1, h2⟩ := mem_strs (i := i) (t := _) (A := c.A.in1) (s := s) is ra
  refine SeqAt.notIn_listAt (isStrOf i) (listIs e) (fun y hy => h1 y (by simpa using hy)) (Fin.here (tk := s.toks) o ?_ q)
  rw [show vs.toArray.any (isStrOf i) = vs.any (isStrOf i) by simp, h2]; exact .bool _
end

/- MB18 -/

section
variable {c : Cx} {env : Env} {φ φ' ψ : Fz} {m m₀ m' : Mp} {ν νm νr νi ν' : Lg} {h h₁ h' : Heap}

theorem rep_strs {prog : Program} {w : World} : ∀ (xs : List Str) {vs : List Value}, RepAll prog w φ vs (xs.map .str) → StrsAre vs xs := by
  intro xs
  induction xs with
  | nil => intro vs ra; cases ra; exact .nil
  | cons x xs ih =>
    intro vs ra
    rw [List.map_cons] at ra
    cases ra with
    | cons r ra => cases r with | str _ t => exact .cons x t (ih ra)
theorem rep_ints {prog : Program} {w : World} : ∀ (xs : List Int) {vs : List Value}, RepAll prog w φ vs (xs.map .int) → IntsAre vs xs := by
  intro xs
  induction xs with
  | nil => intro vs ra; cases ra; exact .nil
  | cons x xs ih =>
    intro vs ra
    rw [List.map_cons] at ra
    cases ra with
    | cons r ra => cases r with | int _ t => exact .cons x t (ih ra)
theorem ints_rep {prog : Program} {w : World} : ∀ {vs : List Value} {xs : List Int}, IntsAre vs xs → RepAll prog w φ vs (xs.map .int)
  | _, _, .nil => .nil
  | _, _, .cons x t h => .cons (.int x t) (ints_rep h)
theorem call_sorted_strs {d : D} {xs : List Str} {Q : D → Mp → Lg → Prop} (l : LstOf ν d (xs.map .str)) (h64 : xs.length < 64) (q : ∀ ys : List Str, ys.Perm xs → sortedS ys = true → Q (.lst (ys.map .str)) m ν) : CallD c (.builtin "sorted") [d] m ν Q := fun φ vs ra s o => by
  cases ra with
  | cons r ra =>
    cases ra
    obtain ⟨a, vs, n, rfl, e, ra⟩ := l.get r o
    obtain ⟨mv, hns, hmv⟩ := o.ns
    have hlen := ra.length
    rw [List.length_map] at hlen
    refine sorted_N_str (fr_of hns) news_of (listIs e) (rep_strs _ ra) (by omega) fun h' vs' ys k F N hS hp hs => ?_
    obtain ⟨o', st⟩ := o.back hmv F.ns (fun b ob e hb => (N (b, ob) (.tail _ (allO_mem.mpr ⟨e, hb⟩))).1)
    have eN := (N _ (.head _)).1
    have nn : s.heap.get? (s.heap.objs.size + 1) = none := by
      cases q : s.heap.get? (s.heap.objs.size + 1) with
      | none => rfl
      | some ob => have := Heap.lt_size q; exact absurd this (Nat.not_lt.mpr (Nat.le_succ _))
    exact ⟨h', s.toks, _, m, ν, _, rfl, o'.freeze (o.off nn) eN, st.freeze nn, .lst (n := k) addF_here ((strs_rep hS).up le_addF), q ys hp hs⟩
theorem call_sorted_ints {d : D} {xs : List Int} {Q : D → Mp → Lg → Prop} (l : LstOf ν d (xs.map .int)) (h64 : xs.length < 64) (q : ∀ ys : List Int, ys.Perm xs → ys.Pairwise (· ≤ ·) → Q (.lst (ys.map .int)) m ν) : CallD c (.builtin "sorted") [d] m ν Q := fun φ vs ra s o => by
  cases ra with
  | cons r ra =>
    cases ra
    obtain ⟨a, vs, n, rfl, e, ra⟩ := l.get r o
    obtain ⟨mv, hns, hmv⟩ := o.ns
    have hlen := ra.length
    rw [List.length_map] at hlen
    refine sorted_N (fr_of hns) news_of (listIs e) (rep_ints _ ra) (by omega) fun h' vs' ys k F N hS hp hs => ?_
    obtain ⟨o', st⟩ := o.back hmv F.ns (fun b ob e hb => (N (b, ob) (.tail _ (allO_mem.mpr ⟨e, hb⟩))).1)
    have eN := (N _ (.head _)).1
    have nn : s.heap.get? (s.heap.objs.size + 1) = none := by
      cases q : s.heap.get? (s.heap.objs.size + 1) with
      | none => rfl
      | some ob => have := Heap.lt_size q; exact absurd this (Nat.not_lt.mpr (Nat.le_succ _))
    exact ⟨h', s.toks, _, m, ν, _, rfl, o'.freeze (o.off nn) eN, st.freeze nn, .lst (n := k) addF_here ((ints_rep hS).up le_addF), q ys hp hs⟩
theorem Cmp.conv {op : CmpOp} {a b : D} {Q Q' : D → Mp → Lg → Prop} (h : Cmp c op a b m ν Q) (e : Q = Q') : Cmp c op a b m ν Q' := e ▸ h

theorem notMods (o : Ok c φ m ν h) : (h.objs.size == sysModules) = false := beq_eq_false_iff_ne.mpr (Nat.ne_of_gt (modules_low o.noLimit))
/-- an empty dict, live -/
theorem ev_DictM {pos : Pos} {Q : D → Mp → Lg → Prop} (q : ∀ a, (a == sysModules) = false → Q (.raw (.ref a)) m ((a, .map [] []) :: ν)) : Run c (V c) (eval (.Dict [] [] pos) env) m ν Q := by
  intro φ s o
  obtain ⟨o₂, st₂⟩ := o.allocL (ob := { cls := .type "dict", data := .dict #[] }) (mo := .map [] []) rfl (.map (kvs := []) (let ⟨ob, e, hd⟩ := Heap.dictOf_iff.mp (Heap.DictOf.new (knd := intKind c.prog c.w) s.heap); by
    rw [Heap.get?_push_size _ rfl] at e; cases e; exact hd) rfl .nil)
  exact wpAny_Dict_empty ⟨_, s.toks, _, m, _, .raw (.ref s.heap.objs.size), rfl, o₂, st₂, .raw _, q _ (notMods o)⟩
end

/- MB19 -/

section
variable {c : Cx} {env : Env} {φ φ' ψ : Fz} {m m₀ m' : Mp} {ν νm νr νi ν' : Lg} {h h₁ h' : Heap}

/-! ## dicts with int keys, frozen or live -/
inductive MapOf' (ν : Lg) : D → List Int → List D → Prop
  | frozen {ks : List Int} {ds : List D} : MapOf' ν (.map ks ds) ks ds
  | live {a : Addr} {ks : List Int} {ds : List D} : (a == sysModules) = false → (a, MO.map ks ds) ∈ ν → MapOf' ν (.raw (.ref a)) ks ds
theorem MapOf'.get {d : D} {ks : List Int} {ds : List D} {u : Value} (l : MapOf' ν d ks ds) (r : Rep c.prog c.w φ u d) (o : Ok c φ m ν h) :
    ∃ a kvs, u = .ref a ∧ (a == sysModules) = false ∧ h.DictOf (intKind c.prog c.w) a kvs ∧ kvs.map (·.1) = ks ∧ RepAll c.prog c.w φ (kvs.map (·.2)) ds := by
  cases l with
  | frozen =>
    cases r with
    | @map a ob kvs _ _ ha hd hk ra hs => exact ⟨a, kvs, rfl, hs, Heap.dictOf_iff.mpr ⟨ob, o.fz _ _ ha, hd⟩, hk, ra⟩
  | live hs hm =>
    cases r
    obtain ⟨_, ob, e, mr⟩ := o.lg _ hm
    cases mr with
    | @map _ kvs _ _ hd hk ra => exact ⟨_, kvs, rfl, hs, Heap.dictOf_iff.mpr ⟨ob, e, hd⟩, hk, ra⟩
theorem valueAt_isSome (kvs : List (Int × Value)) (k : Int) : (valueAt kvs k).isSome = decide (k ∈ kvs.map (·.1)) := by
  unfold valueAt
  rw [Option.isSome_map]
  rw [Bool.eq_iff_iff, List.find?_isSome, decide_eq_true_eq, List.mem_map]
  constructor
  · rintro ⟨p, hp, e⟩; exact ⟨p, hp, by simpa using e⟩
  · rintro ⟨p, hp, e⟩; exact ⟨p, hp, by simpa using e⟩
theorem cmp_in_map {d : D} {ks : List Int} {ds : List D} {k : Int} {Q : D → Mp → Lg → Prop} (l : MapOf' ν d ks ds) (q : Q (.bool (decide (k ∈ ks))) m ν) : Cmp c .In (.int k) d m ν Q := fun φ u v ru rv s o => by
  cases ru
  obtain ⟨a, kvs, rfl, hs, hd, hk, ra⟩ := l.get rv o
  refine wpAny_in_of (intKind_is _ _ _ _) hs hd.mapOf (Fin.here (tk := s.toks + 1) o ?_ q)
  rw [valueAt_isSome, hk]; exact .bool _
theorem cmp_notin_map {d : D} {ks : List Int} {ds : List D} {k : Int} {Q : D → Mp → Lg → Prop} (l : MapOf' ν d ks ds) (q : Q (.bool (!decide (k ∈ ks))) m ν) : Cmp c .NotIn (.int k) d m ν Q := fun φ u v ru rv s o => by
  cases ru
  obtain ⟨a, kvs, rfl, hs, hd, hk, ra⟩ := l.get rv o
  refine wpAny_notIn_of (intKind_is _ _ _ _) hs hd.mapOf (Fin.here (tk := s.toks + 1) o ?_ q)
  rw [valueAt_isSome, hk]; exact .bool _
theorem su_map {value slice : Expr} {d e : D} {i : Nat} {k : Int} {ks : List Int} {ds : List D} {Q : D → Mp → Lg → Prop} (hs : PlainSlice slice) (l : MapOf' ν d ks ds) (hk : ks[i]? = some k) (hd : ds[i]? = some e) (q : Q e m ν) : Subs c value slice d (.int k) m ν Q := by
  intro φ u v ru rv s o
  cases rv
  obtain ⟨a, kvs, rfl, hsm, DD, hks, ra⟩ := l.get ru o
  obtain ⟨z, hz, rz⟩ := ra.get hd
  have hkv : kvs[i]? = some (k, z) := by
    rw [← hks, List.getElem?_map] at hk
    rw [List.getElem?_map] at hz
    cases q : kvs[i]? with
    | none => rw [q] at hk; cases hk
    | some p => obtain ⟨p1, p2⟩ := p; rw [q] at hk hz; simp at hk hz; rw [hk, hz]
  have hn : (kvs.map (·.1)).Nodup := let ⟨_, _, _, _, _, _, _, _, n⟩ := DD; n
  exact tail_any DD.typeIs slot_dict_getitem.lookup (wpAny_getItem_of (intKind_is _ _ _ _) DD.mapOf (valueAt_of_get hn hkv) (Fin.here (tk := s.toks + 1) o rz q)) (hs _ _)

/-! pop -/
def rmK (ks : List Int) (ds : List D) (k : Int) : List Int × List D := (((ks.zip ds).filter fun p => decide (p.1 ≠ k)).map (·.1), ((ks.zip ds).filter fun p => decide (p.1 ≠ k)).map (·.2))
theorem rm_rep {prog : Program} {w : World} (k : Int) : ∀ {kvs : List (Int × Value)} {ds : List D}, RepAll prog w φ (kvs.map (·.2)) ds → (without kvs k).map (·.1) = (rmK (kvs.map (·.1)) ds k).1 ∧ RepAll prog w φ ((without kvs k).map (·.2)) (rmK (kvs.map (·.1)) ds k).2 := by
  intro kvs
  induction kvs with
  | nil => intro ds ra; cases ra; exact ⟨rfl, .nil⟩
  | cons p r ih =>
    intro ds ra
    rw [List.map_cons] at ra
    cases ra with
    | @cons _ _ d ds hr ra =>
      obtain ⟨i1, i2⟩ := ih ra
      unfold without rmK at *
      by_cases e : p.1 = k
      · simp only [List.map_cons, List.zip_cons_cons, List.filter_cons, e, ne_eq, not_true_eq_false, decide_false, Bool.false_eq_true, if_false]
        exact ⟨i1, i2⟩
      · simp only [List.map_cons, List.zip_cons_cons, List.filter_cons, e, ne_eq, not_false_eq_true, decide_true, if_true]
        exact ⟨by rw [i1], .cons hr i2⟩
theorem gm_pop {d : D} {ks : List Int} {ds : List D} {R : Value → List D → Prop} (l : MapOf' ν d ks ds) (q : R (.builtin "dict.pop") [d]) : GetM c d "pop" m ν R := fun φ u s pl E Z ru o z => by
  obtain ⟨a, kvs, rfl, hsm, DD, hks, ra⟩ := l.get ru o
  have hd : ∀ b, Value.ref a = .ref b → ∃ ob, s.heap.get? b = some ob ∧ ob.dict = none := fun b hb => by
    cases hb
    obtain ⟨ob, es, ep, ho, hc, _⟩ := DD
    exact ⟨ob, ho, hc.2.1⟩
  exact getMethod_builtin DD.typeIs PySem.F.plainAttrs_dict PySem.F.slot_dict_pop PySem.F.type_dict_pop hd (z _ _ _ s.toks (.cons ru .nil) q)
theorem call_pop {a : Addr} {k : Int} {d : D} {ks : List Int} {ds : List D} {Q : D → Mp → Lg → Prop} (hs : (a == sysModules) = false) (hl : ks.length ≤ 1000) (hn : k ∉ ks → rmK ks ds k = (ks, ds)) (u : UpdL ν a (.map ks ds) (.map (rmK ks ds k).1 (rmK ks ds k).2) ν') (q : ∀ e, Q e m ν') :
    CallD c (.builtin "dict.pop") [.raw (.ref a), .int k, d] m ν Q := fun φ vs ra s o => by
  cases ra with
  | cons r ra =>
    cases r
    cases ra with
    | cons r ra =>
      cases r
      cases ra with
      | @cons v _ _ _ rd ra =>
        cases ra
        rename_i t
        obtain ⟨_, ob, e, mr⟩ := o.lg _ u.mem
        cases mr with
        | @map _ kvs _ _ hd hk ra =>
          have DD : s.heap.DictOf (intKind c.prog c.w) a kvs := Heap.dictOf_iff.mpr ⟨ob, e, hd⟩
          have hlen : kvs.length ≤ sizeLine := sizeLine_ge (by have : kvs.length = ks.length := by rw [← hk, List.length_map]
                                                               omega)
          have hp : (keyPart (.int k t)).isSome = true := rfl
          cases hv : valueAt kvs k with
          | some x =>
            refine call_meetsIn PySem.F.slot_dict_pop DD.typeIs PySem.F.entry_dict_pop (PySem.F.args_dict_pop_3 _ _ _) (meets_dict_pop_there (intKind c.prog c.w) a (intKind_is _ _ _ _) [v] (.inr ⟨_, rfl⟩) hp) ⟨kvs, x, DD, hlen, hv, fun h' hm hsb => ?_⟩
            obtain ⟨ob', e', hd'⟩ := Heap.dictOf_iff.mp hm
            obtain ⟨h1, h2⟩ := rm_rep (prog := c.prog) (w := c.w) (φ := φ) k ra
            rw [hk] at h1 h2
            obtain ⟨o₂, st₂⟩ := o.upd u (fun b ob hb e => hsb.extBut b ob hb e) e' (.map hd' h1 h2)
            exact ⟨h', _, φ, m, ν', .raw x, rfl, o₂, st₂, .raw _, q _⟩
          | none =>
            have hk' : k ∉ ks := fun hm => by
              have := valueAt_isSome kvs k
              rw [hv, hk] at this
              simp [hm] at this
            refine call_meetsIn PySem.F.slot_dict_pop DD.typeIs PySem.F.entry_dict_pop (PySem.F.args_dict_pop_3 _ _ _) (meets_dict_pop_default (intKind c.prog c.w) a (intKind_is _ _ _ _) hs hp v) ⟨kvs, DD, hv, ?_⟩
            rw [hn hk'] at u
            obtain ⟨o₂, st₂⟩ := o.upd u (fun b ob hb e => e) e (.map hd hk ra)
            exact ⟨s.heap, _, φ, m, ν', .raw v, rfl, o₂, st₂, .raw _, q _⟩
end

/- MB20 -/

theorem CS.sub {env : Env} {fs gs : List (Str × Addr)} (c : CS env fs) (h : ∀ p ∈ gs, p ∈ fs) : CS env gs := ⟨fun p hp => c.all p (h p hp)⟩

section
variable {c : Cx} {env : Env} {φ φ' ψ : Fz} {m m₀ m' : Mp} {ν νm νr νi ν' : Lg} {h h₁ h' : Heap}
theorem cmp_eq_nil {d : D} {ds : List D} {Q : D → Mp → Lg → Prop} (hu : c.A.units < cLine) (l : LstOf ν d ds) (q : Q (.bool ds.isEmpty) m ν) : Cmp c .Eq d (.lst []) m ν Q := fun φ u v ru rv s o => by
  obtain ⟨a, vs, n, rfl, e, ra⟩ := l.get ru o
  obtain ⟨b, us, k, rfl, e', rb⟩ := (LstOf.frozen (ν := ν) (ds := [])).get rv o
  cases rb
  cases ra with
  | nil => exact SeqAt.eq_listAt (e := fun _ => true) (listIs e) (listIs e') rfl hu (fun j h1 _ => absurd h1 (by simp)) (Fin.here (tk := s.toks) o (.bool _) q)
  | cons r ra => exact SeqAt.eq_list_lengthsAt (listIs e) (listIs e') rfl hu (Fin.here (tk := s.toks) o (.bool _) q)
theorem cmp_ne_nil {d : D} {ds : List D} {Q : D → Mp → Lg → Prop} (hu : c.A.units < cLine) (l : LstOf ν d ds) (q : Q (.bool (!ds.isEmpty)) m ν) : Cmp c .NotEq d (.lst []) m ν Q := fun φ u v ru rv s o => by
  obtain ⟨a, vs, n, rfl, e, ra⟩ := l.get ru o
  obtain ⟨b, us, k, rfl, e', rb⟩ := (LstOf.frozen (ν := ν) (ds := [])).get rv o
  cases rb
  cases ra with
  | nil => exact SeqAt.RcNeAt.lists (e := fun _ => true) (listIs e) (listIs e') rfl hu (fun j h1 _ => absurd h1 (by simp)) _ _ _ _ (Fin.here (tk := s.toks) o (.bool _) q)
  | cons r ra => exact SeqAt.RcNeAt.lists_lengths (listIs e) (listIs e') rfl hu _ _ _ _ (Fin.here (tk := s.toks) o (.bool _) q)
end

/- MB21 -/

theorem miss_list {prog : Program} {w : World} {A : Around} {E : Value → Shared → Prop} {s : Shared} {a : Addr} {xs : Array Value} {k : Nat} {Q : Option Value → Shared → Prop}
    (hx : s.heap.get? a = some { cls := .type "list", dict := none, data := .seq xs k }) (hA : A.handled = none)
    (h : ∀ h' tk, (∀ b o, s.heap.get? b = some o → h'.get? b = some o) → Q none { s with heap := h', toks := tk }) :
    wpAny (model prog w) A (getAttr? (.ref a) (Str.ofString "keys")) Q E s := by
  cases s with
  | mk hp g d tk os =>
    have isList : ∀ t, Shared.TypeIs ⟨hp, g, d, t, os⟩ (.ref a) "list" := fun _ => ⟨_, hx, rfl⟩
    have noKeys := fun u => meets_getattribute_miss_list a xs k #[] (Str.ofString "keys") u (am_miss_of_fast (by kernel_rfl)) (by decide +kernel) (by decide +kernel)
    have looked := F.slot_list_getattribute.lookup
    have bound := F.slot_list_getattribute.bind (.ref a)
    have noHook := am_list_getattr_none
    have caught := sub_AttributeError
    unfold getAttr? getAttrBy? getAttrBy
    repeat (any_goals (first
      | with_reducible assumption
      | exact isList _
      | (refine call_meets F.slot_list_getattribute (isList _) am_entry_list_getattribute (F.args_list_getattribute_2 _ _) (noKeys _) ⟨hx, hA, fun h₁ t₁ x new => ?_⟩
         obtain ⟨_, _, there⟩ := new.there
         have back := h h₁ t₁ new.keeps
         (show wpAny _ _ (getattributeRaised _ _ _ _ _ _ _) _ _ _); unfold getattributeRaised)
      | exact back
      | wp_step))

theorem plain_upd : plainId "dict.update.loop" = true := by decide +kernel
theorem entry_upd : entryFor table "dict.update.loop" = some Builtin.«dict.update.loop» := entryFor_of_fast (by kernel_rfl)

theorem notin_take {α β : Type} {l : List α} {f : α → β} {i : Nat} (h : (l.map f).Nodup) (hi : i < l.length) : f l[i] ∉ (l.take i).map f := fun hm => by
  have h1 : ((l.take (i + 1)).map f).Nodup := h.sublist ((List.take_sublist _ _).map f)
  rw [List.take_succ, List.getElem?_eq_getElem hi, List.map_append] at h1
  exact (List.nodup_append.mp h1).2.2 _ hm _ (List.mem_singleton.mpr rfl) rfl
theorem upd_loop {prog : Program} {w : World} {A : Around} {K : Type} [DecidableEq K] (knd : KeyKind prog w K) (encK : K → D) (hk : ∀ φ v k, Rep prog w φ v (encK k) → knd.is k v = true) {R : Result → Shared → Prop} {prs : List (K × D)} {I S : Addr} {Kν : Lg → Prop} {Sφ : Fz → Prop} {St : Nat → Obj → Prop}
    (W : Walk prog w A.in1 I (prs.map fun p => .tup [encK p.1, p.2]) Kν Sφ St) (hnd : (prs.map (·.1)).Nodup) (hl : prs.length ≤ 100000) {φ : Fz} {ν : Lg} (iF : ∀ a o, φ a o → a ≠ I) (iN : ∀ p ∈ ν, p.1 ≠ I) (sF : ∀ a o, φ a o → a ≠ S) (sN : ∀ p ∈ ν, p.1 ≠ S) (hSI : S ≠ I) (hS : Sφ φ) (hK : Kν ν) (res : Value) :
    ∀ (n i : Nat) (j : Int) (s : Shared) (ob : Obj) (kvs : List (K × Value)), prs.length - i = n → i ≤ prs.length → HasF φ s.heap → HasL prog w φ ν s.heap → s.heap.get? I = some ob → St i ob → s.heap.DictOf knd S kvs → kvs.map (·.1) = (prs.take i).map (·.1) → RepAll prog w φ (kvs.map (·.2)) ((prs.take i).map (·.2)) →
      (∀ h' tk kvs', h'.DictOf knd S kvs' → kvs'.map (·.1) = prs.map (·.1) → RepAll prog w φ (kvs'.map (·.2)) (prs.map (·.2)) → (∀ b o, b ≠ S → b ≠ I → s.heap.get? b = some o → h'.get? b = some o) → R (.ok (.ret res)) { s with heap := h', toks := tk }) →
      codeAny (model prog w) A (.builtin "dict.update.loop" ⟨[.ref S, .ref I, rawInt j, res], []⟩) R s := by
  intro n
  induction n with
  | zero =>
    intro i j s ob kvs hn hi hf hL ho hst hd hks hrs hR
    have hin : i = prs.length := Nat.le_antisymm hi (Nat.le_of_sub_eq_zero hn)
    subst hin
    refine codeAny_builtin entry_upd ?_
    rw [Around.under_plainId plain_upd _]
    show wpAny _ A.in1 (pyNext (.ref I) >>= _) _ _ s
    refine wpAny_bind (W.done φ ν s _ _ ob hf hL iF iN hS hK ho (by simpa using hst) fun h' tk k => ?_)
    rw [List.take_length] at hks hrs
    exact wpAny_bind (wpAny_pure (wpAny_pure (hR h' tk kvs (hd.extBut (b := I) (fun b o hb e => k b o hb e) hSI) hks hrs fun b o _ hb e => k b o hb e)))
  | succ n ih =>
    intro i j s ob kvs hn hi hf hL ho hst hd hks hrs hR
    have hlt : i < prs.length := Nat.lt_of_sub_eq_succ hn
    refine codeAny_builtin entry_upd ?_
    rw [Around.under_plainId plain_upd _]
    show wpAny _ A.in1 (pyNext (.ref I) >>= _) _ _ s
    refine wpAny_bind (W.item i φ ν s _ _ ob hf hL iF iN hS hK ho hst (by simpa using hlt) fun v d h' tk ob' he rv ho' hst' k => ?_)
    rw [List.getElem?_map, List.getElem?_eq_getElem hlt] at he
    simp only [Option.map_some, Option.some.injEq] at he
    subst he
    cases rv with
    | @tup a vs m _ ha ra =>
      cases ra with
      | @cons v1 _ _ _ r1 ra =>
        cases ra with
        | @cons v2 _ _ _ r2 ra =>
          cases ra
          have hf' : HasF φ h' := fun a o e => k _ _ (iF a o e) (hf _ _ e)
          have hL' : HasL prog w φ ν h' := fun p hp => let ⟨o, e, r⟩ := hL p hp; ⟨o, k _ _ (iN p hp) e, r⟩
          have ha' : h'.get? a = some (tupOf [v1, v2].toArray m) := hf' _ _ ha
          show wpAny _ A.in1 (holding [.ref a] _ >>= _) _ _ _
          refine wpAny_bind (wpAny_holding (wpAny_bind (wpAny_tryCatch ?_)))
          unfold Builtin.Dict.pairItems
          refine wpAny_bind (wpAny_typeOf (T := "tuple") ⟨_, ha', rfl⟩ ?_)
          rw [if_pos (by decide)]
          refine wpAny_bind (wpAny_seqItems ha' rfl (wpAny_pure ?_))
          show wpAny _ A.in1 (holding [v1, v2] (dictSet S v1 v2)) _ _ _
          have hd' : h'.DictOf knd S kvs := hd.extBut (b := I) (fun b o hb e => k b o hb e) hSI
          have hlen : kvs.length = i := by have := congrArg List.length hks; simpa [Nat.min_eq_left hi] using this
          have hni : prs[i].1 ∉ kvs.map (·.1) := hks ▸ notin_take hnd hlt
          refine wpAny_holding (wpAny_dictSet_pairs (hk _ _ _ r1) hd' (fun h'' hd3 hs => ?_) (by rw [hlen]; exact sizeLine_ge (Nat.le_trans hi hl)))
          refine wpAny_pure ⟨plainId_quiet plain_upd _, ih (i + 1) _ _ ob' (stored kvs prs[i].1 v2) (by rw [Nat.sub_succ, hn]; rfl) hlt (fun a o e => hs.extBut a o (sF a o e) (hf' a o e)) (fun p hp => let ⟨o, e, r⟩ := hL' p hp; ⟨o, hs.extBut _ o (sN p hp) e, r⟩) (hs.extBut _ _ (Ne.symm hSI) ho') hst' hd3 ?_ ?_ fun h3 tk3 kvs3 a b e3 k3 => hR h3 tk3 kvs3 a b e3 fun b o hb1 hb2 e => k3 b o hb1 hb2 (hs.extBut b o hb1 (k b o hb2 e))⟩
          · unfold stored
            rw [if_neg (by rw [List.any_eq_true]; rintro ⟨kv, hm, e⟩; exact hni (List.mem_map.mpr ⟨kv, hm, by simpa using e⟩))]
            rw [List.take_succ, List.getElem?_eq_getElem hlt, List.map_append, List.map_append, hks]; rfl
          · unfold stored
            rw [if_neg (by rw [List.any_eq_true]; rintro ⟨kv, hm, e⟩; exact hni (List.mem_map.mpr ⟨kv, hm, by simpa using e⟩))]
            rw [List.take_succ, List.getElem?_eq_getElem hlt, List.map_append, List.map_append]
            exact hrs.append (.cons r2 .nil)

section
variable {c : Cx} {env : Env} {φ φ' ψ : Fz} {m m₀ m' : Mp} {ν νm νr νi ν' : Lg} {h h₁ h' : Heap}
/-- a dict of a list of pairs -/
theorem dict_pairs {K : Type} [DecidableEq K] (knd : PySem.KeyKind c.prog c.w K) (encK : K → D) (hk : ∀ φ v k, Rep c.prog c.w φ v (encK k) → knd.is k v = true) {prs : List (K × D)} {d : D} {R : Value → Shared → Prop} {E : Value → Shared → Prop} (hh : c.A.handled = none) (hnd : (prs.map (·.1)).Nodup) (hl : prs.length ≤ 100000)
    (l : LstOf ν d (prs.map fun p => .tup [encK p.1, p.2])) {v : Value} {s : Shared} (rv : Rep c.prog c.w φ v d) (o : Ok c φ m ν s.heap)
    (q : ∀ S h' tk ob kvs, s.heap.get? S = none → (S == sysModules) = false → h'.get? S = some ob → ob.IsDictOf knd kvs → kvs.map (·.1) = prs.map (·.1) → RepAll c.prog c.w φ (kvs.map (·.2)) (prs.map (·.2)) → (∀ b o, s.heap.get? b = some o → h'.get? b = some o) → R (.ref S) { s with heap := h', toks := tk }) :
    wpAny (model c.prog c.w) c.A (call (.type "dict") [v]) R E s := by
  obtain ⟨a, vs, n, rfl, e, ra⟩ := l.get rv o
  refine callType_codes (Q₁ := fun obj s₁ => obj = .ref s.heap.objs.size ∧ s₁ = { s with heap := s.heap.push { cls := .type "dict", data := .dict #[] } }) F.kt_called_dict (F.kt_typeCall_dict_1 _) F.entry_dict_init (kt_code_dict_new _ ⟨rfl, rfl⟩) ?_
  rintro obj s₁ ⟨rfl, rfl⟩
  have hnew : (s.heap.push { cls := .type "dict", data := .dict #[] }).DictOf knd s.heap.objs.size [] := Heap.DictOf.new s.heap
  refine ⟨hnew.typeIs, F.args_dict_init_2 _ _, ?_⟩
  have e1 : (s.heap.push { cls := .type "dict", data := .dict #[] }).get? a = some (listOf (List.toArray vs) n) := Heap.get?_push_of_some _ e
  unfold Builtin.«dict.__init__»
  refine wpAny_bind ?_
  unfold Builtin.Dict.selfAndRest
  refine wpAny_bind (wpAny_notOrdered_dict hnew.typeIs ?_)
  show wpAny _ _ (pure (s.heap.objs.size, [Value.ref a])) _ _ _
  refine wpAny_pure ?_
  show wpAny _ _ (Builtin.Dict.updateFrom "dict.__init__" s.heap.objs.size (.ref a) [] .none) _ _ _
  unfold Builtin.Dict.updateFrom
  refine wpAny_bind (wpAny_typeOf (T := "list") ⟨_, e1, rfl⟩ ?_)
  rw [if_pos (by decide)]
  refine wpAny_bind (miss_list e1 hh fun h1 tk1 k1 => ?_)
  rw [if_pos (show (none : Option Value).isNone = true from rfl)]
  obtain ⟨Kν, hit, hKν⟩ := iter_of (c := c.in c.A.in1.in1 c.L c.ns) hh l
  have k0 : ∀ b x, s.heap.get? b = some x → h1.get? b = some x := fun b x e => k1 b x (Heap.get?_push_of_some _ e)
  have hf1 : HasF φ h1 := fun b x e => k0 b x (o.fz _ _ e)
  have hL1 : HasL c.prog c.w φ ν h1 := fun p hp => let ⟨_, x, e, r⟩ := o.lg p hp; ⟨x, k0 _ _ e, r⟩
  refine wpAny_bind (wpAny_rule (wpAny_bind (hit φ (.ref a) ν _ _ _ rv hf1 hL1 hKν fun I h2 tk2 ob Sφ St hI W sφ hob st0 k2 => ?_)))
  have hsz : s.heap.objs.size ≠ I := fun e => by
    have : h1.get? s.heap.objs.size = some { cls := .type "dict", data := .dict #[] } := k1 _ _ (Heap.get?_push_size _ rfl)
    rw [e, hI] at this; cases this
  have offS := o.off (size_none s.heap)
  have hIs : s.heap.get? I = none := by
    cases q : s.heap.get? I with
    | none => rfl
    | some x => rw [k0 _ _ q] at hI; cases hI
  have offI := o.off hIs
  have d2 : h2.DictOf knd s.heap.objs.size [] := by
    obtain ⟨x, es, ep, hx, r⟩ := hnew
    exact ⟨x, es, ep, k2 _ _ (k1 _ _ hx), r⟩
  refine wpAny_pure ⟨plainId_quiet plain_upd _, upd_loop (A := c.A.in1) knd encK hk W hnd hl offI.f offI.n offS.f offS.n hsz sφ hKν .none prs.length 0 0 _ ob [] (by omega) (Nat.zero_le _) (fun b x e => k2 _ _ (hf1 b x e)) (fun p hp => let ⟨x, e, r⟩ := hL1 p hp; ⟨x, k2 _ _ e, r⟩) hob st0 d2 rfl .nil fun h3 tk3 kvs3 d3 e3 r3 k3 => ?_⟩
  obtain ⟨x, hx, hdx⟩ := Heap.dictOf_iff.mp d3
  refine ⟨rfl, q _ h3 tk3 x kvs3 (size_none _) (notMods o) hx hdx e3 r3 fun b y e => k3 b y (fun q => ?_) (fun q => ?_) (k2 _ _ (k0 _ _ e))⟩
  · rw [q, size_none] at e; cases e
  · rw [q, hIs] at e; cases e
theorem call_dict_ints {prs : List (Int × D)} {d : D} {Q : D → Mp → Lg → Prop} (hh : c.A.handled = none) (hnd : (prs.map (·.1)).Nodup) (hl : prs.length ≤ 100000) (l : LstOf ν d (prs.map fun p => .tup [.int p.1, p.2])) (q : Q (.map (prs.map (·.1)) (prs.map (·.2))) m ν) :
    CallD c (.type "dict") [d] m ν Q := fun φ vs ra s o => by
  cases ra with
  | cons r ra =>
    cases ra
    refine dict_pairs (intKind c.prog c.w) D.int (fun φ v k r => by cases r; exact intKind_is _ _ _ _) hh hnd hl l r o fun S h' tk ob kvs hS hm hob hd hk hr k => ?_
    obtain ⟨o', st⟩ := o.newObj k hS hob
    exact ⟨h', tk, _, m, ν, _, rfl, o', st, .map addF_here hd hk (hr.up le_addF) hm, q⟩
theorem call_dict_strs {prs : List (Str × D)} {d : D} {Q : D → Mp → Lg → Prop} (hh : c.A.handled = none) (hnd : (prs.map (·.1)).Nodup) (hl : prs.length ≤ 100000) (l : LstOf ν d (prs.map fun p => .tup [.str p.1, p.2])) (q : Q (.smap (prs.map (·.1)) (prs.map (·.2))) m ν) :
    CallD c (.type "dict") [d] m ν Q := fun φ vs ra s o => by
  cases ra with
  | cons r ra =>
    cases ra
    refine dict_pairs (strKind c.prog c.w) D.str (fun φ v k r => by cases r; exact strKind_is _ _ _ _) hh hnd hl l r o fun S h' tk ob kvs hS hm hob hd hk hr k => ?_
    obtain ⟨o', st⟩ := o.newObj k hS hob
    exact ⟨h', tk, _, m, ν, _, rfl, o', st, .smap addF_here hd hk (hr.up le_addF) hm, q⟩
theorem call_dict_copy {d : D} {ks : List Int} {ds : List D} {Q : D → Mp → Lg → Prop} (l : MapOf' ν d ks ds) (hl : ks.length ≤ 100000) (q : ∀ a, (a == sysModules) = false → Q (.raw (.ref a)) m ((a, .map ks ds) :: ν)) : CallD c (.type "dict") [d] m ν Q := fun φ vs ra s o => by
  cases ra with
  | cons r ra =>
    cases ra
    obtain ⟨a, kvs, rfl, hs, hd, hk, hr⟩ := l.get r o
    refine kt_call_dict hs hd (by have : kvs.length = ks.length := by rw [← hk, List.length_map]
                                  rw [this]; exact sizeLine_ge hl) fun h' hm hsb => ?_
    obtain ⟨ob, e, hd'⟩ := Heap.dictOf_iff.mp hm
    obtain ⟨o', st⟩ := o.newObjL (a := s.heap.objs.size) (mo := .map ks ds) (fun b x e => hsb.extBut b x (fun q => by rw [q, size_none] at e; cases e) (Heap.get?_push_of_some _ e)) (size_none _) e (.map hd' hk hr)
    exact ⟨h', s.toks, φ, m, _, .raw (.ref s.heap.objs.size), rfl, o', st, .raw _, q _ (notMods o)⟩
end

/- MB22 -/

theorem asc_all {cmp : Nat → Nat → (Bool → Shared → Prop) → Shared → Prop} {s : Shared} (p : Array Nat) : ∀ (f n : Nat) {Q : Nat → Shared → Prop}, (∀ k, n ≤ k → k < n + f → ∀ C : Bool → Shared → Prop, C false s → cmp (p.getD k 0) (p.getD (k - 1) 0) C s) → Q (n + f) s → (kas_asc p f n).kasWp cmp Q s
  | 0, n, Q, _, q => q
  | f + 1, n, Q, h, q => by
    unfold kas_asc
    refine h n (Nat.le_refl _) (by omega) _ ?_
    show (if false = true then KasT.ret n else kas_asc p f (n + 1)).kasWp cmp Q s
    rw [if_neg Bool.false_ne_true]
    exact asc_all p f (n + 1) (fun k h1 h2 => h k (by omega) (by omega)) (by rw [show n + 1 + f = n + (f + 1) by omega]; exact q)
theorem sort_all {cmp : Nat → Nat → (Bool → Shared → Prop) → Shared → Prop} {s : Shared} {n : Nat} {Q : Array Nat → Shared → Prop} (h2 : 2 ≤ n) (h : ∀ k, 1 ≤ k → k < n → ∀ C : Bool → Shared → Prop, C false s → cmp k (k - 1) C s) (q : Q (List.toArray (List.range n)) s) : (kas_sort n).kasWp cmp Q s := by
  unfold kas_sort
  rw [KasT.kasWp_bind]
  unfold kas_count
  rw [KasT.kasWp_bind]
  refine asc_all _ (n - 1) 1 (fun k h1 h3 C hC => ?_) ?_
  · have e : ∀ j, j < n → (List.toArray (List.range n)).getD j 0 = j := fun j hj => by simp [Array.getD, hj]
    rw [e k (by omega), e (k - 1) (by omega)]
    exact h k h1 (by omega) C hC
  · rw [show 1 + (n - 1) = n by omega, if_pos (by simp)]
    show (if n < n then _ else KasT.ret _).kasWp cmp Q s
    rw [if_neg (Nat.lt_irrefl _)]
    exact q

section
variable {c : Cx} {env : Env} {φ φ' ψ : Fz} {m m₀ m' : Mp} {ν νm νr νi ν' : Lg} {h h₁ h' : Heap}

abbrev dPr (p : Int × Int) : D := .tup [.int p.1, .int p.2]
theorem pr_get {prog : Program} {w : World} {vs : List Value} {ps : List (Int × Int)} (ra : RepAll prog w φ vs (ps.map dPr)) (hf : HasF φ h) {i : Nat} (hi : i < ps.length) :
    ∃ a x y n t u, vs[i]? = some (.ref a) ∧ h.get? a = some (tupOf #[.int x t, .int y u] n) ∧ x = (ps[i]).1 ∧ y = (ps[i]).2 := by
  obtain ⟨v, hv, r⟩ := ra.get (i := i) (d := dPr ps[i]) (by rw [List.getElem?_map, List.getElem?_eq_getElem hi]; rfl)
  cases r with
  | @tup a us n _ ha ra =>
    cases ra with
    | cons r1 ra =>
      cases ra with
      | cons r2 ra =>
        cases ra; cases r1; cases r2
        exact ⟨a, _, _, n, _, _, hv, hf _ _ ha, rfl, rfl⟩
theorem pr_tups {prog : Program} {w : World} : ∀ (ps : List (Int × Int)) {vs : List Value}, RepAll prog w φ vs (ps.map dPr) → HasF φ h → ∃ fs, KatTups h vs fs ∧ fs.length = ps.length ∧ ∀ v ∈ fs, ∃ i t, v = .int i t := by
  intro ps
  induction ps with
  | nil => intro vs ra hf; cases ra; exact ⟨[], .nil, rfl, by simp⟩
  | cons p ps ih =>
    intro vs ra hf
    rw [List.map_cons] at ra
    cases ra with
    | cons r ra =>
      obtain ⟨fs, h1, h2, h3⟩ := ih ra hf
      cases r with
      | @tup a us n _ ha rb =>
        cases rb with
        | @cons v1 _ _ _ r1 rb =>
          cases r1 with
          | int _ t =>
            refine ⟨.int p.1 t :: fs, .cons (hf _ _ ha) rfl rfl (by simp) h1, by simp [h2], fun v hv => ?_⟩
            rcases List.mem_cons.mp hv with rfl | hv
            · exact ⟨_, _, rfl⟩
            · exact h3 v hv

theorem gm_sort {a : Addr} {ds : List D} {R : Value → List D → Prop} (hm : (a, MO.lst ds) ∈ ν) (q : R (.builtin "list.sort") [.raw (.ref a)]) : GetM c (.raw (.ref a)) "sort" m ν R := gm_list PySem.F.slot_list_sort PySem.F.type_list_sort (by decide) (.live hm) q
theorem UpdL.same {a : Addr} {x : MO} (ν : Lg) (hm : (a, x) ∈ ν) : UpdL ν a x x ν := by
  induction ν with
  | nil => exact absurd hm (List.not_mem_nil)
  | cons p r ih =>
    cases hm with
    | head => exact .head
    | tail _ hm => exact .tail (ih hm)
theorem range_getD (us : List Value) : (List.toArray (List.range us.length)).toList.map (fun i => us.getD i Value.none) = us := by
  apply List.ext_getElem
  · simp
  · intro i h1 h2
    simp [h2]
/-- a list of pairs that stands in order -/
theorem call_sort {a : Addr} {ps : List (Int × Int)} {Q : D → Mp → Lg → Prop} (hm : (a, MO.lst (ps.map dPr)) ∈ ν) (h64 : ps.length < 64) (hs : ps.Pairwise fun p q => p.1 < q.1) (q : Q .none m ν) : CallD c (.builtin "list.sort") [.raw (.ref a)] m ν Q := fun φ vs ra s o => by
  cases ra with
  | cons r ra =>
    cases r; cases ra
    obtain ⟨aL, ob, e, mr⟩ := o.lg _ hm
    cases mr with
    | @lst us n _ ru =>
      obtain ⟨mv, hns, hmv⟩ := o.ns
      have hlen : us.length = ps.length := by rw [ru.length, List.length_map]
      by_cases h2 : 2 ≤ us.length
      · have hN : News { objs := #[] } c.L s.heap ((a, listOf us.toArray n) :: allBut s.heap c.L a) := fun pr hp => by
          rcases List.mem_cons.mp hp with rfl | hp
          · exact ⟨e, aL, empty_none _⟩
          · obtain ⟨x, y, _⟩ := allBut_mem.mp hp; exact ⟨x, y, empty_none _⟩
        have ap : ∀ p ∈ allBut s.heap c.L a, p.1 ≠ a := fun p hp => (allBut_mem.mp hp).2.2
        refine kat_lsort (vs := us) (fr_of hns) hN (.head ap) (by simp) h2 (by omega) fun e1 h' F' N' => ?_
        have kp : ∀ b x, b ≠ a → b ≠ c.L → s.heap.get? b = some x → h'.get? b = some x := fun b x hb hL ex => (N' (b, x) (List.mem_cons_of_mem _ (allBut_mem.mpr ⟨ex, hL, hb⟩))).1
        have hf' : HasF φ h' := fun b x ex => kp b x (fun q => o.fzN b x ex _ hm q.symm) (o.fzL b x ex) (o.fz b x ex)
        obtain ⟨fs, t1, t2, t3⟩ := pr_tups ps ru hf'
        refine kat_kind t1 (by omega) (T := .type "int") (fun v hv => ?_) (by decide) ?_
        · obtain ⟨i, t, rfl⟩ := t3 v hv
          exact .now
        refine sort_all h2 (fun k k1 k2 C hC => ?_) ?_
        · obtain ⟨a1, x1, y1, n1, t1, u1, v1, g1, rfl, rfl⟩ := pr_get ru hf' (i := k) (by omega)
          obtain ⟨a0, x0, y0, n0, t0, u0, v0, g0, rfl, rfl⟩ := pr_get ru hf' (i := k - 1) (by omega)
          have hlt : (ps[k - 1]).1 < (ps[k]).1 := List.pairwise_iff_getElem.mp hs (k - 1) k (by omega) (by omega) (by omega)
          show wpAny _ _ (keyLt' _ (us.getD k Value.none) (us.getD (k - 1) Value.none)) _ _ _
          rw [List.getD_eq_getElem?_getD, List.getD_eq_getElem?_getD, v1, v0]
          refine kat_lt g1 rfl g0 rfl (kat_cons ?_)
          refine SeqAt.EqAt.int_int _ _ _ _ _ _ _ _ ?_
          rw [beq_eq_false_iff_ne.mpr (by omega)]
          refine kat_no ?_
          rw [show ((Value.type "int" != Value.type "tuple") && ((0 : Nat) == 0)) = true from by decide]
          exact oneLt_int (by rw [decide_eq_false (by omega)]; exact hC)
        · rw [range_getD]
          refine KasFin.intro F' N' (.head ap) fun h'' k F'' N'' => ?_
          have kp' : ∀ b x, b ≠ a → b ≠ c.L → s.heap.get? b = some x → h''.get? b = some x := fun b x hb hL ex => (N'' (b, x) (List.mem_cons_of_mem _ (allBut_mem.mpr ⟨ex, hL, hb⟩))).1
          obtain ⟨o', st⟩ := o.upd' hmv F''.ns (UpdL.same ν hm) kp' (N'' _ List.mem_cons_self).1 (.lst ru)
          exact ⟨h'', s.toks, φ, m, ν, .none, rfl, o', st, .none, q⟩
      · refine wpAny_call_entry PyProof.Rows.slot_list_sort ⟨_, e, rfl⟩ PyProof.Rows.entry_list_sort ?_ (PyProof.Rows.args_list_sort _)
        have ha : a < s.heap.objs.size := Heap.lt_size e
        rw [list_sort_plain]
        refine wpAny_bind (listItems_at e rfl ?_)
        refine wpAny_bind (listUpdate_at e rfl ?_ (by rw [List.size_toArray, sizeLine_eq]; omega) (Nat.zero_le _))
        obtain ⟨e1, ho1⟩ : ∃ e1, (s.heap.update a (Obj.mapSeq fun _ => (#[] : Array Value))).get? a = some (seqObj "list" #[] e1) := ⟨_, get?_update_seq e (fun _ => #[])⟩
        refine wpAny_bind (seqEpoch_at ho1 rfl ?_)
        refine wpAny_bind (wpAny_newTuple ?_ (by show us.length ≤ _; rw [sizeLine_eq]; omega))
        refine wpAny_bind (wpAny_newList ?_ (Nat.zero_le _))
        refine wpAny_holding ?_
        have ho6 : (((s.heap.update a (Obj.mapSeq fun _ => (#[] : Array Value))).push (seqObj "tuple" us.toArray 0)).push (seqObj "list" #[] 0)).get? a = some (seqObj "list" #[] e1) := by
          rw [Heap.get?_push_ne _ _ _ (by rw [size_push', Heap.size_update]; exact Nat.ne_of_lt (Nat.lt_succ_of_lt ha)), Heap.get?_push_ne _ _ _ (by rw [Heap.size_update]; exact Nat.ne_of_lt ha)]
          exact ho1
        have kp : ∀ b x, b ≠ a → s.heap.get? b = some x → (((s.heap.update a (Obj.mapSeq fun _ => (#[] : Array Value))).push (seqObj "tuple" us.toArray 0)).push (seqObj "list" #[] 0)).get? b = some x := fun b x hb ex =>
          Heap.get?_push_of_some _ (Heap.get?_push_of_some _ (((Heap.SameBut.update ..).2 b hb).trans ex))
        show wpAny _ _ _ _ _ { s with heap := ((s.heap.update a (Obj.mapSeq fun _ => (#[] : Array Value))).push (seqObj "tuple" us.toArray 0)).push (seqObj "list" #[] 0) }
        dsimp only
        have h2' : us.toArray.size < 2 := by rw [List.size_toArray]; omega
        rw [if_pos h2', if_pos h2']
        refine wpAny_bind (wpAny_pure ?_)
        rw [StateT.run_pure]
        refine wpAny_bind (wpAny_pure ?_)
        dsimp only
        refine wpAny_bind (seqEpoch_at ho6 rfl ?_)
        have hout : (arrOf (SortSt.mk' general' (us.toArray.zip us.toArray) #[] 7 none)).map (·.2) = us.toArray := by
          show (us.toArray.zip us.toArray).map (·.2) = us.toArray
          apply Array.toList_inj.mp
          simp [List.map_snd_zip]
        rw [hout]
        refine wpAny_bind (listUpdate_at ho6 rfl ?_ (Nat.zero_le _) (by rw [List.size_toArray, sizeLine_eq]; omega))
        simp only [bne_self_eq_false, Bool.false_eq_true, if_false]
        obtain ⟨e2, ho2⟩ : ∃ e2, (((((s.heap.update a (Obj.mapSeq fun _ => (#[] : Array Value))).push (seqObj "tuple" us.toArray 0)).push (seqObj "list" #[] 0))).update a (Obj.mapSeq fun _ => us.toArray)).get? a = some (seqObj "list" us.toArray e2) := ⟨_, get?_update_seq ho6 (fun _ => us.toArray)⟩
        obtain ⟨o', st⟩ := o.upd (UpdL.same ν hm) (fun b x hb ex => ((Heap.SameBut.update ..).2 b hb).trans (kp b x hb ex)) ho2 (.lst (n := e2) ru)
        exact wpAny_pure ⟨_, rfl, _, s.toks, φ, m, ν, .none, rfl, o', st, .none, q⟩
end

/- MB23 -/

theorem ext_loop {prog : Program} {w : World} {A : Around} {R : Result → Shared → Prop} {ds : List D} {I S : Addr} {Kν : Lg → Prop} {Sφ : Fz → Prop} {St : Nat → Obj → Prop} (W : Walk prog w A.in1 I ds Kν Sφ St) {φ : Fz} (iF : ∀ a o, φ a o → a ≠ I) (sF : ∀ a o, φ a o → a ≠ S) (hSI : S ≠ I) (hS : Sφ φ) (hK : Kν []) (res : Value) (acc : List Value) (hl : acc.length + ds.length ≤ 100000) :
    ∀ (n i : Nat) (s : Shared) (ob : Obj) (vs : List Value) (k : Nat), ds.length - i = n → i ≤ ds.length → HasF φ s.heap → s.heap.get? I = some ob → St i ob → s.heap.get? S = some (listOf (acc ++ vs).toArray k) → RepAll prog w φ vs (ds.take i) →
      (∀ h' tk vs' k', h'.get? S = some (listOf (acc ++ vs').toArray k') → RepAll prog w φ vs' ds → (∀ b o, b ≠ S → b ≠ I → s.heap.get? b = some o → h'.get? b = some o) → R (.ok (.ret res)) { s with heap := h', toks := tk }) →
      codeAny (model prog w) A (.builtin "list.extend.loop" ⟨[.ref S, .ref I, res], []⟩) R s := by
  intro n
  induction n with
  | zero =>
    intro i s ob vs k hn hi hf ho hst hd hrs hR
    have hin : i = ds.length := Nat.le_antisymm hi (Nat.le_of_sub_eq_zero hn)
    subst hin
    refine codeAny_builtin F.entry_extend_loop ?_
    rw [Around.under_plainId F.plain_extend_loop _]
    show wpAny _ A.in1 (pyNext (.ref I) >>= _) _ _ s
    refine wpAny_bind (W.done φ [] s _ _ ob hf (fun _ h => nomatch h) iF (fun _ h => nomatch h) hS hK ho hst fun h' tk k' => ?_)
    rw [List.take_length] at hrs
    exact wpAny_pure (hR h' tk vs k (k' _ _ hSI hd) hrs fun b o _ hb e => k' b o hb e)
  | succ n ih =>
    intro i s ob vs k hn hi hf ho hst hd hrs hR
    have hlt : i < ds.length := Nat.lt_of_sub_eq_succ hn
    refine codeAny_builtin F.entry_extend_loop ?_
    rw [Around.under_plainId F.plain_extend_loop _]
    show wpAny _ A.in1 (pyNext (.ref I) >>= _) _ _ s
    refine wpAny_bind (W.item i φ [] s _ _ ob hf (fun _ h => nomatch h) iF (fun _ h => nomatch h) hS hK ho hst hlt fun v d h' tk ob' he rv ho' hst' k' => ?_)
    have hd' := k' _ _ hSI hd
    have hvl : vs.length = i := by rw [hrs.length, List.length_take]; exact Nat.min_eq_left hi
    show wpAny _ A.in1 (updateSeq S (·.push v) >>= _) _ _ _
    refine wpAny_bind ?_
    have hle : acc.length + vs.length ≤ 100000 := hvl ▸ Nat.le_trans (Nat.add_le_add_left hi _) hl
    have hsz : (acc ++ vs).toArray.size ≤ sizeLine := by rw [List.size_toArray, List.length_append]; exact sizeLine_ge hle
    have hsz2 : ((acc ++ vs).toArray.push v).size ≤ sizeLine + 1 := by rw [Array.size_push]; exact Nat.succ_le_succ hsz
    refine wpAny_updateSeq hd' rfl ?_ hsz hsz2
    obtain ⟨k2, hk2⟩ := listOf_update (f := (·.push v)) hd'
    have hs := Heap.SameBut.update h' S (Obj.mapSeq (·.push v))
    refine wpAny_pure ⟨plainId_quiet F.plain_extend_loop _, ih (i + 1) _ ob' (vs ++ [v]) k2 (by rw [Nat.sub_succ, hn]; rfl) hlt (fun a o e => (hs.2 a (sF a o e)).trans (k' _ _ (iF a o e) (hf _ _ e))) ((hs.2 I (Ne.symm hSI)).trans ho') hst' (by rw [hk2]; simp) ?_ fun h3 tk3 vs3 k3 e3 r3 kk => hR h3 tk3 vs3 k3 e3 r3 fun b o hb1 hb2 e => kk b o hb1 hb2 ((hs.2 b hb1).trans (k' b o hb2 e))⟩
    rw [List.take_succ, he]
    exact hrs.append (.cons rv .nil)

section
variable {c : Cx} {env : Env} {φ φ' ψ : Fz} {m m₀ m' : Mp} {ν νm νr νi ν' : Lg} {h h₁ h' : Heap}
theorem gm_extend {a : Addr} {ds : List D} {R : Value → List D → Prop} (hm : (a, MO.lst ds) ∈ ν) (q : R (.builtin "list.extend") [.raw (.ref a)]) : GetM c (.raw (.ref a)) "extend" m ν R := gm_list PySem.F.slot_list_extend PySem.F.type_list_extend (by decide) (.live hm) q
theorem call_extend_range {a : Addr} {lo hi : Int} {ds : List D} {Q : D → Mp → Lg → Prop} (hh : c.A.handled = none) (b1 : -1000000 ≤ lo ∧ lo ≤ 1000000) (b2 : -1000000 ≤ hi ∧ hi ≤ 1000000) (hl : ds.length + (hi - lo).toNat ≤ 90000) (u : UpdL ν a (.lst ds) (.lst (ds ++ (rng lo hi).map .int)) ν') (q : Q .none m ν') :
    CallD c (.builtin "list.extend") [.raw (.ref a), .range lo hi] m ν Q := fun φ vs ra s o => by
  cases ra with
  | cons r ra =>
    cases r
    cases ra with
    | cons r ra =>
      cases ra
      obtain ⟨aL, ob, e, mr⟩ := o.lg _ u.mem
      cases mr with
      | @lst us n _ ru =>
        have rr := r
        cases r with
        | @range r _ _ t1 t2 t3 hr =>
          have hR : IsRange s.heap r lo hi 1 t1 t2 t3 := o.fz _ _ hr
          have hsmall := small_one (a := lo) (b := hi) (by omega) (by omega) (by omega) (by omega)
          have hn : Builtin.Range.rangeSize lo hi 1 = ((hi - lo).toNat : Int) := by rw [rangeSize_one]; split <;> omega
          have har : a ≠ r := fun q => o.fzN _ _ hr _ u.mem q
          refine wpAny_call (codeAny_call_builtin PySem.F.slot_list_extend.plain PySem.F.entry_list_extend (PySem.F.slot_list_extend.check _ _ _ _ _ _ _ _ ⟨_, e, rfl⟩ (PySem.F.args_list_extend_2 _ _) ?_))
          show wpAny _ _ (Builtin.List.listExtendWith (.ref a) (.ref r) .none) _ _ s
          unfold Builtin.List.listExtendWith
          refine wpAny_bind (wpAny_typeOf (T := "range") ⟨_, hR, rfl⟩ ?_)
          have g1 : Builtin.List.listSameRef (.ref a) (.ref r) = false := by simp [Builtin.List.listSameRef, har]
          have g2 : (Value.type "range" == Value.type "list") = false := by decide
          have g3 : (Value.type "range" == Value.type "tuple") = false := by decide
          simp only [g1, g2, g3, Bool.or_false, Bool.false_eq_true, if_false]
          refine wpAny_bind (iter_range (A := c.A.in1) hh hsmall φ (.ref r) [] s _ _ rr o.fz (fun _ h => nomatch h) trivial fun I h1 tk1 ob1 Sφ St hI W sφ hob st0 k1 => ?_)
          have hr1 : IsRange h1 r lo hi 1 t1 t2 t3 := k1 _ _ hR
          have hlen : (hi - lo).toNat ≤ 2 ^ 24 := by omega
          refine wpAny_bind (wpAny_holding (wpAny_hint_range (n := (hi - lo).toNat) hr1 hn hlen ?_))
          have e1 := k1 _ _ e
          have haI : a ≠ I := fun q => by rw [q, hI] at e; cases e
          have offI := o.off hI
          have fin : ∀ h2 k2 tk2, h2.get? a = some (listOf us.toArray k2) → (∀ b x, b ≠ a → h1.get? b = some x → h2.get? b = some x) → codeAny (model c.prog c.w) c.A (.builtin "list.extend.loop" ⟨[.ref a, .ref I, .none], []⟩) (wants (Fin c (V c) Q φ ν s) (fun _ _ => False)) { s with heap := h2, toks := tk2 } := by
            intro h2 k2 tk2 e2 kk
            refine ext_loop (A := c.A) W offI.f (fun b x ex q => o.fzN b x ex _ u.mem q.symm) haI sφ trivial .none us (by rw [List.length_map, rng_length, ru.length]; omega) _ 0 _ ob1 [] k2 rfl (Nat.zero_le _) (fun b x ex => kk b x (fun q => o.fzN b x ex _ u.mem q.symm) (k1 _ _ (o.fz _ _ ex))) (kk _ _ (Ne.symm haI) hob) st0 (by rw [List.append_nil]; exact e2) .nil fun h3 tk3 vs3 k3 e3 r3 k3' => ?_
            obtain ⟨o', st⟩ := o.upd u (fun b x hb ex => k3' b x hb (fun q => by rw [q, hI] at ex; cases ex) (kk b x hb (k1 _ _ ex))) e3 (.lst (ru.append r3))
            exact ⟨h3, tk3, φ, m, ν', .none, rfl, o', st, .none, q⟩
          refine wpAny_ite_split (fun _ => ?_) (fun _ => wpAny_pure ⟨plainId_quiet F.plain_extend_loop _, fin h1 _ _ e1 fun _ _ _ ex => ex⟩)
          refine wpAny_bind (wpAny_rule ?_)
          refine wpAny_bind ?_
          show wpAny _ _ (updateSeq a (·.push .none) >>= fun _ => updateSeq a (·.pop)) _ _ _
          have hul : us.length ≤ 100000 := by rw [ru.length]; omega
          refine wpAny_bind (wpAny_updateSeq e1 rfl ?_ (by rw [List.size_toArray]; exact sizeLine_ge hul) (by rw [Array.size_push, List.size_toArray]; have := sizeLine_ge hul; omega))
          have e2 := Heap.get?_update_self (Obj.mapSeq (·.push Value.none)) e1 rfl
          refine wpAny_updateSeq e2 rfl ?_ (by rw [Array.size_push, List.size_toArray]; exact sizeLine_ge (by rw [ru.length]; omega)) (by rw [Array.size_pop, Array.size_push, List.size_toArray]; have := sizeLine_ge hul; omega)
          have e3 := Heap.get?_update_self (Obj.mapSeq (·.pop)) e2 rfl
          refine wpAny_pure ⟨plainId_quiet F.plain_extend_loop _, fin _ _ _ (by simpa [Obj.mapSeq] using e3) fun b x hb ex => ?_⟩
          exact (Heap.get?_update_other _ _ (Ne.symm hb)).trans ((Heap.get?_update_other _ _ (Ne.symm hb)).trans ex)
end

/- MB24 -/
section
variable {c : Cx} {env : Env} {φ φ' ψ : Fz} {m m₀ m' : Mp} {ν νm νr νi ν' : Lg} {h h₁ h' : Heap}
theorem cmp_isNot_t {d : D} {Q : D → Mp → Lg → Prop} (hs : d.sure) (e : d.isNone = false) (q : Q (.bool true) m ν) : Cmp c .IsNot d .none m ν Q := cmp_isNot hs (by rw [e]; exact q)
theorem cmp_isNot_f {Q : D → Mp → Lg → Prop} (q : Q (.bool false) m ν) : Cmp c .IsNot .none .none m ν Q := cmp_isNot trivial q
theorem cmp_is_f {d : D} {Q : D → Mp → Lg → Prop} (hs : d.sure) (e : d.isNone = false) (q : Q (.bool false) m ν) : Cmp c .Is d .none m ν Q := cmp_is hs (by rw [e]; exact q)
theorem cmp_is_t {Q : D → Mp → Lg → Prop} (q : Q (.bool true) m ν) : Cmp c .Is .none .none m ν Q := cmp_is trivial q
end

/- MB25 -/
theorem rep_pt {prog : Program} {w : World} {φ : Fz} : ∀ {vs : List Value} {ds : List D}, vs.length = ds.length → (∀ (i : Nat) v d, vs[i]? = some v → ds[i]? = some d → Rep prog w φ v d) → RepAll prog w φ vs ds
  | [], [], _, _ => .nil
  | v :: vs, d :: ds, hl, h => .cons (h 0 v d rfl rfl) (rep_pt (by simpa using hl) fun i v' d' hv hd => h (i + 1) v' d' (by simpa using hv) (by simpa using hd))
section
variable {c : Cx} {env : Env} {φ φ' ψ : Fz} {m m₀ m' : Mp} {ν νm νr νi ν' : Lg} {h h₁ h' : Heap}
theorem call_fn1r {f : Addr} {name qual : Str} {params : Arguments} {body : List Stmt} {scope : Scope} {dV kV doc pm cdv ct oc : Value} {an od : Option Addr} {osl : Array (Option Value)} {n : Nat} (ps ns : List Str) (x : Str) (gs : List Str) (m₀ : Mp) (od1 : Option D) {ds : List D} {Q : D → Mp → Lg → Prop}
    (ho : c.K.lookup f = some ⟨oc, od, .func (fnOf name qual params body scope dV kV doc pm an cdv ct), osl⟩) (hcd : codeIn c.K cdv qual = true) (ha : AOk c.A (n + 1))
    (hbind : ∀ (vs : List Value), vs.length = ps.length → bindArgs (fnOf name qual params body scope dV kV doc pm an cdv ct) ⟨vs, []⟩ = pure (ps.zip vs))
    (hchk : fnChk scope ps ns [x] gs = true) (hn : ds.length = ps.length) (hm₀ : m₀ = ns.map fun x => (ps.zip ds).lookup x) (h1 : (ps.zip ds).lookup x = od1) (hcl : ∀ k, cellsFrom k scope.names [] = [(x, k)])
    (h : ∀ A' L' env a, AOk A' n → EnvOk (c.in A' L' ns) env → GN env gs → CS env [(x, a)] → Ex (c.in A' L' ns) env body m₀ ((a, .cell od1) :: ν) fun fl _ ν' => Back0 Q m fl ν') :
    CodeD c (.ref f) ds m ν Q := by
  have := call_fn1 (νm := ν) (νr := []) (Q := Q) (m := m) ps ns x gs m₀ od1 ho hcd ha hbind hchk hn hm₀ h1 hcl fun A' L' env a hA E hg hc => (h A' L' env a hA E hg hc).mono fun fl _ ν' ⟨νc, ν₂, p, q⟩ => ⟨νc, ν₂, p, by rw [List.append_nil]; exact q⟩
  rw [List.append_nil] at this; exact this

/-! ## list(range) -/
theorem call_list_rng {a b : Int} {Q : D → Mp → Lg → Prop} (hh : c.A.handled = none) (b1 : -100000 ≤ a ∧ a ≤ 100000) (b2 : -100000 ≤ b ∧ b ≤ 100000) (q : Q (.lst ((rng a b).map .int)) m ν) : CallD c (.type "list") [.range a b] m ν Q := fun φ vs ra s o => by
  cases ra with
  | cons r ra =>
    cases ra
    have rr := r
    cases r with
    | @range r _ _ t1 t2 t3 hr =>
      have hR : IsRange s.heap r a b 1 t1 t2 t3 := o.fz _ _ hr
      have hsmall := small_one (a := a) (b := b) (by omega) (by omega) (by omega) (by omega)
      have hn : Builtin.Range.rangeSize a b 1 = ((b - a).toNat : Int) := by rw [rangeSize_one]; split <;> omega
      refine PySem.call_list_range (n := (b - a).toNat) hh hR hsmall hn (by omega) fun h' tk acc' c' k e hacc => ?_
      obtain ⟨o', st⟩ := o.newObj k (size_none _) e
      refine ⟨h', tk, _, m, ν, _, rfl, o', st, .lst (vs := acc'.toList) (n := c') (by rw [Array.toArray_toList]; exact addF_here) (rep_pt ?_ fun i v d hv hd => ?_), q⟩
      · rw [Array.length_toList, List.length_map, rng_length]; exact hacc.1
      · obtain ⟨t, rfl⟩ := hacc.2 i v (by rw [← Array.getElem?_toList]; exact hv)
        rw [List.getElem?_map] at hd
        unfold rng at hd
        rw [List.getElem?_map] at hd
        cases hq : (List.range (b - a).toNat)[i]? with
        | none => rw [hq] at hd; cases hd
        | some j =>
          rw [hq] at hd
          simp only [Option.map_some, Option.some.injEq] at hd
          obtain ⟨_, rfl⟩ := List.getElem?_eq_some_iff.mp hq
          rw [← hd, List.getElem_range]
          rw [show a + (i : Int) * 1 = a + (i : Int) by omega]
          exact .int _ _

/-! ## sorted(dict) -/
theorem call_sorted_map {d : D} {ks : List Int} {ds : List D} {Q : D → Mp → Lg → Prop} (hh : c.A.handled = none) (l : MapOf' ν d ks ds) (h64 : ks.length < 64) (hs : ks.Pairwise (· < ·)) (q : Q (.lst (ks.map .int)) m ν) : CallD c (.builtin "sorted") [d] m ν Q := fun φ vs ra s o => by
  cases ra with
  | cons r ra =>
    cases ra
    obtain ⟨a, kvs, rfl, lo, hD, rfl, rd⟩ := l.get r o
    obtain ⟨mv, hns, hmv⟩ := o.ns
    obtain ⟨ep, hat⟩ := hD.dictAt
    rw [List.length_map] at h64
    refine kdu_sorted (kdl_dict (knd := intKind c.prog c.w) (kvs := kvs) (ep := ep) lo) hh (fr_of hns) news_of hat (sizeLine_ge (by omega)) fun B h' tk vs F N l1 hl hv => ?_
    have eB : h'.get? B = some (seqObj "list" vs.toArray 0) := (N _ (.head _)).1
    have hI : IntsAre vs (kvs.map (·.1)) := by
      refine rep_ints (prog := c.prog) (w := c.w) (φ := φ) _ (rep_pt (by rw [hl]; simp) fun i v d hv' hd => ?_)
      obtain ⟨k, x, hx, hk⟩ := hv i v hv'
      obtain ⟨t, rfl⟩ := Value.isInt_shape hk
      rw [List.getElem?_map, List.getElem?_map, hx] at hd
      simp only [Option.map_some, Option.some.injEq] at hd
      rw [← hd]; exact .int _ _
    refine wpAny_call_entry PyProof.Rows.slot_list_sort ⟨_, eB, rfl⟩ PyProof.Rows.entry_list_sort (list_sort_tree (n := 0) (vs := vs) eB hI (by omega) fun out ns' hO hp hP => ⟨.none, rfl, ?_⟩) (PyProof.Rows.args_list_sort _)
    obtain ⟨e, he⟩ := sortedHeap_at (out := out) eB
    have hnsE : ns' = kvs.map (·.1) := lks_uniq hp hP (hs.imp fun h => by omega)
    subst hnsE
    have keepA : ∀ b ob, s.heap.get? b = some ob → b ≠ c.L → h'.get? b = some ob := fun b ob e hb => (N (b, ob) (.tail _ (allO_mem.mpr ⟨e, hb⟩))).1
    obtain ⟨o', st⟩ := o.back hmv F.ns keepA
    have nB : s.heap.get? B = none := by
      cases qq : s.heap.get? B with
      | none => rfl
      | some ob =>
        by_cases hBL : B = c.L
        · exact absurd hBL (N _ (.head _)).2.1
        · exact absurd (l1 (B, ob) (allO_mem.mpr ⟨qq, hBL⟩)) (Nat.lt_irrefl B)
    have kept : ∀ b ob, b ≠ B → h'.get? b = some ob → (sortedHeap h' B vs out).get? b = some ob := fun b ob hb e => (sortedHeap_old hb (Heap.lt_size e)).trans e
    have off := o.off nB
    have o2 := o'.touchO off kept
    have st2 : Step c.L φ ν s.heap φ ν (sortedHeap h' B vs out) := st.touch nB kept
    exact ⟨_, tk, _, m, ν, _, rfl, o2.freeze off he, st2.freeze nB, .lst (vs := out.toList) (n := e) (by rw [Array.toArray_toList]; exact addF_here) ((ints_rep hO).up le_addF), q⟩

/-! ## insert at the front -/
theorem gm_insert {a : Addr} {ds : List D} {R : Value → List D → Prop} (hm : (a, MO.lst ds) ∈ ν) (q : R (.builtin "list.insert") [.raw (.ref a)]) : GetM c (.raw (.ref a)) "insert" m ν R := gm_list PySem.F.slot_list_insert PySem.F.type_list_insert (by decide) (.live hm) q
theorem call_insert0 {a : Addr} {ds : List D} {d : D} {Q : D → Mp → Lg → Prop} (u : UpdL ν a (.lst ds) (.lst (d :: ds)) ν') (hl : ds.length < 100000) (q : Q .none m ν') : CallD c (.builtin "list.insert") [.raw (.ref a), .int 0, d] m ν Q := fun φ vs ra s o => by
  cases ra with
  | cons r ra =>
    cases r
    cases ra with
    | cons r ra =>
      cases r with
      | int _ t =>
      cases ra with
      | cons r ra =>
        cases ra
        obtain ⟨aL, ob, e, mr⟩ := o.lg _ u.mem
        cases mr with
        | @lst vs n _ rv =>
          obtain ⟨mv, hns, hmv⟩ := o.ns
          have hN : News { objs := #[] } c.L s.heap ((a, listOf vs.toArray n) :: allBut s.heap c.L a) := fun pr hp => by
            rcases List.mem_cons.mp hp with rfl | hp
            · exact ⟨e, aL, empty_none _⟩
            · obtain ⟨x, y, _⟩ := allBut_mem.mp hp; exact ⟨x, y, empty_none _⟩
          have ap : ∀ p ∈ allBut s.heap c.L a, p.1 ≠ a := fun p hp => (allBut_mem.mp hp).2.2
          refine kl_insert (fr_of hns) hN (by decide) (l := _ :: vs) (by simp [kl_ins]; rfl) (.head ap) (by show vs.length ≤ _; rw [rv.length]; exact sizeLine_ge (by omega)) fun h'' F'' N'' => ?_
          have kp' : ∀ b x, b ≠ a → b ≠ c.L → s.heap.get? b = some x → h''.get? b = some x := fun b x hb hL ex => (N'' (b, x) (List.mem_cons_of_mem _ (allBut_mem.mpr ⟨ex, hL, hb⟩))).1
          obtain ⟨o', st⟩ := o.upd' hmv F''.ns u kp' (N'' _ List.mem_cons_self).1 (.lst (.cons r rv))
          exact ⟨h'', s.toks, φ, m, ν', .none, rfl, o', st, .none, q⟩

/-! ## powers -/
theorem bin_pow {a b : Int} {Q : D → Mp → Lg → Prop} (h0 : 0 ≤ b) (hs : (Builtin.Int.intBits a : Int) * b ≤ 2 ^ 27) (q : Q (.int (a ^ b.toNat)) m ν) : Bin c .Pow (.int a) (.int b) m ν Q := fun φ u v ru rv s o => by
  cases ru; cases rv; exact PyProof.Rows.pow_int h0 hs (Fin.here (tk := s.toks + 1) o (.int _ _) q)
end

/- MB26 -/

/-! ## zip, its tuples kept -/
abbrev zipO (ti to : Addr) (f0 f1 : Value) : Obj := { cls := .type "zip", dict := none, data := .fields #[f0, f1, .bool false, .ref ti, .ref to], slots := #[] }
abbrev prO (a b : Value) : Obj := { cls := .type "tuple", data := .seq #[a, b] }

section
variable {prog : Program} {w : World} {A : Around} {E : Value → Shared → Prop} {s : Shared}
theorem zl_free {z ti to a : Addr} {f : Bool} {oa : Obj} {Q : Bool → Shared → Prop} (hz : s.heap.get? z = some (zipO ti to (rawInt a) (.bool f))) (ha : s.heap.get? a = some oa)
    (h : ∀ h', h'.get? z = some (zipO ti to (rawInt a) (.bool true)) → Heap.SameBut z s.heap h' → Q false { s with heap := h' }) : wpAny (model prog w) A (Builtin.SmallTypes.ownedTupleIsFree (.ref z)) Q E s := by
  unfold Builtin.SmallTypes.ownedTupleIsFree
  refine wpAny_bind (wpAny_field hz rfl (x := rawInt a) rfl ?_)
  show wpAny _ _ (loadIfAlive ((a : Int).toNat) >>= _) _ _ _
  rw [Int.toNat_natCast]
  refine wpAny_bind (kdx_alive ha ?_)
  simp only [Option.isNone_some, Bool.false_eq_true, if_false]
  refine wpAny_bind (wpAny_field hz rfl (x := .bool f) rfl ?_)
  cases f with
  | true =>
    rw [if_neg (show ¬ ((Value.bool true != Value.bool true) = true) from Bool.false_ne_true)]
    exact wpAny_pure (h s.heap hz (Heap.SameBut.refl _ _))
  | false =>
    rw [if_pos (show (Value.bool false != Value.bool true) = true from rfl)]
    exact wpAny_bind (wpAny_setField_rec hz (by simp) fun h' hz' hs' => wpAny_pure (h h' hz' hs'))

theorem zl_item {z ti to i1 i2 l1 l2 a : Addr} {f : Bool} {k1 k2 : Nat} {xs ys : Array Value} {x y : Value} {oa : Obj} {Q : Option Value → Shared → Prop} (D : ZipApart z ti to i1 i2 l1 l2)
    (hz : s.heap.get? z = some (zipO ti to (rawInt a) (.bool f))) (ha : s.heap.get? a = some oa) (hTI : IsPair s.heap ti (.ref i1) (.ref i2))
    (h1 : s.heap.IsListIter i1 l1 k1) (h2 : s.heap.IsListIter i2 l2 k2) (hl1 : s.heap.IsList l1 xs) (hl2 : s.heap.IsList l2 ys) (hx : xs[k1]? = some x) (hy : ys[k2]? = some y)
    (hQ : ∀ h', h'.get? z = some (zipO ti to (rawInt a) (.bool true)) → h'.IsListIter i1 l1 (k1 + 1) → h'.IsListIter i2 l2 (k2 + 1) → IsPair h' s.heap.objs.size x y → h'.objs.size = s.heap.objs.size + 1 →
      (∀ c o, c ≠ z → c ≠ i1 → c ≠ i2 → s.heap.get? c = some o → h'.get? c = some o) → Q (some (.ref s.heap.objs.size)) { s with heap := h' }) :
    wpAny (model prog w) A (pyNext (.ref z)) Q E s := by
  have hT : s.TypeIs (.ref z) "zip" := ⟨_, hz, rfl⟩
  unfold pyNext
  refine wpAny_bind (wpAny_attempt (wpAny_callSpecial?_slot (name := Str.ofString "__next__") hT F.slot_zip_next (wpAny_call_entry F.slot_zip_next hT F.entry_zip_next ?_ (F.args_zip_next_1 _))))
  show wpAny _ _ (field (.ref z) 2 >>= _) _ _ _
  refine wpAny_bind (wpAny_field hz rfl (x := .bool false) rfl ?_)
  show wpAny _ _ (field (.ref z) 3 >>= _) _ _ _
  refine wpAny_bind (wpAny_field hz rfl (x := .ref ti) rfl ?_)
  refine wpAny_bind (wpAny_seqItems hTI rfl ?_)
  show wpAny _ _ (Builtin.SmallTypes.ownedTupleIsFree (.ref z) >>= _) _ _ _
  refine wpAny_bind (zl_free hz ha fun h₁ hz₁ hs₁ => ?_)
  simp only [Bool.false_eq_true, if_false]
  refine wpAny_bind ?_
  simp only [List.forIn_cons, List.forIn_nil, Array.forIn_toList.symm]
  refine wpAny_bind (wpAny_bind (wpAny_holding ?_))
  show wpAny _ _ (Builtin.SmallTypes.nextOf (.ref i1) >>= _) _ _ _
  refine wpAny_bind (wpAny_nextOf_list_item (h1.extBut hs₁.extBut D.i1z) (hl1.extBut hs₁.extBut D.l1z) hx fun h₂ h1₂ hs₂ => wpAny_pure (wpAny_pure ?_))
  refine wpAny_bind (wpAny_bind (wpAny_holding ?_))
  show wpAny _ _ (Builtin.SmallTypes.nextOf (.ref i2) >>= _) _ _ _
  refine wpAny_bind (wpAny_nextOf_list_item ((h2.extBut hs₁.extBut D.i2z).extBut hs₂.extBut D.i12.symm) ((hl2.extBut hs₁.extBut D.l2z).extBut hs₂.extBut D.l2i1) hy fun h₃ h2₃ hs₃ => wpAny_pure (wpAny_pure (wpAny_pure ?_)))
  show wpAny _ _ (newTuple [x, y] >>= _) _ _ _
  refine wpAny_bind (wpAny_newTuple ?_)
  have hsz : h₃.objs.size = s.heap.objs.size := by rw [hs₃.1, hs₂.1, hs₁.1]
  have k3 : ∀ c o, c ≠ z → c ≠ i1 → c ≠ i2 → s.heap.get? c = some o → h₃.get? c = some o := fun c o c1 c2 c3 e => hs₃.extBut _ _ c3 (hs₂.extBut _ _ c2 (hs₁.extBut _ _ c1 e))
  refine wpAny_pure ⟨_, rfl, wpAny_pure ?_⟩
  rw [hsz]
  have hz₃ := hs₃.extBut _ _ D.i2z.symm (hs₂.extBut _ _ D.i1z.symm hz₁)
  refine hQ _ (Heap.get?_push_of_some _ hz₃) ?_ ?_ ?_ ?_ fun c o c1 c2 c3 e => Heap.get?_push_of_some _ (k3 c o c1 c2 c3 e)
  · exact (h1₂.extBut hs₃.extBut D.i12).at fun o e => Heap.get?_push_of_some _ e
  · exact h2₃.at fun o e => Heap.get?_push_of_some _ e
  · rw [← hsz]; exact Heap.get?_push_size _ rfl
  · rw [Heap.size_push, hsz]

theorem zl_done {z ti to i1 i2 l1 l2 a : Addr} {f : Bool} {k1 : Nat} {xs : Array Value} {oa : Obj} {Q : Option Value → Shared → Prop} (hh : A.handled = none) (D : ZipApart z ti to i1 i2 l1 l2)
    (hz : s.heap.get? z = some (zipO ti to (rawInt a) (.bool f))) (ha : s.heap.get? a = some oa) (hTI : IsPair s.heap ti (.ref i1) (.ref i2))
    (h1 : s.heap.IsListIter i1 l1 k1) (hl1 : s.heap.IsList l1 xs) (hx : xs[k1]? = none)
    (hQ : ∀ h', (∀ c o, c ≠ z → c ≠ i1 → s.heap.get? c = some o → h'.get? c = some o) → Q none { s with heap := h' }) :
    wpAny (model prog w) A (pyNext (.ref z)) Q E s := by
  have hT : s.TypeIs (.ref z) "zip" := ⟨_, hz, rfl⟩
  unfold pyNext
  refine wpAny_bind (wpAny_attempt (wpAny_callSpecial?_slot (name := Str.ofString "__next__") hT F.slot_zip_next (wpAny_call_entry F.slot_zip_next hT F.entry_zip_next ?_ (F.args_zip_next_1 _))))
  show wpAny _ _ (field (.ref z) 2 >>= _) _ _ _
  refine wpAny_bind (wpAny_field hz rfl (x := .bool false) rfl ?_)
  show wpAny _ _ (field (.ref z) 3 >>= _) _ _ _
  refine wpAny_bind (wpAny_field hz rfl (x := .ref ti) rfl ?_)
  refine wpAny_bind (wpAny_seqItems hTI rfl ?_)
  show wpAny _ _ (Builtin.SmallTypes.ownedTupleIsFree (.ref z) >>= _) _ _ _
  refine wpAny_bind (zl_free hz ha fun h₁ hz₁ hs₁ => ?_)
  simp only [Bool.false_eq_true, if_false]
  refine wpAny_bind ?_
  simp only [List.forIn_cons, List.forIn_nil, Array.forIn_toList.symm]
  refine wpAny_bind (wpAny_bind (wpAny_holding ?_))
  show wpAny _ _ (Builtin.SmallTypes.nextOf (.ref i1) >>= _) _ _ _
  refine wpAny_bind (wpAny_nextOf_list_end hh (h1.extBut hs₁.extBut D.i1z) (hl1.extBut hs₁.extBut D.l1z) hx fun h₂ e hs₂ he => ?_)
  obtain ⟨oe, hoe, hce⟩ := he
  refine wpAny_bind (wpAny_isInstance (T := "StopIteration") (b := true) ⟨oe, hoe, hce⟩ isSubtype_stop ?_)
  exact wpAny_pure (hQ _ fun c o c1 c2 e => hs₂ _ _ c2 (hs₁.extBut _ _ c1 e))

theorem zl_len : typeLookup (.type "zip") "__len__" = pure none := am_miss_of_fast (by kernel_rfl)
theorem zl_hint : typeLookup (.type "zip") "__length_hint__" = pure none := am_miss_of_fast (by kernel_rfl)
end

section
variable {prog : Program} {w : World} {A : Around} {R : Result → Shared → Prop}
inductive ZlP (h : Heap) (z to i1 i2 S : Addr) (xs ys : Array Value) (j : Nat) (a : Addr) : Prop
  | mk (x y : Value) (e1 : xs[j]? = some x) (e2 : ys[j]? = some y) (e3 : IsPair h a x y) (a1 : a ≠ z) (a2 : a ≠ to) (a3 : a ≠ i1) (a4 : a ≠ i2) (a5 : S < a)
inductive ZlZ (h : Heap) (z ti to : Addr) (as : List Addr) (i : Nat) : Prop
  | inl (h0 : i = 0) (hz : h.get? z = some (zipO ti to .none (.bool false)))
  | inr (a : Addr) (f : Bool) (ha : a ∈ as) (hz : h.get? z = some (zipO ti to (rawInt a) (.bool f)))
structure ZlSt (h : Heap) (z ti to i1 i2 l1 l2 S : Addr) (xs ys : Array Value) (as : List Addr) (i : Nat) : Prop where
  hz : ZlZ h z ti to as i
  hTI : IsPair h ti (.ref i1) (.ref i2)
  hTO : ∃ a b, IsPair h to a b
  h1 : h.IsListIter i1 l1 i
  h2 : h.IsListIter i2 l2 i
  hl1 : h.IsList l1 xs
  hl2 : h.IsList l2 ys
  len : as.length = i
  ls : ∃ n, h.get? S = some (listOf (as.map Value.ref).toArray n)
  pr : ∀ (j : Nat) (a : Addr), as[j]? = some a → ZlP h z to i1 i2 S xs ys j a
theorem zl_loop {z ti to i1 i2 l1 l2 S : Addr} {xs ys : Array Value} (hh : A.handled = none) (D : ZipApart z ti to i1 i2 l1 l2) (dS : S ≠ z ∧ S ≠ ti ∧ S ≠ to ∧ S ≠ i1 ∧ S ≠ i2 ∧ S ≠ l1 ∧ S ≠ l2) (hn : xs.size = ys.size) (hl : xs.size ≤ 100000) (res : Value) :
    ∀ (k i : Nat) (s : Shared) (as : List Addr), xs.size - i = k → i ≤ xs.size → ZlSt s.heap z ti to i1 i2 l1 l2 S xs ys as i →
      (∀ h' tk (as' : List Addr), as'.length = xs.size → (∃ n, h'.get? S = some (listOf (as'.map Value.ref).toArray n)) → (∀ (j : Nat) (a : Addr), as'[j]? = some a → ∃ x y, xs[j]? = some x ∧ ys[j]? = some y ∧ IsPair h' a x y ∧ S < a) →
        (∀ c o, c ≠ z → c ≠ to → c ≠ i1 → c ≠ i2 → c ≠ S → s.heap.get? c = some o → h'.get? c = some o) → R (.ok (.ret res)) { s with heap := h', toks := tk }) →
      codeAny (model prog w) A (.builtin "list.extend.loop" ⟨[.ref S, .ref z, res], []⟩) R s := by
  obtain ⟨dz, dti, dto, d1, d2, dl1, dl2⟩ := dS
  intro k
  induction k with
  | zero =>
    intro i s as hk hi st hR
    have hin : i = xs.size := Nat.le_antisymm hi (Nat.le_of_sub_eq_zero hk)
    subst hin
    refine codeAny_builtin F.entry_extend_loop ?_
    rw [Around.under_plainId F.plain_extend_loop _]
    show wpAny _ A.in1 (pyNext (.ref z) >>= _) _ _ s
    have hx : xs[xs.size]? = none := Array.getElem?_eq_none (Nat.le_refl _)
    have fin : ∀ h', (∀ c o, c ≠ z → c ≠ to → c ≠ i1 → c ≠ i2 → s.heap.get? c = some o → h'.get? c = some o) → R (.ok (.ret res)) { s with heap := h' } := fun h' kp => by
      obtain ⟨n, hS⟩ := st.ls
      refine hR h' s.toks as st.len ⟨n, kp _ _ dz dto d1 d2 hS⟩ (fun j a hj => ?_) fun c o a b c d _ e => kp _ _ a b c d e
      obtain ⟨x, y, e1, e2, e3, a1, a2, a3, a4, a5⟩ := st.pr j a hj
      exact ⟨x, y, e1, e2, kp _ _ a1 a2 a3 a4 e3, a5⟩
    rcases st.hz with ⟨_, hz⟩ | ⟨a, f, ha, hz⟩
    · obtain ⟨a, b, hTO⟩ := st.hTO
      refine wpAny_bind (wpAny_pyNext_zip_end hh D hz st.hTI hTO st.h1 st.h2 st.hl1 st.hl2 (.inl hx) fun h' kp => ?_)
      exact wpAny_pure (fin h' kp)
    · obtain ⟨j, hj⟩ := List.mem_iff_getElem?.mp ha
      obtain ⟨x, y, _, _, e3, a1, _, _, _, _⟩ := st.pr j a hj
      refine wpAny_bind (zl_done hh D hz e3 st.hTI st.h1 st.hl1 hx fun h' kp => ?_)
      exact wpAny_pure (fin h' fun c o a _ b _ e => kp c o a b e)
  | succ k ih =>
    intro i s as hk hi st hR
    have hlt : i < xs.size := Nat.lt_of_sub_eq_succ hk
    refine codeAny_builtin F.entry_extend_loop ?_
    rw [Around.under_plainId F.plain_extend_loop _]
    show wpAny _ A.in1 (pyNext (.ref z) >>= _) _ _ s
    have hx : xs[i]? = some xs[i] := Array.getElem?_eq_getElem hlt
    have hy : ys[i]? = some (ys[i]'(hn ▸ hlt)) := Array.getElem?_eq_getElem _
    generalize xs[i] = x at hx
    generalize ys[i]'(hn ▸ hlt) = y at hy
    obtain ⟨ta, tb, hTO⟩ := st.hTO
    have lt : ∀ {c o}, s.heap.get? c = some o → s.heap.objs.size ≠ c := fun e => Nat.ne_of_gt (Heap.lt_size e)
    obtain ⟨n, hS⟩ := st.ls
    have zb : ∃ o, s.heap.get? z = some o := by rcases st.hz with ⟨_, hz⟩ | ⟨a, f, ha, hz⟩ <;> exact ⟨_, hz⟩
    obtain ⟨oz, hoz⟩ := zb
    have n1 : s.heap.objs.size ≠ i1 := by obtain ⟨_, e, _⟩ := st.h1; exact lt e
    have n2 : s.heap.objs.size ≠ i2 := by obtain ⟨_, e, _⟩ := st.h2; exact lt e
    have go : ∀ (h' : Heap) (f : Addr), h'.get? z = some (zipO ti to (rawInt ((if i = 0 then s.heap.objs.size else f : Addr) : Nat)) (.bool (decide (i ≠ 0)))) → (i ≠ 0 → f ∈ as) → h'.IsListIter i1 l1 (i + 1) → h'.IsListIter i2 l2 (i + 1) → IsPair h' s.heap.objs.size x y →
        (∀ c o, c ≠ z → c ≠ to → c ≠ i1 → c ≠ i2 → s.heap.get? c = some o → h'.get? c = some o) → (∃ a b, IsPair h' to a b) →
        wpAny (model prog w) A.in1 (do updateSeq S (·.push (.ref s.heap.objs.size)); again (.builtin "list.extend.loop" ⟨[.ref S, .ref z, res], []⟩))
          (fun fin s' => match fin with | .done f => R (.ok f) s' | .again c' => c'.quiet = true ∧ codeAny (model prog w) A c' R s') (fun e s' => R (.error e) s') { s with heap := h' } := by
      intro h' f hz' hf h1' h2' hp' kp hTO'
      have hS' := kp _ _ dz dto d1 d2 hS
      refine wpAny_bind ?_
      have hal : (as.map Value.ref).toArray.size = i := by rw [List.size_toArray, List.length_map, st.len]
      refine wpAny_updateSeq hS' rfl ?_ (by rw [hal]; exact sizeLine_ge (Nat.le_trans hi hl)) (by rw [Array.size_push, hal]; exact Nat.succ_le_succ (sizeLine_ge (Nat.le_trans hi hl)))
      obtain ⟨n2', hk2⟩ := listOf_update (f := (·.push (.ref s.heap.objs.size))) hS'
      have hs := Heap.SameBut.update h' S (Obj.mapSeq (·.push (Value.ref s.heap.objs.size)))
      have up : ∀ c o, c ≠ S → h'.get? c = some o → (h'.update S (Obj.mapSeq (·.push (Value.ref s.heap.objs.size)))).get? c = some o := fun c o hc e => (hs.2 c hc).trans e
      refine wpAny_pure ⟨plainId_quiet F.plain_extend_loop _, ih (i + 1) _ (as ++ [s.heap.objs.size]) (by rw [Nat.sub_succ, hk]; rfl) hlt ?_ fun h3 tk3 as3 l3 s3 p3 k3 => hR h3 tk3 as3 l3 s3 p3 fun c o c1 c2 c3 c4 c5 e => k3 c o c1 c2 c3 c4 c5 (up _ _ c5 (kp c o c1 c2 c3 c4 e))⟩
      have S1 : s.heap.objs.size ≠ S := lt hS
      refine ⟨.inr (if i = 0 then s.heap.objs.size else f) (decide (i ≠ 0)) ?_ (up _ _ (Ne.symm dz) hz'), ?_, ?_, h1'.at fun o e => up _ o (Ne.symm d1) e, h2'.at fun o e => up _ o (Ne.symm d2) e, ?_, ?_, ?_, ⟨n2', ?_⟩, ?_⟩
      · by_cases h0 : i = 0
        · simp [h0]
        · simp [h0, hf h0]
      · exact up _ _ (Ne.symm dti) (kp _ _ D.TIz D.TITO D.TIi1 D.TIi2 st.hTI)
      · obtain ⟨a, b, e⟩ := hTO'; exact ⟨a, b, up _ _ (Ne.symm dto) e⟩
      · exact st.hl1.at fun o e => up _ _ (Ne.symm dl1) (kp _ _ D.l1z D.l1TO D.l1i1 D.l1i2 e)
      · exact st.hl2.at fun o e => up _ _ (Ne.symm dl2) (kp _ _ D.l2z D.l2TO D.l2i1 D.l2i2 e)
      · rw [List.length_append, st.len]; rfl
      · rw [hk2]; simp
      · intro j a hj
        rcases Nat.lt_trichotomy j as.length with q | q | q
        · rw [List.getElem?_append_left q] at hj
          obtain ⟨x', y', e1, e2, e3, a1, a2, a3, a4, a5⟩ := st.pr j a hj
          exact ⟨x', y', e1, e2, up _ _ (Nat.ne_of_gt a5) (kp _ _ a1 a2 a3 a4 e3), a1, a2, a3, a4, a5⟩
        · subst q
          have hb : s.heap.objs.size = a := by simpa using hj
          subst hb
          exact ⟨x, y, by rw [st.len]; exact hx, by rw [st.len]; exact hy, up _ _ S1 hp', lt hoz, lt hTO, n1, n2, Heap.lt_size hS⟩
        · rw [List.getElem?_eq_none (by rw [List.length_append]; exact q)] at hj; exact none_ne hj
    rcases st.hz with ⟨h0, hz⟩ | ⟨a, f, ha, hz⟩
    · refine wpAny_bind (wpAny_pyNext_zip_item D hz st.hTI hTO st.h1 st.h2 st.hl1 st.hl2 hx hy fun h' a1 a2 a3 a4 a5 a6 kp => ?_)
      exact go h' 0 (by rw [if_pos h0, show decide (i ≠ 0) = false by simp [h0]]; exact a1) (fun h => absurd h0 h) a3 a4 a5 kp ⟨_, _, a2⟩
    · obtain ⟨j, hj⟩ := List.mem_iff_getElem?.mp ha
      have hi0 : i ≠ 0 := fun h0 => by have := st.len; rw [h0, List.length_eq_zero_iff] at this; subst this; simp at ha
      obtain ⟨_, _, _, _, e3, a1, _, _, _, _⟩ := st.pr j a hj
      refine wpAny_bind (zl_item D hz e3 st.hTI st.h1 st.h2 st.hl1 st.hl2 hx hy fun h' a1 a3 a4 a5 a6 kp => ?_)
      refine go h' a (by rw [if_neg hi0, show decide (i ≠ 0) = true by simp [hi0]]; exact a1) (fun _ => ha) a3 a4 a5 (fun c o c1 _ c3 c4 e => kp c o c1 c3 c4 e) ⟨_, _, kp _ _ D.TOz D.TOi1 D.TOi2 hTO⟩
end

/- MB27 -/
section
variable {c : Cx} {env : Env} {φ φ' ψ : Fz} {m m₀ m' : Mp} {ν νm νr νi ν' : Lg} {h h₁ h' : Heap}
theorem Off.cons {L D a : Addr} {mo : MO} (x : Off L φ ν D) (h : a ≠ D) : Off L φ ((a, mo) :: ν) D :=
  ⟨x.l, x.f, fun p hp => by rcases List.mem_cons.mp hp with rfl | hp; exact h; exact x.n p hp⟩
abbrev zipL (z ti to i1 i2 : Addr) (xs ys : List D) : Lg := [(z, .raw (zipO ti to .none (.bool false))), (ti, .raw (prO (.ref i1) (.ref i2))), (to, .raw (prO .none .none)), (i1, .iter xs 0), (i2, .iter ys 0)]
theorem none_above {a : Addr} (h : Heap) (ha : h.objs.size ≤ a) : h.get? a = none := by
  cases q : h.get? a with
  | none => rfl
  | some ob => exact absurd (Heap.lt_size q) (Nat.not_lt.mpr ha)
theorem call_zip {xs ys : List D} {Q : D → Mp → Lg → Prop} (q : ∀ z ti to i1 i2, Q (.raw (.ref z)) m (zipL z ti to i1 i2 xs ys ++ ν)) : CallD c (.type "zip") [.lst xs, .lst ys] m ν Q := fun φ vs ra s o => by
  cases ra with
  | cons r1 ra =>
    cases ra with
    | cons r2 ra =>
      cases ra
      cases r1 with
      | @lst l1 v1 n1 _ a1 b1 =>
        cases r2 with
        | @lst l2 v2 n2 _ a2 b2 =>
          refine call_zip_2 (isList_of (o.fz _ _ a1)) (isList_of (o.fz _ _ a2)) fun h' hz hTI hTO it1 it2 hsz kp => ?_
          obtain ⟨o1, g1, c1, d1⟩ := it1
          obtain ⟨o2, g2, c2, d2⟩ := it2
          have nn : ∀ k, s.heap.get? (s.heap.objs.size + k) = none := fun k => none_above _ (Nat.le_add_right _ _)
          have of : ∀ k, Off c.L φ ν (s.heap.objs.size + k) := fun k => o.off (nn k)
          have ne : ∀ {a b : Nat}, a ≠ b → s.heap.objs.size + a ≠ s.heap.objs.size + b := fun h e => h (Nat.add_left_cancel e)
          have ok := o.grow kp
          have st : Step c.L φ ν s.heap φ ν h' := Step.grow kp
          have ok1 := ok.push (of 1) g2 (.iter a2 b2 c2 d2 : MRep c.prog c.w φ o2 (.iter ys 0))
          have ok2 := ok1.push ((of 0).cons (ne (by decide))) g1 (.iter a1 b1 c1 d1 : MRep c.prog c.w φ o1 (.iter xs 0))
          have ok3 := ok2.push (((of 3).cons (ne (by decide))).cons (ne (by decide))) hTO (.raw _)
          have ok4 := ok3.push ((((of 2).cons (ne (by decide))).cons (ne (by decide))).cons (ne (by decide))) hTI (.raw _)
          have ok5 := ok4.push (((((of 4).cons (ne (by decide))).cons (ne (by decide))).cons (ne (by decide))).cons (ne (by decide))) hz (.raw _)
          exact ⟨h', s.toks, φ, m, _, .raw (.ref (s.heap.objs.size + 4)), rfl, ok5, ((((st.push (nn 1)).push (nn 0)).push (nn 3)).push (nn 2)).push (nn 4), .raw _, q _ _ _ _ _⟩
theorem Ok.but {P : Addr → Prop} (o : Ok c φ m ν h) (hL : ¬P c.L) (hF : ∀ a x, φ a x → ¬P a) (hN : ∀ p ∈ ν, ¬P p.1) (k : ∀ b x, ¬P b → h.get? b = some x → h'.get? b = some x) : Ok c φ m ν h' where
  nsd := o.nsd
  ns := let ⟨mv, a, b⟩ := o.ns; ⟨mv, a.at' fun ob e => k _ ob hL e, b⟩
  fz := fun a ob e => k _ _ (hF _ _ e) (o.fz _ _ e)
  fzL := o.fzL
  fzN := o.fzN
  lg := fun p hp => let ⟨a, ob, b, r⟩ := o.lg p hp; ⟨a, ob, k _ _ (hN p hp) b, r⟩
  nd := o.nd
  gd := o.gd
def orF (φ ξ : Fz) : Fz := fun a o => φ a o ∨ ξ a o
theorem Ok.freezeAll {ξ : Fz} (o : Ok c φ m ν h) (x : ∀ a ob, ξ a ob → Off c.L φ ν a ∧ h.get? a = some ob) : Ok c (orF φ ξ) m ν h :=
  have le : Le φ (orF φ ξ) := fun _ _ e => .inl e
  { nsd := o.nsd
    ns := let ⟨mv, a, b⟩ := o.ns; ⟨mv, a, fun i y d hy hd => let ⟨v, p, r⟩ := b i y d hy hd; ⟨v, p, r.up le⟩⟩
    fz := fun a ob e => by rcases e with e | e; exact o.fz _ _ e; exact (x _ _ e).2
    fzL := fun a ob e => by rcases e with e | e; exact o.fzL _ _ e; exact Ne.symm (x _ _ e).1.l
    fzN := fun a ob e p hp => by rcases e with e | e; exact o.fzN _ _ e p hp; exact (x _ _ e).1.n p hp
    lg := fun p hp => let ⟨a, ob, b, r⟩ := o.lg p hp; ⟨a, ob, b, r.up le⟩
    nd := o.nd
    gd := o.gd.up le }
theorem Step.freezeAll {L : Addr} {ξ : Fz} {φ₀ : Fz} {ν₀ : Lg} {h₀ : Heap} (s : Step L φ₀ ν₀ h₀ φ ν h) (e : ∀ a ob, ξ a ob → h₀.get? a = none) : Step L φ₀ ν₀ h₀ (orF φ ξ) ν h :=
  ⟨s.keep, fun a o x => .inl (s.mono a o x), fun a o x => by rcases x with x | x; exact s.newφ a o x; exact .inr (.inr (e _ _ x)), s.newν⟩
theorem call_list_zip {z ti to i1 i2 : Addr} {xs ys : List D} {Q : D → Mp → Lg → Prop} (hh : c.A.handled = none) (hn : xs.length = ys.length) (hl : xs.length ≤ 1000) (q : Q (.lst ((xs.zip ys).map fun p => .tup [p.1, p.2])) m ν) :
    CallD c (.type "list") [.raw (.ref z)] m (zipL z ti to i1 i2 xs ys ++ ν) Q := fun φ vs ra s o => by
  cases ra with
  | cons r ra =>
    cases ra; cases r
    have pz : (z, MO.raw (zipO ti to .none (.bool false))) ∈ zipL z ti to i1 i2 xs ys ++ ν := (List.Mem.head _)
    have pt : (to, MO.raw (prO .none .none)) ∈ zipL z ti to i1 i2 xs ys ++ ν := (List.Mem.tail _ <| List.Mem.tail _ <| List.Mem.head _)
    have p1 : (i1, MO.iter xs 0) ∈ zipL z ti to i1 i2 xs ys ++ ν := (List.Mem.tail _ <| List.Mem.tail _ <| List.Mem.tail _ <| List.Mem.head _)
    have p2 : (i2, MO.iter ys 0) ∈ zipL z ti to i1 i2 xs ys ++ ν := (List.Mem.tail _ <| List.Mem.tail _ <| List.Mem.tail _ <| List.Mem.tail _ <| List.Mem.head _)
    have nd := o.nd
    obtain ⟨zL, oz, ez, mz⟩ := o.lg _ (List.mem_cons_self)
    obtain ⟨tiL, oti, eti, mti⟩ := o.lg (ti, .raw (prO (.ref i1) (.ref i2))) (List.Mem.tail _ <| List.Mem.head _)
    obtain ⟨toL, oto, eto, mto⟩ := o.lg (to, .raw (prO .none .none)) (List.Mem.tail _ <| List.Mem.tail _ <| List.Mem.head _)
    obtain ⟨i1L, oi1, ei1, mi1⟩ := o.lg (i1, .iter xs 0) (List.Mem.tail _ <| List.Mem.tail _ <| List.Mem.tail _ <| List.Mem.head _)
    obtain ⟨i2L, oi2, ei2, mi2⟩ := o.lg (i2, .iter ys 0) (List.Mem.tail _ <| List.Mem.tail _ <| List.Mem.tail _ <| List.Mem.tail _ <| List.Mem.head _)
    cases mz; cases mti; cases mto
    cases mi1 with
    | @iter l1 v1 n1 _ _ _ a1 b1 c1 d1 =>
    cases mi2 with
    | @iter l2 v2 n2 _ _ _ a2 b2 c2 d2 =>
    have lg1 : ∀ p ∈ zipL z ti to i1 i2 xs ys ++ ν, p.1 ≠ l1 := fun p hp => o.fzN _ _ a1 p hp
    have lg2 : ∀ p ∈ zipL z ti to i1 i2 xs ys ++ ν, p.1 ≠ l2 := fun p hp => o.fzN _ _ a2 p hp
    have nd1 := List.nodup_cons.mp (show (z :: ti :: to :: i1 :: i2 :: ν.map (·.1)).Nodup from nd)
    have nd2 := List.nodup_cons.mp nd1.2
    have nd3 := List.nodup_cons.mp nd2.2
    have nd4 := List.nodup_cons.mp nd3.2
    have nd5 := List.nodup_cons.mp nd4.2
    have nx : ∀ {a b : Addr} {l : List Addr}, a ∉ b :: l → ¬a = b := fun h q => h (q ▸ List.mem_cons_self)
    have ny : ∀ {a b : Addr} {l : List Addr}, a ∉ b :: l → a ∉ l := fun h q => h (List.mem_cons_of_mem _ q)
    have z1 := nx nd1.1
    have z2 := nx (ny nd1.1)
    have z3 := nx (ny (ny nd1.1))
    have z4 := nx (ny (ny (ny nd1.1)))
    have z5 := ny (ny (ny (ny nd1.1)))
    have t1 := nx nd2.1
    have t2 := nx (ny nd2.1)
    have t3 := nx (ny (ny nd2.1))
    have u1 := nx nd3.1
    have u2 := nx (ny nd3.1)
    have u3 := ny (ny nd3.1)
    have j1 := nx nd4.1
    have j2 := ny nd4.1
    have j3 := nd5.1
    have AP : ZipApart z ti to i1 i2 l1 l2 := ⟨Ne.symm z1, Ne.symm z2, Ne.symm z3, Ne.symm z4, t1, t2, t3, u1, u2, j1, (lg1 _ pz).symm, (lg1 _ pt).symm, (lg1 _ p1).symm, (lg1 _ p2).symm,
      (lg2 _ pz).symm, (lg2 _ pt).symm, (lg2 _ p1).symm, (lg2 _ p2).symm⟩
    have lv1 := b1.length
    have lv2 := b2.length
    refine callType_codes (Q₁ := fun obj s₁ => obj = .ref s.heap.objs.size ∧ s₁ = { s with heap := s.heap.push { cls := .type "list", data := .seq #[] } }) F.called_list (F.typeCall_list_1 _) F.entry_list_init (code_list_new _ ⟨rfl, rfl⟩) fun obj s₁ h₁ => ?_
    obtain ⟨rfl, rfl⟩ := h₁
    generalize hS : s.heap.objs.size = S
    have lt : ∀ {a o}, s.heap.get? a = some o → S ≠ a := fun e q => by have := Heap.lt_size e; rw [hS, q] at this; exact Nat.lt_irrefl _ this
    have eS : (s.heap.push { cls := .type "list", data := .seq #[] }).get? S = some { cls := .type "list", data := .seq #[] } := hS ▸ Heap.get?_push_size _ rfl
    have k1 : ∀ b x, s.heap.get? b = some x → (s.heap.push { cls := .type "list", data := .seq #[] }).get? b = some x := fun b x e => Heap.get?_push_of_some _ e
    generalize s.heap.push { cls := .type "list", data := .seq #[] } = h1 at eS k1 ⊢
    refine ⟨⟨_, eS, rfl⟩, F.args_list_init_2 _ _, ?_⟩
    show wpAny _ _ (do let old ← Builtin.List.listItems (.ref S); Builtin.List.listUpdate (.ref S) (fun _ => #[]); letGo old.toList.reverse; Builtin.List.listExtendWith (.ref S) (.ref z) .none) _ _ _
    refine wpAny_bind ?_
    unfold Builtin.List.listItems
    refine wpAny_bind (wpAny_seqItems eS rfl (wpAny_pure ?_))
    show wpAny _ _ (updateSeq S (fun _ => #[]) >>= fun _ => letGo (#[] : Array Value).toList.reverse >>= fun _ => Builtin.List.listExtendWith (.ref S) (.ref z) .none) _ _ _
    refine wpAny_bind (wpAny_updateSeq eS rfl ?_)
    have eS2 := Heap.get?_update_self (Obj.mapSeq (fun _ => (#[] : Array Value))) eS rfl
    have k2 : ∀ b x, s.heap.get? b = some x → (h1.update S (Obj.mapSeq (fun _ => (#[] : Array Value)))).get? b = some x := fun b x e => (Heap.get?_update_other _ _ (lt e)).trans (k1 b x e)
    generalize h1.update S (Obj.mapSeq (fun _ => (#[] : Array Value))) = h2 at eS2 k2 ⊢
    refine wpAny_bind (wpAny_letGo ?_)
    have hT : Shared.TypeIs { s with heap := h2 } (.ref z) "zip" := ⟨_, k2 _ _ ez, rfl⟩
    unfold Builtin.List.listExtendWith
    refine wpAny_bind (wpAny_typeOf hT ?_)
    have g1 : Builtin.List.listSameRef (.ref S) (.ref z) = false := by simp [Builtin.List.listSameRef, lt ez]
    have g2 : (Value.type "zip" == Value.type "list") = false := by decide
    have g3 : (Value.type "zip" == Value.type "tuple") = false := by decide
    simp only [g1, g2, g3, Bool.or_false, Bool.false_eq_true, if_false]
    refine wpAny_bind (wpAny_pyIter_zip (k2 _ _ ez) ?_)
    refine wpAny_bind (wpAny_holding ?_)
    unfold Builtin.List.listLengthHint
    refine wpAny_bind (wpAny_specialOf hT zl_len ?_)
    show wpAny _ _ (specialOf (Value.ref z) (Str.ofString "__length_hint__") >>= _) _ _ _
    refine wpAny_bind (wpAny_specialOf hT zl_hint ?_)
    refine wpAny_pure ?_
    show wpAny _ _ (rule "list.extend.makes-room" >>= fun _ => Builtin.List.listTouch (.ref S) >>= fun _ => again (.builtin "list.extend.loop" ⟨[.ref S, .ref z, .none], []⟩)) _ _ _
    refine wpAny_bind (wpAny_rule ?_)
    refine wpAny_bind ?_
    show wpAny _ _ (updateSeq S (·.push .none) >>= fun _ => updateSeq S (·.pop)) _ _ _
    refine wpAny_bind (wpAny_updateSeq eS2 rfl ?_)
    have eS3 := Heap.get?_update_self (Obj.mapSeq (·.push Value.none)) eS2 rfl
    refine wpAny_updateSeq (hz := by seq_fits) eS3 rfl ?_
    have eS4 := Heap.get?_update_self (Obj.mapSeq (·.pop)) eS3 rfl
    have k4 : ∀ b x, s.heap.get? b = some x → ((h2.update S (Obj.mapSeq (·.push Value.none))).update S (Obj.mapSeq (·.pop))).get? b = some x := fun b x e => (Heap.get?_update_other _ _ (lt e)).trans ((Heap.get?_update_other _ _ (lt e)).trans (k2 b x e))
    generalize (h2.update S (Obj.mapSeq (·.push Value.none))).update S (Obj.mapSeq (·.pop)) = h4 at eS4 k4 ⊢
    refine wpAny_pure ⟨plainId_quiet F.plain_extend_loop _, zl_loop (A := c.A.in1) (xs := v1.toArray) (ys := v2.toArray) hh AP ⟨lt ez, lt eti, lt eto, lt ei1, lt ei2, lt (o.fz _ _ a1), lt (o.fz _ _ a2)⟩ (by simp; omega) (by simp; omega) .none _ 0 _ [] rfl (Nat.zero_le _)
      ⟨.inl rfl (k4 _ _ ez), k4 _ _ eti, ⟨_, _, k4 _ _ eto⟩, ⟨_, k4 _ _ ei1, c1, d1⟩, ⟨_, k4 _ _ ei2, c2, d2⟩, isList_of (k4 _ _ (o.fz _ _ a1)), isList_of (k4 _ _ (o.fz _ _ a2)), rfl, ⟨_, eS4⟩, fun j a hj => by simp at hj⟩ fun h' tk as hal hS' hpr kp => ?_⟩
    obtain ⟨k, eS'⟩ := hS'
    refine ⟨rfl, ?_⟩
    let P : Addr → Prop := fun a => a = z ∨ a = to ∨ a = i1 ∨ a = i2 ∨ a = S
    have kP : ∀ b x, ¬P b → s.heap.get? b = some x → h'.get? b = some x := fun b x hb e => by
      simp only [P, not_or] at hb
      exact kp b x hb.1 hb.2.1 hb.2.2.1 hb.2.2.2.1 hb.2.2.2.2 (k4 b x e)
    have notS : ∀ {a x}, s.heap.get? a = some x → (a = S → False) := fun e q => lt e q.symm
    have nnS : ∀ a, S ≤ a → s.heap.get? a = none := fun a ha => none_above _ (hS ▸ ha)
    have od : Ok c φ m ν s.heap := o.drop (νi := zipL z ti to i1 i2 xs ys)
    obtain ⟨mv, hns, hmv⟩ := o.ns
    obtain ⟨oL, hoL⟩ := Ns_ex hns
    have ok : Ok c φ m ν h' := od.but (P := P) (by rintro (q | q | q | q | q); exact zL q.symm; exact toL q.symm; exact i1L q.symm; exact i2L q.symm; exact notS hoL q)
      (fun a x e => by rintro (q | q | q | q | q); exact o.fzN _ _ e _ pz q.symm; exact o.fzN _ _ e _ pt q.symm; exact o.fzN _ _ e _ p1 q.symm; exact o.fzN _ _ e _ p2 q.symm; exact notS (o.fz _ _ e) q)
      (fun p hp => by
        have hm : p.1 ∈ ν.map (·.1) := List.mem_map_of_mem hp
        obtain ⟨_, x, e, _⟩ := od.lg p hp
        rintro (q | q | q | q | q)
        · exact z5 (q ▸ hm)
        · exact u3 (q ▸ hm)
        · exact j2 (q ▸ hm)
        · exact j3 (q ▸ hm)
        · exact notS e q) kP
    have st : Step c.L φ (zipL z ti to i1 i2 xs ys ++ ν) s.heap φ ν h' := ⟨fun a x e aL aN => kP a x (by rintro (q | q | q | q | q); exact aN _ pz q.symm; exact aN _ pt q.symm; exact aN _ p1 q.symm; exact aN _ p2 q.symm; exact notS e q) e, fun _ _ e => e, fun _ _ e => .inl e, fun p hp => .inl ⟨p, List.mem_append_right _ hp, rfl⟩⟩
    let ξ : Fz := fun a ob => (a = S ∧ ob = listOf (as.map Value.ref).toArray k) ∨ ∃ (j : Nat) (x y : Value), as[j]? = some a ∧ v1[j]? = some x ∧ v2[j]? = some y ∧ ob = tupOf #[x, y] 0
    have hξ : ∀ a ob, ξ a ob → S ≤ a ∧ h'.get? a = some ob := fun a ob e => by
      rcases e with ⟨rfl, rfl⟩ | ⟨j, x, y, e1, e2, e3, rfl⟩
      · exact ⟨Nat.le_refl _, eS'⟩
      · obtain ⟨x', y', f1, f2, f3, f4⟩ := hpr j a e1
        rw [List.getElem?_toArray] at f1 f2
        rw [e2] at f1; rw [e3] at f2; cases f1; cases f2
        exact ⟨Nat.le_of_lt f4, f3⟩
    refine ⟨h', tk, orF φ ξ, m, ν, _, rfl, ok.freezeAll (ξ := ξ) (fun a ob e => ⟨od.off (nnS a (hξ a ob e).1), (hξ a ob e).2⟩), st.freezeAll (fun a ob e => nnS a (hξ a ob e).1), .lst (n := k) (vs := as.map Value.ref) (.inr (.inl ⟨rfl, rfl⟩)) (rep_pt ?_ fun i v d hv hd => ?_), q⟩
    · rw [List.length_map, List.length_map, List.length_zip, hal, List.size_toArray]; omega
    · rw [List.getElem?_map] at hv hd
      cases ha : as[i]? with
      | none => rw [ha] at hv; cases hv
      | some a =>
      rw [ha] at hv
      simp only [Option.map_some, Option.some.injEq] at hv
      subst hv
      obtain ⟨x, y, f1, f2, f3, f4⟩ := hpr i a ha
      rw [List.getElem?_toArray] at f1 f2
      obtain ⟨dx, gx, rx⟩ := b1.getV f1
      obtain ⟨dy, gy, ry⟩ := b2.getV f2
      have hz : (xs.zip ys)[i]? = some (dx, dy) := by rw [List.getElem?_zip_eq_some]; exact ⟨gx, gy⟩
      rw [hz] at hd
      simp only [Option.map_some, Option.some.injEq] at hd
      subst hd
      have le : Le φ (orF φ ξ) := fun _ _ e => .inl e
      exact .tup (n := 0) (vs := [x, y]) (.inr (.inr ⟨i, x, y, ha, f1, f2, rfl⟩)) (.cons (rx.up le) (.cons (ry.up le) .nil))
end

/- G1 -/

theorem fill : PySem.Challenge.rw_nz0312_01 = PySem.Challenge.rw_nz0312_01 ∧ t0.heap_1_1 = t0.heap_1_1 := by
  k_fill
  exact ⟨rfl, rfl⟩

abbrev Kx (c : Cx) : Prop := c.K = t0.heap_1_1 c.w.params

section
variable {c : Cx}
theorem gd_blt {x : Str} {v : Value} (h1 : nsIn c.K mainGlobals x = some none) (h2 : bootBuiltins x = some v) (h3 : x ≠ "__name__") : GD c.K c x (.raw v) := ⟨v, fun _ => .raw _, .inr ⟨h1, h2, h3⟩⟩
theorem gd_glob {x : Str} {v : Value} (h1 : nsIn c.K mainGlobals x = some (some v)) : GD c.K c x (.raw v) := ⟨v, fun _ => .raw _, .inl h1⟩
theorem kp_of {K K' : Frag} {f : Value} (h : K = K') (g : keepIn K' f = true) : Kp K f := .own (h ▸ g)
theorem g_len (hK : Kx c) : GD c.K c "len" (.raw (.builtin "len")) := gd_blt (by rw [hK]; k_is) (by first | rfl | decide +kernel) (by decide)
theorem g_range (hK : Kx c) : GD c.K c "range" (.raw (.type "range")) := gd_blt (by rw [hK]; k_is) (by first | rfl | decide +kernel) (by decide)
theorem g_sorted (hK : Kx c) : GD c.K c "sorted" (.raw (.builtin "sorted")) := gd_blt (by rw [hK]; k_is) (by first | rfl | decide +kernel) (by decide)
theorem g_list (hK : Kx c) : GD c.K c "list" (.raw (.type "list")) := gd_blt (by rw [hK]; k_is) (by first | rfl | decide +kernel) (by decide)
theorem g_dict (hK : Kx c) : GD c.K c "dict" (.raw (.type "dict")) := gd_blt (by rw [hK]; k_is) (by first | rfl | decide +kernel) (by decide)
theorem g_tuple (hK : Kx c) : GD c.K c "tuple" (.raw (.type "tuple")) := gd_blt (by rw [hK]; k_is) (by first | rfl | decide +kernel) (by decide)
theorem g_min (hK : Kx c) : GD c.K c "min" (.raw (.builtin "min")) := gd_blt (by rw [hK]; k_is) (by first | rfl | decide +kernel) (by decide)
theorem g_max (hK : Kx c) : GD c.K c "max" (.raw (.builtin "max")) := gd_blt (by rw [hK]; k_is) (by first | rfl | decide +kernel) (by decide)
theorem g_zip (hK : Kx c) : GD c.K c "zip" (.raw (.type "zip")) := gd_blt (by rw [hK]; k_is) (by first | rfl | decide +kernel) (by decide)
theorem g_int (hK : Kx c) : GD c.K c "int" (.raw (.type "int")) := gd_blt (by rw [hK]; k_is) (by first | rfl | decide +kernel) (by decide)
theorem g_abs (hK : Kx c) : GD c.K c "abs" (.raw (.builtin "abs")) := gd_blt (by rw [hK]; k_is) (by first | rfl | decide +kernel) (by decide)
theorem g_ord (hK : Kx c) : GD c.K c "ord" (.raw (.builtin "ord")) := gd_blt (by rw [hK]; k_is) (by first | rfl | decide +kernel) (by decide)
theorem g_place_of (hK : Kx c) : GD c.K c "place_of" (.raw (.ref 169)) := gd_glob (by rw [hK]; k_is)
theorem k_place_of (hK : Kx c) : Kp c.K (.ref 169) := kp_of hK (by k_is)
theorem g_number_in (hK : Kx c) : GD c.K c "number_in" (.raw (.ref 176)) := gd_glob (by rw [hK]; k_is)
theorem k_number_in (hK : Kx c) : Kp c.K (.ref 176) := kp_of hK (by k_is)
theorem g_raised (hK : Kx c) : GD c.K c "raised" (.raw (.ref 183)) := gd_glob (by rw [hK]; k_is)
theorem k_raised (hK : Kx c) : Kp c.K (.ref 183) := kp_of hK (by k_is)
theorem g_add_letter (hK : Kx c) : GD c.K c "add_letter" (.raw (.ref 190)) := gd_glob (by rw [hK]; k_is)
theorem k_add_letter (hK : Kx c) : Kp c.K (.ref 190) := kp_of hK (by k_is)
theorem g_set_flags (hK : Kx c) : GD c.K c "set_flags" (.raw (.ref 197)) := gd_glob (by rw [hK]; k_is)
theorem k_set_flags (hK : Kx c) : Kp c.K (.ref 197) := kp_of hK (by k_is)
theorem g_expunge (hK : Kx c) : GD c.K c "expunge" (.raw (.ref 202)) := gd_glob (by rw [hK]; k_is)
theorem k_expunge (hK : Kx c) : Kp c.K (.ref 202) := kp_of hK (by k_is)
theorem g_ends_of (hK : Kx c) : GD c.K c "ends_of" (.raw (.ref 209)) := gd_glob (by rw [hK]; k_is)
theorem k_ends_of (hK : Kx c) : Kp c.K (.ref 209) := kp_of hK (by k_is)
theorem g_plain_set (hK : Kx c) : GD c.K c "plain_set" (.raw (.ref 216)) := gd_glob (by rw [hK]; k_is)
theorem k_plain_set (hK : Kx c) : Kp c.K (.ref 216) := kp_of hK (by k_is)
theorem g_ranges_of (hK : Kx c) : GD c.K c "ranges_of" (.raw (.ref 223)) := gd_glob (by rw [hK]; k_is)
theorem k_ranges_of (hK : Kx c) : Kp c.K (.ref 223) := kp_of hK (by k_is)
theorem g_has (hK : Kx c) : GD c.K c "has" (.raw (.ref 230)) := gd_glob (by rw [hK]; k_is)
theorem k_has (hK : Kx c) : Kp c.K (.ref 230) := kp_of hK (by k_is)
theorem g_members (hK : Kx c) : GD c.K c "members" (.raw (.ref 237)) := gd_glob (by rw [hK]; k_is)
theorem k_members (hK : Kx c) : Kp c.K (.ref 237) := kp_of hK (by k_is)
theorem g_numbers_in (hK : Kx c) : GD c.K c "numbers_in" (.raw (.ref 244)) := gd_glob (by rw [hK]; k_is)
theorem k_numbers_in (hK : Kx c) : Kp c.K (.ref 244) := kp_of hK (by k_is)
theorem g_changed_since (hK : Kx c) : GD c.K c "changed_since" (.raw (.ref 249)) := gd_glob (by rw [hK]; k_is)
theorem k_changed_since (hK : Kx c) : Kp c.K (.ref 249) := kp_of hK (by k_is)
theorem g_is_forgotten (hK : Kx c) : GD c.K c "is_forgotten" (.raw (.ref 256)) := gd_glob (by rw [hK]; k_is)
theorem k_is_forgotten (hK : Kx c) : Kp c.K (.ref 256) := kp_of hK (by k_is)
theorem g_missing_uids (hK : Kx c) : GD c.K c "missing_uids" (.raw (.ref 261)) := gd_glob (by rw [hK]; k_is)
theorem k_missing_uids (hK : Kx c) : Kp c.K (.ref 261) := kp_of hK (by k_is)
theorem g_gone_since (hK : Kx c) : GD c.K c "gone_since" (.raw (.ref 266)) := gd_glob (by rw [hK]; k_is)
theorem k_gone_since (hK : Kx c) : Kp c.K (.ref 266) := kp_of hK (by k_is)
theorem g_vanished_since (hK : Kx c) : GD c.K c "vanished_since" (.raw (.ref 272)) := gd_glob (by rw [hK]; k_is)
theorem k_vanished_since (hK : Kx c) : Kp c.K (.ref 272) := kp_of hK (by k_is)
theorem g_held_pairs (hK : Kx c) : GD c.K c "held_pairs" (.raw (.ref 279)) := gd_glob (by rw [hK]; k_is)
theorem k_held_pairs (hK : Kx c) : Kp c.K (.ref 279) := kp_of hK (by k_is)
theorem g_agreed_uid (hK : Kx c) : GD c.K c "agreed_uid" (.raw (.ref 286)) := gd_glob (by rw [hK]; k_is)
theorem k_agreed_uid (hK : Kx c) : Kp c.K (.ref 286) := kp_of hK (by k_is)
theorem g_resync (hK : Kx c) : GD c.K c "resync" (.raw (.ref 292)) := gd_glob (by rw [hK]; k_is)
theorem k_resync (hK : Kx c) : Kp c.K (.ref 292) := kp_of hK (by k_is)
theorem g_forget_gone (hK : Kx c) : GD c.K c "forget_gone" (.raw (.ref 297)) := gd_glob (by rw [hK]; k_is)
theorem k_forget_gone (hK : Kx c) : Kp c.K (.ref 297) := kp_of hK (by k_is)
theorem g_place_among (hK : Kx c) : GD c.K c "place_among" (.raw (.ref 385)) := gd_glob (by rw [hK]; k_is)
theorem k_place_among (hK : Kx c) : Kp c.K (.ref 385) := kp_of hK (by k_is)
theorem g_flag_pairs (hK : Kx c) : GD c.K c "flag_pairs" (.raw (.ref 390)) := gd_glob (by rw [hK]; k_is)
theorem k_flag_pairs (hK : Kx c) : Kp c.K (.ref 390) := kp_of hK (by k_is)
theorem g_resync_answers (hK : Kx c) : GD c.K c "resync_answers" (.raw (.ref 395)) := gd_glob (by rw [hK]; k_is)
theorem k_resync_answers (hK : Kx c) : Kp c.K (.ref 395) := kp_of hK (by k_is)
theorem g__law_pen (hK : Kx c) : GD c.K c "_law_pen" (.raw (.ref 400)) := gd_glob (by rw [hK]; k_is)
theorem k__law_pen (hK : Kx c) : Kp c.K (.ref 400) := kp_of hK (by k_is)
theorem g__law_draw (hK : Kx c) : GD c.K c "_law_draw" (.raw (.ref 407)) := gd_glob (by rw [hK]; k_is)
theorem k__law_draw (hK : Kx c) : Kp c.K (.ref 407) := kp_of hK (by k_is)
theorem g__law_flags (hK : Kx c) : GD c.K c "_law_flags" (.raw (.ref 414)) := gd_glob (by rw [hK]; k_is)
theorem k__law_flags (hK : Kx c) : Kp c.K (.ref 414) := kp_of hK (by k_is)
theorem g__law_deed (hK : Kx c) : GD c.K c "_law_deed" (.raw (.ref 419)) := gd_glob (by rw [hK]; k_is)
theorem k__law_deed (hK : Kx c) : Kp c.K (.ref 419) := kp_of hK (by k_is)
theorem g__law_copy (hK : Kx c) : GD c.K c "_law_copy" (.raw (.ref 424)) := gd_glob (by rw [hK]; k_is)
theorem k__law_copy (hK : Kx c) : Kp c.K (.ref 424) := kp_of hK (by k_is)
theorem g__law_brought (hK : Kx c) : GD c.K c "_law_brought" (.raw (.ref 429)) := gd_glob (by rw [hK]; k_is)
theorem k__law_brought (hK : Kx c) : Kp c.K (.ref 429) := kp_of hK (by k_is)
theorem g__law_gone (hK : Kx c) : GD c.K c "_law_gone" (.raw (.ref 434)) := gd_glob (by rw [hK]; k_is)
theorem k__law_gone (hK : Kx c) : Kp c.K (.ref 434) := kp_of hK (by k_is)
theorem g_system_flags (hK : Kx c) : GD c.K c "system_flags" (.raw (.ref 68)) := gd_glob (by rw [hK]; k_is)
theorem k_system_flags (hK : Kx c) : Kp c.K (.ref 68) := kp_of hK (by k_is)
theorem g_is_keyword (hK : Kx c) : GD c.K c "is_keyword" (.raw (.ref 75)) := gd_glob (by rw [hK]; k_is)
theorem k_is_keyword (hK : Kx c) : Kp c.K (.ref 75) := kp_of hK (by k_is)
theorem g_flag_name (hK : Kx c) : GD c.K c "flag_name" (.raw (.ref 82)) := gd_glob (by rw [hK]; k_is)
theorem k_flag_name (hK : Kx c) : Kp c.K (.ref 82) := kp_of hK (by k_is)
theorem g_flag_tuple (hK : Kx c) : GD c.K c "flag_tuple" (.raw (.ref 89)) := gd_glob (by rw [hK]; k_is)
theorem k_flag_tuple (hK : Kx c) : Kp c.K (.ref 89) := kp_of hK (by k_is)
theorem g_Letter (hK : Kx c) : GD c.K c "Letter" (.raw (.ref 120)) := gd_glob (by rw [hK]; k_is)
theorem k_Letter (hK : Kx c) : Kp c.K (.ref 120) := kp_of hK (by k_is)
theorem g_Box (hK : Kx c) : GD c.K c "Box" (.raw (.ref 158)) := gd_glob (by rw [hK]; k_is)
theorem k_Box (hK : Kx c) : Kp c.K (.ref 158) := kp_of hK (by k_is)
theorem g_Atom (hK : Kx c) : GD c.K c "Atom" (.raw (.ref 321)) := gd_glob (by rw [hK]; k_is)
theorem k_Atom (hK : Kx c) : Kp c.K (.ref 321) := kp_of hK (by k_is)
theorem g_View (hK : Kx c) : GD c.K c "View" (.raw (.ref 374)) := gd_glob (by rw [hK]; k_is)
theorem k_View (hK : Kx c) : Kp c.K (.ref 374) := kp_of hK (by k_is)
theorem k_103 (hK : Kx c) : Kp c.K (.ref 103) := kp_of hK (by k_is)
theorem k_117 (hK : Kx c) : Kp c.K (.ref 117) := kp_of hK (by k_is)
theorem k_138 (hK : Kx c) : Kp c.K (.ref 138) := kp_of hK (by k_is)
theorem k_150 (hK : Kx c) : Kp c.K (.ref 150) := kp_of hK (by k_is)
theorem k_155 (hK : Kx c) : Kp c.K (.ref 155) := kp_of hK (by k_is)
theorem k_311 (hK : Kx c) : Kp c.K (.ref 311) := kp_of hK (by k_is)
theorem k_338 (hK : Kx c) : Kp c.K (.ref 338) := kp_of hK (by k_is)
theorem k_345 (hK : Kx c) : Kp c.K (.ref 345) := kp_of hK (by k_is)
theorem k_371 (hK : Kx c) : Kp c.K (.ref 371) := kp_of hK (by k_is)
theorem ag_120_uid (hK : Kx c) : AttrG c.K 120 "uid" := ⟨by rw [hK]; k_is, by rw [hK]; k_is, none, by rw [hK]; k_is, rfl⟩
theorem as_120_uid (hK : Kx c) : AttrS c.K 120 "uid" := ⟨by rw [hK]; k_is, by rw [hK]; k_is, by rw [hK]; k_is, by rw [hK]; k_is⟩
theorem ag_120_octets (hK : Kx c) : AttrG c.K 120 "octets" := ⟨by rw [hK]; k_is, by rw [hK]; k_is, none, by rw [hK]; k_is, rfl⟩
theorem as_120_octets (hK : Kx c) : AttrS c.K 120 "octets" := ⟨by rw [hK]; k_is, by rw [hK]; k_is, by rw [hK]; k_is, by rw [hK]; k_is⟩
theorem ag_120_flags (hK : Kx c) : AttrG c.K 120 "flags" := ⟨by rw [hK]; k_is, by rw [hK]; k_is, none, by rw [hK]; k_is, rfl⟩
theorem as_120_flags (hK : Kx c) : AttrS c.K 120 "flags" := ⟨by rw [hK]; k_is, by rw [hK]; k_is, by rw [hK]; k_is, by rw [hK]; k_is⟩
theorem ag_120_instant (hK : Kx c) : AttrG c.K 120 "instant" := ⟨by rw [hK]; k_is, by rw [hK]; k_is, none, by rw [hK]; k_is, rfl⟩
theorem as_120_instant (hK : Kx c) : AttrS c.K 120 "instant" := ⟨by rw [hK]; k_is, by rw [hK]; k_is, by rw [hK]; k_is, by rw [hK]; k_is⟩
theorem ag_120_modseq (hK : Kx c) : AttrG c.K 120 "modseq" := ⟨by rw [hK]; k_is, by rw [hK]; k_is, none, by rw [hK]; k_is, rfl⟩
theorem as_120_modseq (hK : Kx c) : AttrS c.K 120 "modseq" := ⟨by rw [hK]; k_is, by rw [hK]; k_is, by rw [hK]; k_is, by rw [hK]; k_is⟩
theorem ag_158_name (hK : Kx c) : AttrG c.K 158 "name" := ⟨by rw [hK]; k_is, by rw [hK]; k_is, none, by rw [hK]; k_is, rfl⟩
theorem as_158_name (hK : Kx c) : AttrS c.K 158 "name" := ⟨by rw [hK]; k_is, by rw [hK]; k_is, by rw [hK]; k_is, by rw [hK]; k_is⟩
theorem ag_158_validity (hK : Kx c) : AttrG c.K 158 "validity" := ⟨by rw [hK]; k_is, by rw [hK]; k_is, none, by rw [hK]; k_is, rfl⟩
theorem as_158_validity (hK : Kx c) : AttrS c.K 158 "validity" := ⟨by rw [hK]; k_is, by rw [hK]; k_is, by rw [hK]; k_is, by rw [hK]; k_is⟩
theorem ag_158_next_uid (hK : Kx c) : AttrG c.K 158 "next_uid" := ⟨by rw [hK]; k_is, by rw [hK]; k_is, none, by rw [hK]; k_is, rfl⟩
theorem as_158_next_uid (hK : Kx c) : AttrS c.K 158 "next_uid" := ⟨by rw [hK]; k_is, by rw [hK]; k_is, by rw [hK]; k_is, by rw [hK]; k_is⟩
theorem ag_158_top (hK : Kx c) : AttrG c.K 158 "top" := ⟨by rw [hK]; k_is, by rw [hK]; k_is, none, by rw [hK]; k_is, rfl⟩
theorem as_158_top (hK : Kx c) : AttrS c.K 158 "top" := ⟨by rw [hK]; k_is, by rw [hK]; k_is, by rw [hK]; k_is, by rw [hK]; k_is⟩
theorem ag_158_floor (hK : Kx c) : AttrG c.K 158 "floor" := ⟨by rw [hK]; k_is, by rw [hK]; k_is, none, by rw [hK]; k_is, rfl⟩
theorem as_158_floor (hK : Kx c) : AttrS c.K 158 "floor" := ⟨by rw [hK]; k_is, by rw [hK]; k_is, by rw [hK]; k_is, by rw [hK]; k_is⟩
theorem ag_158_letters (hK : Kx c) : AttrG c.K 158 "letters" := ⟨by rw [hK]; k_is, by rw [hK]; k_is, none, by rw [hK]; k_is, rfl⟩
theorem as_158_letters (hK : Kx c) : AttrS c.K 158 "letters" := ⟨by rw [hK]; k_is, by rw [hK]; k_is, by rw [hK]; k_is, by rw [hK]; k_is⟩
theorem ag_158_gone (hK : Kx c) : AttrG c.K 158 "gone" := ⟨by rw [hK]; k_is, by rw [hK]; k_is, none, by rw [hK]; k_is, rfl⟩
theorem as_158_gone (hK : Kx c) : AttrS c.K 158 "gone" := ⟨by rw [hK]; k_is, by rw [hK]; k_is, by rw [hK]; k_is, by rw [hK]; k_is⟩
theorem ag_321_text (hK : Kx c) : AttrG c.K 321 "text" := ⟨by rw [hK]; k_is, by rw [hK]; k_is, none, by rw [hK]; k_is, rfl⟩
theorem as_321_text (hK : Kx c) : AttrS c.K 321 "text" := ⟨by rw [hK]; k_is, by rw [hK]; k_is, by rw [hK]; k_is, by rw [hK]; k_is⟩
theorem ag_374_box (hK : Kx c) : AttrG c.K 374 "box" := ⟨by rw [hK]; k_is, by rw [hK]; k_is, none, by rw [hK]; k_is, rfl⟩
theorem as_374_box (hK : Kx c) : AttrS c.K 374 "box" := ⟨by rw [hK]; k_is, by rw [hK]; k_is, by rw [hK]; k_is, by rw [hK]; k_is⟩
theorem ag_374_is_readonly (hK : Kx c) : AttrG c.K 374 "is_readonly" := ⟨by rw [hK]; k_is, by rw [hK]; k_is, none, by rw [hK]; k_is, rfl⟩
theorem as_374_is_readonly (hK : Kx c) : AttrS c.K 374 "is_readonly" := ⟨by rw [hK]; k_is, by rw [hK]; k_is, by rw [hK]; k_is, by rw [hK]; k_is⟩
theorem ag_374_uses_modseq (hK : Kx c) : AttrG c.K 374 "uses_modseq" := ⟨by rw [hK]; k_is, by rw [hK]; k_is, none, by rw [hK]; k_is, rfl⟩
theorem as_374_uses_modseq (hK : Kx c) : AttrS c.K 374 "uses_modseq" := ⟨by rw [hK]; k_is, by rw [hK]; k_is, by rw [hK]; k_is, by rw [hK]; k_is⟩
theorem ag_374_uses_vanished (hK : Kx c) : AttrG c.K 374 "uses_vanished" := ⟨by rw [hK]; k_is, by rw [hK]; k_is, none, by rw [hK]; k_is, rfl⟩
theorem as_374_uses_vanished (hK : Kx c) : AttrS c.K 374 "uses_vanished" := ⟨by rw [hK]; k_is, by rw [hK]; k_is, by rw [hK]; k_is, by rw [hK]; k_is⟩
theorem ag_374_uids (hK : Kx c) : AttrG c.K 374 "uids" := ⟨by rw [hK]; k_is, by rw [hK]; k_is, none, by rw [hK]; k_is, rfl⟩
theorem as_374_uids (hK : Kx c) : AttrS c.K 374 "uids" := ⟨by rw [hK]; k_is, by rw [hK]; k_is, by rw [hK]; k_is, by rw [hK]; k_is⟩
theorem ag_374_flags (hK : Kx c) : AttrG c.K 374 "flags" := ⟨by rw [hK]; k_is, by rw [hK]; k_is, none, by rw [hK]; k_is, rfl⟩
theorem as_374_flags (hK : Kx c) : AttrS c.K 374 "flags" := ⟨by rw [hK]; k_is, by rw [hK]; k_is, by rw [hK]; k_is, by rw [hK]; k_is⟩
theorem ag_374_modseqs (hK : Kx c) : AttrG c.K 374 "modseqs" := ⟨by rw [hK]; k_is, by rw [hK]; k_is, none, by rw [hK]; k_is, rfl⟩
theorem as_374_modseqs (hK : Kx c) : AttrS c.K 374 "modseqs" := ⟨by rw [hK]; k_is, by rw [hK]; k_is, by rw [hK]; k_is, by rw [hK]; k_is⟩
theorem mg_120_told (hK : Kx c) : MethG c.K 120 "told" 117 := ⟨by rw [hK]; k_is, by rw [hK]; k_is, by rw [hK]; k_is⟩
theorem mg_158_uids (hK : Kx c) : MethG c.K 158 "uids" 150 := ⟨by rw [hK]; k_is, by rw [hK]; k_is, by rw [hK]; k_is⟩
theorem mg_158_told (hK : Kx c) : MethG c.K 158 "told" 155 := ⟨by rw [hK]; k_is, by rw [hK]; k_is, by rw [hK]; k_is⟩
theorem mg_374_number_of (hK : Kx c) : MethG c.K 374 "number_of" 345 := ⟨by rw [hK]; k_is, by rw [hK]; k_is, by rw [hK]; k_is⟩
theorem mg_374_told (hK : Kx c) : MethG c.K 374 "told" 371 := ⟨by rw [hK]; k_is, by rw [hK]; k_is, by rw [hK]; k_is⟩
theorem cg_120 (hK : Kx c) : ClsG c.K 120 103 := ⟨by rw [hK]; k_is, by rw [hK]; k_is, by rw [hK]; k_is⟩
theorem cg_158 (hK : Kx c) : ClsG c.K 158 138 := ⟨by rw [hK]; k_is, by rw [hK]; k_is, by rw [hK]; k_is⟩
theorem cg_321 (hK : Kx c) : ClsG c.K 321 311 := ⟨by rw [hK]; k_is, by rw [hK]; k_is, by rw [hK]; k_is⟩
theorem cg_374 (hK : Kx c) : ClsG c.K 374 338 := ⟨by rw [hK]; k_is, by rw [hK]; k_is, by rw [hK]; k_is⟩
theorem g_SYSTEM (hK : Kx c) : GD c.K c "SYSTEM" (.str "\\Seen \\Answered \\Flagged \\Deleted \\Draft") := ⟨_, fun _ => .str _ _, .inl (by rw [hK]; k_is)⟩
theorem g_NO_KEYWORD (hK : Kx c) : GD c.K c "NO_KEYWORD" (.str "(){ %*\"\\]") := ⟨_, fun _ => .str _ _, .inl (by rw [hK]; k_is)⟩
theorem g_MOST_KEYWORD (hK : Kx c) : GD c.K c "MOST_KEYWORD" (.int 60) := ⟨_, fun _ => .int _ _, .inl (by rw [hK]; k_is)⟩
end

/- F0 -/
theorem ite_f {A B : Prop} (h : B) : if false = true then A else B := by rw [if_neg Bool.false_ne_true]; exact h
theorem ite_t {A B : Prop} (h : A) : if true = true then A else B := by rw [if_pos rfl]; exact h
theorem ite_nf {A B : Prop} (h : A) : if (!false) = true then A else B := ite_t h
theorem ite_nt {A B : Prop} (h : B) : if (!true) = true then A else B := ite_f h
section
variable {c : Cx} {env : Env} {φ φ' ψ : Fz} {m m₀ m' : Mp} {ν νm νr νi ν' : Lg} {h h₁ h' : Heap}
theorem call_fnd0 {f : Addr} {name qual : Str} {params : Arguments} {body : List Stmt} {scope : Scope} {dV kV doc pm cdv ct oc : Value} {an od : Option Addr} {osl : Array (Option Value)} {n : Nat} (ps ns gs : List Str) (m₀ : Mp) {ds : List D} {Q : D → Mp → Lg → Prop}
    (ho : c.K.lookup f = some ⟨oc, od, .func (fnOf name qual params body scope dV kV doc pm an cdv ct), osl⟩) (hcd : codeIn c.K cdv qual = true) (ha : AOk c.A (n + 1))
    (hbind : ∀ (vs : List Value), vs.length = ps.length → bindArgs (fnOf name qual params body scope dV kV doc pm an cdv ct) ⟨vs, []⟩ = pure (ps.zip vs))
    (hchk : fnChk scope ps ns [] gs = true) (hn : ds.length = ps.length) (hm₀ : m₀ = ns.map fun x => (ps.zip ds).lookup x) (hcl : ∀ k, cellsFrom k scope.names [] = [])
    (h : ∀ A' L' env, AOk A' n → EnvOk (c.in A' L' ns) env → GN env gs → Ex (c.in A' L' ns) env body m₀ νm fun fl _ ν' => Back Q m νr fl ν') :
    CodeD c (.ref f) ds m (νm ++ νr) Q :=
  call_fn' ps ns [] gs ho hcd ha hbind hchk hn hm₀ hcl fun A' L' env hA E hg _ _ => h A' L' env hA E ⟨hg⟩
theorem call_fndr {f : Addr} {name qual : Str} {params : Arguments} {body : List Stmt} {scope : Scope} {dV kV doc pm cdv ct oc : Value} {an od : Option Addr} {osl : Array (Option Value)} {n : Nat} (ps ns gs : List Str) (m₀ : Mp) {ds : List D} {Q : D → Mp → Lg → Prop}
    (ho : c.K.lookup f = some ⟨oc, od, .func (fnOf name qual params body scope dV kV doc pm an cdv ct), osl⟩) (hcd : codeIn c.K cdv qual = true) (ha : AOk c.A (n + 1))
    (hbind : ∀ (vs : List Value), vs.length = ps.length → bindArgs (fnOf name qual params body scope dV kV doc pm an cdv ct) ⟨vs, []⟩ = pure (ps.zip vs))
    (hchk : fnChk scope ps ns [] gs = true) (hn : ds.length = ps.length) (hm₀ : m₀ = ns.map fun x => (ps.zip ds).lookup x) (hcl : ∀ k, cellsFrom k scope.names [] = [])
    (h : ∀ A' L' env, AOk A' n → EnvOk (c.in A' L' ns) env → GN env gs → Ex (c.in A' L' ns) env body m₀ ν fun fl _ ν' => Back0 Q m fl ν') :
    CodeD c (.ref f) ds m ν Q := by
  have := call_fnd0 (νm := ν) (νr := []) (Q := Q) (m := m) ps ns gs m₀ ho hcd ha hbind hchk hn hm₀ hcl fun A' L' env hA E hg => (h A' L' env hA E hg).mono fun fl _ ν' ⟨νc, ν₂, p, q⟩ => ⟨νc, ν₂, p, by rw [List.append_nil]; exact q⟩
  rw [List.append_nil] at this; exact this
end
section
variable {c : Cx} {env : Env} {m : Mp} {ν : Lg}
theorem calld_app {f : Value} {d : D} {ds : List D} {Q : D → Mp → Lg → Prop} (h : CallD c f (d :: ds) m ν Q) : CallD c f ([d] ++ ds) m ν Q := h
theorem tsts_nil {Q : Bool → Mp → Lg → Prop} (q : Q true m ν) : Tsts c env [] m ν Q := q
theorem tsts_one {t : Expr} {Q : Bool → Mp → Lg → Prop} (q : Tst c env t m ν Q) : Tsts c env [t] m ν Q := q
theorem turn_t {A B : Prop} (h : A) : true = true ∧ if true = true then A else B := ⟨rfl, ite_t h⟩
theorem turn_d {P : Prop} [Decidable P] {b : Bool} {A B : Prop} (e : decide P = b) (h1 : P → A) (h2 : ¬P → B) : decide P = b ∧ if decide P = true then A else B := ⟨e, ite_dec h1 h2⟩
theorem turn_nd {P : Prop} [Decidable P] {b : Bool} {A B : Prop} (e : (!decide P) = b) (h1 : ¬P → A) (h2 : P → B) : (!decide P) = b ∧ if (!decide P) = true then A else B := ⟨e, by by_cases h : P <;> simp [h] <;> first | exact h2 h | exact h1 h⟩
theorem ite_nd {P : Prop} [Decidable P] {A B : Prop} (h1 : ¬P → A) (h2 : P → B) : if (!decide P) = true then A else B := by by_cases h : P <;> simp [h] <;> first | exact h2 h | exact h1 h
theorem ev_bytesR {l : List UInt8} {k : Nat} {pos : Pos} {Q : D → Mp → Lg → Prop} (q : ∀ t, Q (.raw (.bytes l.toArray t)) m ν) : Run c (V c) (eval (.Constant (.bytes l) k pos) env) m ν Q :=
  fun φ s o => wpAny_mkTextBytes (Fin.here (tk := s.toks + 1) o (.raw _) (q _))
end
section
variable {c : Cx} {env : Env} {m : Mp} {ν : Lg} {elt target iter : Expr} {ifs : List Expr} {scope : Scope} {pos : Pos}
theorem cj_pf {α : Type} (fs : List (Str × Addr)) (ns' gs : List Str) (mb : Mp) (xs : List α) (enc : α → D) (p : α → Bool) (g : α → D) {d : D} {Kν : Lg → Prop} {R : List D → Lg → Prop} (E : EnvOk c env) (hchk : compChk scope ns' gs = true) (hcs : CS env fs)
    (hf : (scope.names.filter (fun p => p.2 == .free)).map (·.1) = fs.map (·.1)) (hnd : (fs.map (·.1)).Nodup) (hmb : mb = blank ns') (hi : IterD c.prog c.w c.A d (xs.map enc) Kν) (hk : Kν ν) (hl : xs.length ≤ 100000)
    (turn : ∀ C env' x, x ∈ xs → EnvOk (c.in c.A C ns') env' → GN env' gs → CS env' fs → Asg (c.in c.A C ns') env' target (enc x) mb ν fun _ m₂ ν₂ => Tsts (c.in c.A C ns') env' ifs m₂ ν₂ fun b m₃ ν₃ => b = p x ∧
      if b = true then Run (c.in c.A C ns') (V c) (eval elt env') m₃ ν₃ fun e m₄ ν₄ => m₄.length = ns'.length ∧ e = g x ∧ ν₄ = ν else m₃.length = ns'.length ∧ ν₃ = ν)
    (q : R ((xs.filter p).map g) ν) : CompJ c env elt target ifs scope fs.reverse ns' d m ν R := by
  subst hmb
  exact cj_pure' xs enc p g E hchk hcs hf hnd hi hk hl turn q
theorem cj_map {α : Type} (fs : List (Str × Addr)) (ns' gs : List Str) (mb : Mp) (xs : List α) (enc : α → D) (g : α → D) {d : D} {Kν : Lg → Prop} {R : List D → Lg → Prop} (E : EnvOk c env) (hchk : compChk scope ns' gs = true) (hcs : CS env fs)
    (hf : (scope.names.filter (fun p => p.2 == .free)).map (·.1) = fs.map (·.1)) (hnd : (fs.map (·.1)).Nodup) (hmb : mb = blank ns') (hi : IterD c.prog c.w c.A d (xs.map enc) Kν) (hk : Kν ν) (hl : xs.length ≤ 100000)
    (turn : ∀ C env' x, x ∈ xs → EnvOk (c.in c.A C ns') env' → GN env' gs → CS env' fs → Asg (c.in c.A C ns') env' target (enc x) mb ν fun _ m₂ ν₂ => Tsts (c.in c.A C ns') env' ifs m₂ ν₂ fun b m₃ ν₃ => b = true ∧
      if b = true then Run (c.in c.A C ns') (V c) (eval elt env') m₃ ν₃ fun e m₄ ν₄ => m₄.length = ns'.length ∧ e = g x ∧ ν₄ = ν else m₃.length = ns'.length ∧ ν₃ = ν)
    (q : R (xs.map g) ν) : CompJ c env elt target ifs scope fs.reverse ns' d m ν R := by
  refine cj_pf fs ns' gs mb xs enc (fun _ => true) g E hchk hcs hf hnd hmb hi hk hl turn ?_
  rw [List.filter_eq_self.mpr (fun _ _ => rfl)]; exact q
theorem cj_st {σ : Type} (fs : List (Str × Addr)) (ns' gs : List Str) (mb : Mp) (νf : σ → Lg) (P : Nat → σ → List D → Prop) (x₀ : σ) {ds : List D} {d : D} {Kν : Lg → Prop} {R : List D → Lg → Prop} (E : EnvOk c env) (hchk : compChk scope ns' gs = true) (hcs : CS env fs)
    (hf : (scope.names.filter (fun p => p.2 == .free)).map (·.1) = fs.map (·.1)) (hnd : (fs.map (·.1)).Nodup) (hmb : mb = blank ns') (hi : IterD c.prog c.w c.A d ds Kν) (hK : ∀ i x acc, P i x acc → Kν (νf x)) (hl : ds.length ≤ 100000) (p0 : P 0 x₀ []) (ν0 : νf x₀ = ν)
    (turn : ∀ C env' i x acc e, ds[i]? = some e → P i x acc → EnvOk (c.in c.A C ns') env' → GN env' gs → CS env' fs → Asg (c.in c.A C ns') env' target e mb (νf x) fun _ m₂ ν₂ => Tsts (c.in c.A C ns') env' ifs m₂ ν₂ fun b m₃ ν₃ =>
      if b = true then Run (c.in c.A C ns') (V c) (eval elt env') m₃ ν₃ fun e m₄ ν₄ => m₄.length = ns'.length ∧ ∃ y, P (i + 1) y (acc ++ [e]) ∧ νf y = ν₄ else m₃.length = ns'.length ∧ ∃ y, P (i + 1) y acc ∧ νf y = ν₃)
    (q : ∀ x acc, P ds.length x acc → R acc (νf x)) : CompJ c env elt target ifs scope fs.reverse ns' d m ν R := by
  subst hmb
  refine ⟨σ, ds, Kν, νf, P, x₀, ⟨by simp only [compChk, Bool.and_eq_true, decide_eq_true_eq] at hchk; exact hchk.1.1.1.1.1, hi, sizeLine_ge hl, p0, ν0, hK, fun C i x acc e he hP => ?_⟩, q⟩
  obtain ⟨E', hg⟩ := cEnv_ok (C := C) (cl := fs.reverse) E hchk
  exact turn C _ i x acc e he hP E' ⟨hg⟩ (cEnv_CS (cl := fs.reverse) E hcs hf hnd)
theorem CS.nil : CS env [] := ⟨fun _ h => nomatch h⟩
theorem look0 : ∀ p ∈ ([] : List (Str × Addr)), env.cells.lookup p.1 = some p.2 := fun _ h => nomatch h
theorem nd0 : (([] : List (Str × Addr)).map (·.1)).Nodup := List.nodup_nil
theorem nd1 {x : Str} {a : Addr} : (([(x, a)] : List (Str × Addr)).map (·.1)).Nodup := by simp
end
theorem bind2 {α : Type} {f : List α → Prop} (h : ∀ a b, f [a, b]) : ∀ vs : List α, vs.length = 2 → f vs
  | [a, b], _ => h a b
theorem bind1 {α : Type} {f : List α → Prop} (h : ∀ a, f [a]) : ∀ vs : List α, vs.length = 1 → f vs
  | [a], _ => h a
theorem bind0 {α : Type} {f : List α → Prop} (h : f []) : ∀ vs : List α, vs.length = 0 → f vs
  | [], _ => h
theorem bind3 {α : Type} {f : List α → Prop} (h : ∀ a b c, f [a, b, c]) : ∀ vs : List α, vs.length = 3 → f vs
  | [a, b, c], _ => h a b c
theorem bind4 {α : Type} {f : List α → Prop} (h : ∀ a b c d, f [a, b, c, d]) : ∀ vs : List α, vs.length = 4 → f vs
  | [a, b, c, d], _ => h a b c d
theorem bind5 {α : Type} {f : List α → Prop} (h : ∀ a b c d e, f [a, b, c, d, e]) : ∀ vs : List α, vs.length = 5 → f vs
  | [a, b, c, d, e], _ => h a b c d e
theorem bind6 {α : Type} {f : List α → Prop} (h : ∀ a b c d e g, f [a, b, c, d, e, g]) : ∀ vs : List α, vs.length = 6 → f vs
  | [a, b, c, d, e, g], _ => h a b c d e g

structure Ltr where
  uid : Int
  flags : List Str
  modseq : Int
  tk : Tok
abbrev ltrKs : List Str := ["uid", "octets", "flags", "instant", "modseq"]
abbrev dFl (fs : List Str) : D := .tup (fs.map .str)
abbrev dL (l : Ltr) : D := .inst 120 ltrKs [.int l.uid, .raw (.bytes #[120] l.tk), dFl l.flags, .int 5, .int l.modseq]
structure BoxS where
  next : Int
  top : Int
  floor : Int
  ls : List Ltr
  gone : List (Int × Int)
abbrev dP (p : Int × Int) : D := .tup [.int p.1, .int p.2]
abbrev boxKs : List Str := ["name", "validity", "next_uid", "top", "floor", "letters", "gone"]
abbrev boxDs (bl : Addr) (s : BoxS) : List D := [.str "b", .int 9, .int s.next, .int s.top, .int s.floor, .raw (.ref bl), .lst (s.gone.map dP)]
abbrev boxL (bd bl : Addr) (s : BoxS) : Lg := [(bd, .attrs boxKs (boxDs bl s)), (bl, .lst (s.ls.map dL))]
structure BoxIn (ν : Lg) (bd bl : Addr) (s : BoxS) : Prop where
  a : (bd, MO.attrs boxKs (boxDs bl s)) ∈ ν
  l : (bl, MO.lst (s.ls.map dL)) ∈ ν
abbrev dB (bd : Addr) : D := .obj 158 bd
abbrev BoxS.us (s : BoxS) : List Int := s.ls.map (·.uid)
structure BoxOk (s : BoxS) : Prop where
  len : s.ls.length ≤ 1000
  inc : s.us.Pairwise (· < ·)
theorem BoxIn.of {νr : Lg} {bd bl : Addr} {s : BoxS} : BoxIn (boxL bd bl s ++ νr) bd bl s := ⟨List.mem_cons_self, List.mem_cons_of_mem _ List.mem_cons_self⟩
abbrev vwKs : List Str := ["box", "is_readonly", "uses_modseq", "uses_vanished", "uids", "flags", "modseqs"]
abbrev dV (bd : Addr) (s : BoxS) : D := .inst 374 vwKs [.obj 158 bd, .bool false, .bool true, .bool true, .lst (s.us.map .int), .map s.us (s.ls.map fun l => dFl l.flags), .map s.us (s.ls.map fun l => .int l.modseq)]
abbrev dAt (x : Str) : D := .inst 321 ["text"] [.str x]

/- MB28 -/
section
variable {c : Cx} {env : Env} {φ φ' ψ : Fz} {m m₀ m' : Mp} {ν νm νr νi ν' : Lg} {h h₁ h' : Heap}
theorem call_fnd0B {f : Addr} {name qual : Str} {params : Arguments} {body : List Stmt} {scope : Scope} {dV kV doc pm cdv ct oc : Value} {an od : Option Addr} {osl : Array (Option Value)} {n : Nat} (ps ns gs : List Str) (m₀ : Mp) {ds : List D} {Q : D → Mp → Lg → Prop}
    (ho : c.K.lookup f = some ⟨oc, od, .func (fnOf name qual params body scope dV kV doc pm an cdv ct), osl⟩) (hcd : codeIn c.K cdv qual = true) (ha : AOk c.A (n + 1))
    (hbind : ∀ (s : Shared) (vs : List Value), c.K.In s.heap → vs.length = ps.length → BindsTo s (fnOf name qual params body scope dV kV doc pm an cdv ct) ⟨vs, []⟩ (ps.zip vs))
    (hchk : fnChk scope ps ns [] gs = true) (hn : ds.length = ps.length) (hm₀ : m₀ = ns.map fun x => (ps.zip ds).lookup x) (hcl : ∀ k, cellsFrom k scope.names [] = [])
    (h : ∀ A' L' env, AOk A' n → EnvOk (c.in A' L' ns) env → GN env gs → Ex (c.in A' L' ns) env body m₀ νm fun fl _ ν' => Back Q m νr fl ν') :
    CodeD c (.ref f) ds m (νm ++ νr) Q :=
  call_fnB' ps ns [] gs ho hcd ha hbind hchk hn hm₀ hcl fun A' L' env hA E hg _ _ => h A' L' env hA E ⟨hg⟩
theorem call_fn1B {f : Addr} {name qual : Str} {params : Arguments} {body : List Stmt} {scope : Scope} {dV kV doc pm cdv ct oc : Value} {an od : Option Addr} {osl : Array (Option Value)} {n : Nat} (ps ns : List Str) (x : Str) (gs : List Str) (m₀ : Mp) (od1 : Option D) {ds : List D} {Q : D → Mp → Lg → Prop}
    (ho : c.K.lookup f = some ⟨oc, od, .func (fnOf name qual params body scope dV kV doc pm an cdv ct), osl⟩) (hcd : codeIn c.K cdv qual = true) (ha : AOk c.A (n + 1))
    (hbind : ∀ (s : Shared) (vs : List Value), c.K.In s.heap → vs.length = ps.length → BindsTo s (fnOf name qual params body scope dV kV doc pm an cdv ct) ⟨vs, []⟩ (ps.zip vs))
    (hchk : fnChk scope ps ns [x] gs = true) (hn : ds.length = ps.length) (hm₀ : m₀ = ns.map fun x => (ps.zip ds).lookup x) (h1 : (ps.zip ds).lookup x = od1) (hcl : ∀ k, cellsFrom k scope.names [] = [(x, k)])
    (h : ∀ A' L' env a, AOk A' n → EnvOk (c.in A' L' ns) env → GN env gs → CS env [(x, a)] → Ex (c.in A' L' ns) env body m₀ ((a, .cell od1) :: ν) fun fl _ ν' => Back0 Q m fl ν') :
    CodeD c (.ref f) ds m ν Q := by
  have := call_fnB' (νm := ν) (νr := []) (Q := Q) (m := m) ps ns [x] gs ho hcd ha hbind hchk hn hm₀ (fun k => (hcl k).trans rfl) fun A' L' env hA E hg hc hcells => by
    have := h A' L' env (L' + 1) hA E ⟨hg⟩ ⟨fun p hp => by
      rw [List.mem_singleton] at hp; subst hp
      refine ⟨hc x List.mem_cons_self, ?_⟩
      rw [hcells]
      show List.lookup x [(x, L' + 1)] = _
      simp⟩
    rw [← h1] at this
    exact this.mono fun fl _ ν' ⟨νc, ν₂, p, q⟩ => ⟨νc, ν₂, p, by rw [List.append_nil]; exact q⟩
  rw [List.append_nil] at this; exact this
theorem call_fn2B {f : Addr} {name qual : Str} {params : Arguments} {body : List Stmt} {scope : Scope} {dV kV doc pm cdv ct oc : Value} {an od : Option Addr} {osl : Array (Option Value)} {n : Nat} (ps ns : List Str) (x y : Str) (gs : List Str) (m₀ : Mp) (od1 od2 : Option D) {ds : List D} {Q : D → Mp → Lg → Prop}
    (ho : c.K.lookup f = some ⟨oc, od, .func (fnOf name qual params body scope dV kV doc pm an cdv ct), osl⟩) (hcd : codeIn c.K cdv qual = true) (ha : AOk c.A (n + 1))
    (hbind : ∀ (s : Shared) (vs : List Value), c.K.In s.heap → vs.length = ps.length → BindsTo s (fnOf name qual params body scope dV kV doc pm an cdv ct) ⟨vs, []⟩ (ps.zip vs))
    (hchk : fnChk scope ps ns [y, x] gs = true) (hn : ds.length = ps.length) (hm₀ : m₀ = ns.map fun x => (ps.zip ds).lookup x) (h1 : (ps.zip ds).lookup x = od1) (h2 : (ps.zip ds).lookup y = od2) (hxy : (x == y) = false) (hcl : ∀ k, cellsFrom k scope.names [] = [(y, k + 1), (x, k)])
    (h : ∀ A' L' env a b, AOk A' n → EnvOk (c.in A' L' ns) env → GN env gs → CS env [(y, b), (x, a)] → Ex (c.in A' L' ns) env body m₀ ((b, .cell od2) :: (a, .cell od1) :: ν) fun fl _ ν' => Back0 Q m fl ν') :
    CodeD c (.ref f) ds m ν Q := by
  have := call_fnB' (νm := ν) (νr := []) (Q := Q) (m := m) ps ns [y, x] gs ho hcd ha hbind hchk hn hm₀ (fun k => (hcl k).trans rfl) fun A' L' env hA E hg hc hcells => by
    have := h A' L' env (L' + 1) (L' + 1 + 1) hA E ⟨hg⟩ ⟨fun p hp => by
      rcases List.mem_cons.mp hp with rfl | hp
      · refine ⟨hc y List.mem_cons_self, ?_⟩
        rw [hcells]
        show List.lookup y [(y, L' + 1 + 1), (x, L' + 1)] = _
        simp
      · rw [List.mem_singleton] at hp; subst hp
        refine ⟨hc x (List.mem_cons_of_mem _ List.mem_cons_self), ?_⟩
        rw [hcells]
        show List.lookup x [(y, L' + 1 + 1), (x, L' + 1)] = _
        simp [List.lookup_cons, hxy]⟩
    rw [← h1, ← h2] at this
    exact this.mono fun fl _ ν' ⟨νc, ν₂, p, q⟩ => ⟨νc, ν₂, p, by rw [List.append_nil]; exact q⟩
  rw [List.append_nil] at this; exact this
theorem bindB {K : Frag} {fd : FuncData} {ps : List Str} {T : Addr} {o : Obj} {items : Array Value} {k : Nat} (hl : K.lookup T = some o) (hd : fd.defaults = .ref T) (hs : o.data = .seq items k)
    (h : ∀ vs : List Value, vs.length = ps.length → ∃ kk : Option (Array Value) → Sem (List (Str × Value)), bindArgs fd ⟨vs, []⟩ = (seqItems? fd.defaults >>= kk) ∧ kk (some items) = pure (ps.zip vs)) :
    ∀ (s : Shared) (vs : List Value), K.In s.heap → vs.length = ps.length → BindsTo s fd ⟨vs, []⟩ (ps.zip vs) := fun s vs hK hv =>
  let ⟨_, h1, h2⟩ := h vs hv
  BindsTo.of_defaults hd (hK _ _ hl) hs h1 h2
end

/- MB29 -/
section
variable {c : Cx} {env : Env} {φ φ' ψ : Fz} {m m₀ m' : Mp} {ν νm νr νi ν' : Lg} {h h₁ h' : Heap}
theorem slice_end {a : Addr} {vs us : List Value} {n : Nat} {ds es : List D} {s : Shared} {Q : D → Mp → Lg → Prop} {vl vu vk : Value} (o : Ok c φ m ν s.heap) (ru : RepAll c.prog c.w φ us es) {D : Addr} {h' : Heap}
    {mv : Str → Option Value} (hmv : Names c.prog c.w φ c.ns m mv) (F : Fr { objs := #[] } c.L h' mv) (N : News { objs := #[] } c.L h' ((D, listOf us.toArray 0) :: allO s.heap c.L)) (l1 : ∀ p ∈ allO s.heap c.L, p.1 < D) (q : Q (.lst es) m ν) (tk : Nat) : Fin c (V c) Q φ ν s (.ref D) { s with heap := h', toks := tk } := by
  obtain ⟨o', st⟩ := o.back hmv F.ns (fun b ob e hb => (N (b, ob) (.tail _ (allO_mem.mpr ⟨e, hb⟩))).1)
  have e := (N _ (.head _)).1
  have nB : s.heap.get? D = none := by
    cases qq : s.heap.get? D with
    | none => rfl
    | some ob =>
      by_cases hBL : D = c.L
      · exact absurd hBL (N _ (.head _)).2.1
      · exact absurd (l1 (D, ob) (allO_mem.mpr ⟨qq, hBL⟩)) (Nat.lt_irrefl D)
  exact ⟨h', tk, _, m, ν, _, rfl, o'.freeze (o.off nB) e, st.freeze nB, .lst addF_here (ru.up le_addF), q⟩
theorem ok_toks {s : Shared} (o : Ok c φ m ν s.heap) (tk : Nat) : Ok c φ m ν ({ s with toks := tk } : Shared).heap := o
/-- the first items -/
theorem ev_upto {value : Expr} {k : Nat} {cc : Nat} {p1 sp pos : Pos} {Q : D → Mp → Lg → Prop} (h : Run c (V c) (eval value env) m ν fun d m₁ ν₁ => ∃ ds, LstOf ν₁ d ds ∧ ds.length ≤ 100000 ∧ Q (.lst (ds.take k)) m₁ ν₁)
    (ht : ∀ o r, letTemporaryGo value o r = pure () := by intro _ _; rfl) : Run c (V c) (eval (.Subscript value (.Slice none (some (.Constant (.int k) cc p1)) none sp) pos) env) m ν Q := by
  intro φ s o
  refine PyProof.Rows.Subscript_ ((h φ).use o fun u d h₁ tk₁ φ₁ m₁ ν₁ o₁ st ru q => ?_)
  obtain ⟨ds, l, hl, q⟩ := q
  obtain ⟨a, vs, n, rfl, e, ra⟩ := l.get ru o₁
  obtain ⟨mv, hns, hmv⟩ := o₁.ns
  refine wpAny_Slice (wpAny_pure ?_)
  rw [evalPart_some]
  refine wpAny_Constant_int ?_
  refine wpAny_pure ?_
  refine kmk_slice (s := { s with heap := h₁, toks := tk₁ + 1 }) (fr_of hns) news_of (isList_of e) .none (.int _ _) (fun D h' F N l1 => ?_) (by with_unfolding_all rfl) (ht _) (by rw [List.size_toArray, ra.length]; exact sizeLine_ge hl)
  have hp : slicePick vs.toArray none (some (k : Int)) none = (vs.take k).toArray := by
    rw [kms_pick_eq]
    have e1 : kms_lo none vs.toArray.toList.length = 0 := rfl
    have e2 : kms_hi (some (k : Int)) vs.toArray.toList.length = min k vs.length := by
      simp only [kms_hi]
      rw [if_neg (by omega)]; simp
    unfold kms_pick
    rw [e1, e2, List.drop_zero, Nat.sub_zero]
    show (vs.take (min k vs.length)).toArray = _
    rw [kmk_take_min]
  rw [hp] at N
  refine Fin.after (s := s) o₁ st (slice_end (s := { s with heap := h₁, toks := tk₁ + 1 }) (vl := .none) (vu := .none) (vk := .none) (a := 0) (n := 0) (vs := []) (ds := []) o₁ (ra.take k) hmv F N l1 q _)
/-- the items the other way round -/
theorem ev_back {value : Expr} {cc : Nat} {p1 p2 sp pos : Pos} {Q : D → Mp → Lg → Prop} (h : Run c (V c) (eval value env) m ν fun d m₁ ν₁ => ∃ ds, LstOf ν₁ d ds ∧ ds.length ≤ 100000 ∧ Q (.lst ds.reverse) m₁ ν₁)
    (ht : ∀ o r, letTemporaryGo value o r = pure () := by intro _ _; rfl) : Run c (V c) (eval (.Subscript value (.Slice none none (some (.UnaryOp .USub (.Constant (.int 1) cc p1) p2)) sp) pos) env) m ν Q := by
  intro φ s o
  refine PyProof.Rows.Subscript_ ((h φ).use o fun u d h₁ tk₁ φ₁ m₁ ν₁ o₁ st ru q => ?_)
  obtain ⟨ds, l, hl, q⟩ := q
  have hstep : Run c (V c) (eval (.UnaryOp .USub (.Constant (.int 1) cc p1) p2) env) m₁ ν₁ fun d m₂ ν₂ => d = .int (-1) ∧ m₂ = m₁ ∧ ν₂ = ν₁ := ev_UnaryOp (ev_int (una_neg ⟨rfl, rfl, rfl⟩))
  refine wpAny_Slice (wpAny_pure (wpAny_pure ?_))
  rw [evalPart_some]
  refine (hstep φ₁).use (s := { s with heap := h₁, toks := tk₁ }) o₁ fun v d₂ h₂ tk₂ φ₂ m₂ ν₂ o₂ st₂ rv q₂ => ?_
  obtain ⟨rfl, rfl, rfl⟩ := q₂
  cases rv with
  | int _ t =>
  obtain ⟨a, vs, n, rfl, e, ra⟩ := l.get (ru.up st₂.mono) o₂
  obtain ⟨mv, hns, hmv⟩ := o₂.ns
  refine krv_lit (s := { s with heap := h₂, toks := tk₂ }) (ops := [.ref a, .ref h₂.objs.size]) (fr_of hns) news_of (isList_of e) (.int _ _) rfl (fun D h' F N l1 => ?_) (by with_unfolding_all rfl) (ht _) (by rw [List.size_toArray, ra.length]; exact sizeLine_ge hl)
  refine Fin.after (s := s) o₂ (st.trans o₁ st₂) (slice_end (s := { s with heap := h₂, toks := tk₂ }) (vl := .none) (vu := .none) (vk := .none) (a := 0) (n := 0) (vs := []) (ds := []) o₂ ra.reverse hmv F N l1 q _)
end

/- MB30 -/
theorem hits_all {A : Around} {s : Shared} {kb : List (Int × Value)} : ∀ (r : List (Int × Value)), (∀ p ∈ r, ∃ y, valueAt kb p.1 = some y ∧ SeqAt.EqAt A s p.2 y true) → KeqHits A s kb r true
  | [], _ => .nil
  | (k, v) :: r, h => by
    obtain ⟨y, h1, h2⟩ := h (k, v) List.mem_cons_self
    exact .hit h1 h2 (hits_all r fun p hp => h p (List.mem_cons_of_mem _ hp))
section
variable {c : Cx} {env : Env} {φ φ' ψ : Fz} {m m₀ m' : Mp} {ν νm νr νi ν' : Lg} {h h₁ h' : Heap}
theorem cmp_ne_same_map {k : Nat} {d e : D} {ks : List Int} {ds : List D} {Q : D → Mp → Lg → Prop} (ld : MapOf' ν d ks ds) (le : MapOf' ν e ks ds) (hc : CpAll k ds) (hu : c.A.units + k + 1 < cLine) (q : Q (.bool false) m ν) : Cmp c .NotEq d e m ν Q := fun φ u v ru rv s o => by
  obtain ⟨a, ka, rfl, sa, da, hka, ra⟩ := ld.get ru o
  obtain ⟨b, kb, rfl, sb, db, hkb, rb⟩ := le.get rv o
  have hn : (kb.map (·.1)).Nodup := let ⟨_, _, _, _, _, _, _, _, n⟩ := db; n
  have hl : ka.length = kb.length := by have := congrArg List.length (hka.trans hkb.symm); simpa using this
  refine keq_ne sa sb da db (by omega) (fun _ => hits_all ka fun p hp => ?_) (Fin.here (tk := s.toks) o (by rw [hl]; simpa using (Rep.bool false : Rep c.prog c.w φ _ _)) q)
  obtain ⟨i, hi, rfl⟩ := List.getElem_of_mem hp
  have hib : i < kb.length := hl ▸ hi
  have e1 : ka[i].1 = kb[i].1 := by
    have h1 := congrArg (fun l : List Int => l[i]?) (hka.trans hkb.symm)
    simpa [hi, hib] using h1
  obtain ⟨x, hx, rx⟩ := ra.getV (i := i) (v := ka[i].2) (by rw [List.getElem?_map, List.getElem?_eq_getElem hi]; rfl)
  obtain ⟨y, hy, ry⟩ := rb.getV (i := i) (v := kb[i].2) (by rw [List.getElem?_map, List.getElem?_eq_getElem hib]; rfl)
  rw [hx] at hy; cases hy
  refine ⟨kb[i].2, ?_, eq_refl k (hc.get hx) rx ry o.fz (by show c.A.units + 1 + k < cLine; omega)⟩
  rw [e1]
  exact valueAt_of_get hn (List.getElem?_eq_getElem hib)
/-- a list against the empty one -/
theorem ite_dec' {p : Prop} [Decidable p] {A B : Prop} (a : p → A) (b : ¬ p → B) : if decide p = true then A else B := ite_dec a b
end

/- MB31 -/
section
variable {c : Cx} {env : Env} {φ φ' ψ : Fz} {m m₀ m' : Mp} {ν νm νr νi ν' : Lg} {h h₁ h' : Heap}
def TurnIs (env : Env) (elt : Expr) (gens : List Comprehension) (scope : Scope) (pos : Pos) (k : Nat) (ip : Pos) (target : Expr) (ifs : List Expr) (emit : Value → Sem Unit) : Prop :=
  ∀ it acc, compTurn (.ListComp elt gens scope pos) k it acc env = (do
      standAt ip
      match ← pyNext it with
      | none => pure (.done .next)
      | some v =>
        letOwnedTupleGo target it v
        assign target env v
        let mut ok := true
        for t in ifs do
          if ok then ok ← isTrue t env (eval t env)
        if ok then emit acc
        again (.compLoop (.ListComp elt gens scope pos) k it acc env))
inductive LInv2 (c : Cx) {σ : Type} (νf : σ → Lg) (P : Nat → σ → Prop) (N : Nat) (mb : Mp) (φ₀ : Fz) (ν₀ : Lg) (h₀ : Heap) (Sφ : Fz → Prop) (St : Nat → Obj → Prop) (I : Addr) (s : Shared) (n : Nat) (s' : Shared) : Prop
  | mk (i : Nat) (x : σ) (h₁ : Heap) (tk₁ : Nat) (φ₁ : Fz) (ob : Obj) (es : s' = { s with heap := h₁, toks := tk₁ }) (en : n = N - i) (hi : i ≤ N) (hP : P i x) (o : Ok c φ₁ mb (νf x) h₁) (st : Step c.L φ₀ ν₀ h₀ φ₁ (νf x) h₁) (sφ : Sφ φ₁)
    (ho : h₁.get? I = some ob) (hst : St i ob) (off : Off c.L φ₁ (νf x) I)
inductive LDone (c : Cx) {σ : Type} (νf : σ → Lg) (P : Nat → σ → Prop) (N : Nat) (mb : Mp) (φ₀ : Fz) (ν₀ : Lg) (h₀ : Heap) (s s' : Shared) : Prop
  | mk (x : σ) (h' : Heap) (tk : Nat) (φ' : Fz) (es : s' = { s with heap := h', toks := tk }) (hP : P N x) (o : Ok c φ' mb (νf x) h') (st : Step c.L φ₀ ν₀ h₀ φ' (νf x) h')
inductive CNext {σ : Type} (νf : σ → Lg) (P : Nat → σ → Prop) (mb : Mp) (i : Nat) (m₄ : Mp) (ν₄ : Lg) : Prop
  | mk (y : σ) (hy : P (i + 1) y) (hs : Sub mb m₄) (e : νf y = ν₄)
abbrev EmQ (c : Cx) {σ : Type} (νf : σ → Lg) (P : Nat → σ → Prop) (mb : Mp) (i : Nat) (t : Sem Unit) (b : Bool) (m₃ : Mp) (ν₃ : Lg) : Prop := if b = true then Run c eqr t m₃ ν₃ fun (_ : Unit) m₄ ν₄ => CNext νf P mb i m₄ ν₄ else CNext νf P mb i m₃ ν₃
theorem iteT {A B : Prop} (h : A) : if true = true then A else B := h
theorem iteF {A B : Prop} (h : B) : if false = true then A else B := h
theorem if_t {A B : Prop} (h : if true = true then A else B) : A := h
theorem if_f {A B : Prop} (h : if false = true then A else B) : B := h
/-- one clause's loop, its list on the ledger -/
theorem comp_loop {σ : Type} {elt target : Expr} {gens : List Comprehension} {scope : Scope} {pos ip : Pos} {k : Nat} {ifs : List Expr} {emit : Value → Sem Unit} {ds : List D} {I : Addr} {acc : Value} {Kν : Lg → Prop} {Sφ : Fz → Prop} {St : Nat → Obj → Prop} {mb : Mp} (νf : σ → Lg) (P : Nat → σ → Prop) (x₀ : σ)
    (ht : TurnIs env elt gens scope pos k ip target ifs emit) (W : Walk c.prog c.w c.A I ds Kν Sφ St) (hK : ∀ i x, P i x → Kν (νf x)) (hp : P 0 x₀)
    (turn : ∀ i x d, ds[i]? = some d → P i x → Asg c env target d mb (νf x) fun _ m₂ ν₂ => Tsts c env ifs m₂ ν₂ (EmQ c νf P mb i (emit acc)))
    {s : Shared} {ob : Obj} {φ₀ : Fz} {ν₀ : Lg} {h₀ : Heap} (hm : Sub mb m) (o : Ok c φ m (νf x₀) s.heap) (base : Step c.L φ₀ ν₀ h₀ φ (νf x₀) s.heap) (i0 : h₀.get? I = none) (hS : Sφ φ) (hob : s.heap.get? I = some ob) (hst : St 0 ob) (off : Off c.L φ (νf x₀) I) :
    codeAny (model c.prog c.w) c.A (.compLoop (.ListComp elt gens scope pos) k (.ref I) acc env) (fun r s' => match r with
      | .ok f => LDone c νf P ds.length mb φ₀ ν₀ h₀ s s'
      | .error _ => False) s := by
  refine codeAny_loop rfl (LInv2 c νf P ds.length mb φ₀ ν₀ h₀ Sφ St I s) ?_ ds.length ⟨0, x₀, s.heap, s.toks, φ, ob, rfl, rfl, Nat.zero_le _, hp, o.weak hm, base, hS, hob, hst, off⟩
  rintro n s' ⟨i, x, h₁, tk₁, φ₁, ob₁, rfl, rfl, hi, hP, o₁, st₁, s₁, ho₁, hst₁, fI₁⟩
  show wpAny _ c.A ((compTurn (.ListComp elt gens scope pos) k (.ref I) acc env).onRaise (fun x => do noteFrame x env; theTreesLotGoes x)) _ _ _
  refine wpAny_noted ?_
  rw [ht]
  refine wpAny_bind (wpAny_standAt (wpAny_bind ?_))
  by_cases hlt : i < ds.length
  · refine W.item i φ₁ (νf x) _ _ _ ob₁ o₁.fz o₁.hasL fI₁.f fI₁.n s₁ (hK i x hP) ho₁ hst₁ hlt fun u e h₂ tk₂ ob₂ he ru ho₂ hst₂ k₂ => ?_
    have o₂ := o₁.touchO fI₁ k₂
    have st₂ := st₁.touch i0 k₂
    obtain ⟨nm, hc, hb⟩ := W.cls _ _ hst₂
    refine wpAny_bind (wpAny_letOwned ho₂ hc hb (wpAny_bind ((turn i x e he hP φ₁ u ru).use (s := { s with heap := h₂, toks := tk₂ }) o₂ fun _ _ h₃ tk₃ φ₃ m₃ ν₃ o₃ st₃ _ q₃ => ?_)))
    obtain ⟨fI₃, eI₃⟩ := fI₁.next st₃ ho₂
    have stA := st₂.trans o₂ st₃
    have tests : wpAny (model c.prog c.w) c.A (forIn ifs true fun t r => if r = true then do let ok ← isTrue t env (eval t env); pure (ForInStep.yield ok) else pure (ForInStep.yield r))
        (Fin c eqr (EmQ c νf P mb i (emit acc)) φ₃ ν₃ { s with heap := h₃, toks := tk₃ })
        (fun _ _ => False) { s with heap := h₃, toks := tk₃ } := by
      unfold Tsts at q₃
      split at q₃
      · exact wpAny_tests_nil ⟨h₃, tk₃, φ₃, m₃, ν₃, true, rfl, o₃, .refl, rfl, q₃⟩
      · exact wpAny_tests_one (q₃ φ₃ { s with heap := h₃, toks := tk₃ } o₃)
      · exact q₃.elim
    refine wpAny_bind (wpAny_mono tests (fun b s₄ f => ?_) fun _ _ x => x.elim)
    obtain ⟨h₄, tk₄, φ₄, m₄, ν₄, b', rfl, o₄, st₄, rb, q₄⟩ := f
    obtain rfl : b = b' := rb
    obtain ⟨fI₄, eI₄⟩ := fI₃.next st₄ eI₃
    have stB := stA.trans o₃ st₄
    have up : ∀ {ψ}, Le φ₁ ψ → Sφ ψ := fun l => W.up l s₁
    cases b with
    | false =>
      obtain ⟨y, hy, hsub, rfl⟩ := if_f q₄
      exact wpAny_pure ⟨rfl, ds.length - (i + 1), Nat.sub_lt_sub_left hlt (Nat.lt_succ_self i), i + 1, y, h₄, tk₄, φ₄, ob₂, rfl, rfl, hlt, hy, o₄.weak hsub, stB, up fun a o e => st₄.mono a o (st₃.mono a o e), eI₄, hst₂, fI₄⟩
    | true =>
      refine wpAny_bind ((if_t q₄ φ₄).use (s := { s with heap := h₄, toks := tk₄ }) o₄ fun _ _ h₅ tk₅ φ₅ m₅ ν₅ o₅ st₅ _ q₅ => ?_)
      obtain ⟨y, hy, hsub, rfl⟩ := q₅
      obtain ⟨fI₅, eI₅⟩ := fI₄.next st₅ eI₄
      exact wpAny_pure ⟨rfl, ds.length - (i + 1), Nat.sub_lt_sub_left hlt (Nat.lt_succ_self i), i + 1, y, h₅, tk₅, φ₅, ob₂, rfl, rfl, hlt, hy, o₅.weak hsub, stB.trans o₄ st₅, up fun a o e => st₅.mono a o (st₄.mono a o (st₃.mono a o e)), eI₅, hst₂, fI₅⟩
  · have hin : i = ds.length := Nat.le_antisymm hi (Nat.not_lt.mp hlt)
    subst hin
    refine W.done φ₁ (νf x) _ _ _ ob₁ o₁.fz o₁.hasL fI₁.f fI₁.n s₁ (hK _ x hP) ho₁ hst₁ fun h₂ tk₂ k₂ => ?_
    exact wpAny_pure ⟨x, h₂, tk₂, φ₁, rfl, hP, o₁.touchO fI₁ k₂, st₁.touch i0 k₂⟩
theorem comp_start {elt : Expr} {gens : List Comprehension} {g : Comprehension} {scope : Scope} {pos : Pos} {k : Nat} {it acc : Value} {prog : Program} {w : World} {A : Around} {R : Result → Shared → Prop} {s : Shared} (hg : gens[k]? = some g) (ha : g.is_async = 0)
    (h0 : codeAny (model prog w) A (.compLoop (.ListComp elt gens scope pos) k it acc env) R s)
    (h : wpAny (model prog w) A (pyIter it) (fun it' s' => codeAny (model prog w) A (.compLoop (.ListComp elt gens scope pos) k it' acc env) R s') (fun _ _ => False) s) :
    codeAny (model prog w) A (.compStart (.ListComp elt gens scope pos) k it acc env) R s := by
  refine codeAny_of_tree ?_
  show wpAny _ _ ((compStart (.ListComp elt gens scope pos) k it acc env).onRaise (fun x => do noteFrame x env; standAt theWindowsPlace)) _ _ s
  refine wpAny_notedAt ?_
  unfold compStart
  have e1 : ((clausesOf (.ListComp elt gens scope pos))[k]?).elim false (·.is_async != 0) = false := by
    show (gens[k]?).elim false (·.is_async != 0) = false
    rw [hg]; show (g.is_async != 0) = false; rw [ha]; rfl
  have e2 : (clausesOf (.ListComp elt gens scope pos))[k]? = some g := hg
  rw [e1]
  simp only [Bool.false_eq_true, if_false]
  refine wpAny_bind (wpAny_askSetting (wpAny_ite ?_))
  split
  · exact wpAny_pure ⟨rfl, h0⟩
  · refine wpAny_bind (wpAny_rule ?_)
    rw [e2]
    refine wpAny_bind (wpAny_standAt (wpAny_bind (wpAny_mono h (fun it' s' h' => wpAny_pure ⟨rfl, h'⟩) fun _ _ x => x.elim)))
end

/- MB32 -/
section
variable {c : Cx} {env : Env} {φ φ' ψ : Fz} {m m₀ m' : Mp} {ν νm νr νi ν' : Lg} {h h₁ h' : Heap}
def emit1 (env : Env) (elt : Expr) (acc : Value) : Sem Unit := do let _ ← call (.builtin "list.append") [acc, ← eval elt env]
def emit2 (env : Env) (e : Expr) (it2 : Expr) (acc : Value) : Sem Unit := do
  let x ← eval it2 env
  standAt it2.pos
  let x ← foldedSetIterable it2 env x
  let _ ← runOwn (.compStart e 1 (← holding [x] (pyIter x)) acc env) env
theorem turnIs2a (elt t1 it1 t2 it2 : Expr) (ifs1 ifs2 : List Expr) (scope : Scope) (pos : Pos) (env : Env) :
    TurnIs env elt [⟨t1, it1, ifs1, 0⟩, ⟨t2, it2, ifs2, 0⟩] scope pos 0 it1.pos t1 ifs1 (emit2 env (.ListComp elt [⟨t1, it1, ifs1, 0⟩, ⟨t2, it2, ifs2, 0⟩] scope pos) it2) := by
  intro it acc
  unfold emit2
  simp only [bind_assoc]
  rfl
theorem turnIs2b (elt t1 it1 t2 it2 : Expr) (ifs1 ifs2 : List Expr) (scope : Scope) (pos : Pos) (env : Env) :
    TurnIs env elt [⟨t1, it1, ifs1, 0⟩, ⟨t2, it2, ifs2, 0⟩] scope pos 1 it2.pos t2 ifs2 (emit1 env elt) := fun _ _ => rfl
theorem run_emit1 {elt : Expr} {acc : Value} {Q : Unit → Mp → Lg → Prop} (h : Run c (V c) (eval elt env) m ν fun e m₁ ν₁ => CallD c (.builtin "list.append") [.raw acc, e] m₁ ν₁ fun _ m₂ ν₂ => Q () m₂ ν₂) : Run c eqr (emit1 env elt acc) m ν Q := by
  intro φ s o
  refine wpAny_bind ((h φ).use o fun u e h₁ tk₁ φ₁ m₁ ν₁ o₁ st ru q => ?_)
  refine wpAny_bind ((q φ₁ [acc, u] (.cons (.raw _) (.cons ru .nil))).use (s := { s with heap := h₁, toks := tk₁ }) o₁ fun _ _ h₂ tk₂ φ₂ m₂ ν₂ o₂ st₂ _ q₂ => ?_)
  exact wpAny_pure ⟨h₂, tk₂, φ₂, m₂, ν₂, (), rfl, o₂, st.trans o₁ st₂, rfl, q₂⟩
/-- the inner clause -/
theorem run_emit2 {elt t1 it1 t2 it2 : Expr} {ifs1 : List Expr} {scope : Scope} {pos : Pos} {Dd : Addr} {acc : List D} {ν₀ : Lg} {ys : List D} {g : D → D} {mb : Mp} (hh : c.A.handled = none) (hs2 : ∀ x, foldedSetIterable it2 env x = pure x)
    (hl : acc.length + ys.length ≤ 90000)
    (turn : ∀ ac y, y ∈ ys → Asg c env t2 y mb ((Dd, .lst ac) :: ν₀) fun _ m₂ ν₂ => Run c (V c) (eval elt env) m₂ ν₂ fun e m₃ ν₃ => e = g y ∧ Sub mb m₃ ∧ ν₃ = (Dd, .lst ac) :: ν₀)
    (h : Run c (V c) (eval it2 env) m ν fun d m₁ ν₁ => d = .lst ys ∧ Sub mb m₁ ∧ ν₁ = (Dd, .lst acc) :: ν₀) :
    Run c eqr (emit2 env (.ListComp elt [⟨t1, it1, ifs1, 0⟩, ⟨t2, it2, [], 0⟩] scope pos) it2 (.ref Dd)) m ν fun (_ : Unit) m₄ ν₄ => Sub mb m₄ ∧ ν₄ = (Dd, .lst (acc ++ ys.map g)) :: ν₀ := by
  intro φ s o
  refine wpAny_bind ((h φ).use o fun u d h₁ tk₁ φ₁ m₁ ν₁ o₁ st ru q => ?_)
  obtain ⟨rfl, hsub, rfl⟩ := q
  refine wpAny_bind (wpAny_standAt (wpAny_bind (wpAny_of_eq (hs2 u) (wpAny_bind (wpAny_holding ?_)))))
  refine iter_lst hh φ₁ u _ { s with heap := h₁, toks := tk₁ } _ _ ru o₁.fz o₁.hasL trivial fun I hI tkI obI Sφ St i0 W sφ hobI st0 keepI => ?_
  have offI := o₁.off i0
  have loop : ∀ {R : Result → Shared → Prop}, (∀ x h' tk φ', x = acc ++ ys.map g → Ok c φ' mb ((Dd, .lst x) :: ν₀) h' → Step c.L φ₁ ((Dd, .lst acc) :: ν₀) h₁ φ' ((Dd, .lst x) :: ν₀) h' → ∀ f, R (.ok f) { s with heap := h', toks := tk }) →
      codeAny (model c.prog c.w) c.A (.compLoop (.ListComp elt [⟨t1, it1, ifs1, 0⟩, ⟨t2, it2, [], 0⟩] scope pos) 1 (.ref I) (.ref Dd) env) R { s with heap := hI, toks := tkI } := by
    intro R hR
    refine codeAny_mono (comp_loop (c := c) (env := env) (ds := ys) (mb := mb) (m := m₁) (φ := φ₁) (φ₀ := φ₁) (ν₀ := (Dd, .lst acc) :: ν₀) (h₀ := h₁) (s := { s with heap := hI, toks := tkI }) (ob := obI) (fun x : List D => (Dd, MO.lst x) :: ν₀) (fun i x => x = acc ++ (ys.take i).map g) acc (turnIs2b elt t1 it1 t2 it2 ifs1 [] scope pos env) W (fun _ _ _ => trivial) (by simp) (fun i x d hd hP => ?_) hsub (o₁.grow keepI) (Step.grow keepI) i0 sφ hobI st0 offI) fun r s' y => ?_
    · subst hP
      have hm := List.mem_of_getElem? hd
      have hi := (List.getElem?_eq_some_iff.mp hd).1
      intro φ v rv s o
      refine wpAny_mono (turn _ d hm φ v rv s o) (fun _ _ f => ?_) fun _ _ x => x
      obtain ⟨h', tk, φ', m', ν', b, e1, e2, e3, e4, hT⟩ := f
      refine ⟨h', tk, φ', m', ν', b, e1, e2, e3, e4, ?_⟩
      refine tsts_nil (iteT ?_)
      refine run_emit1 (hT.mono fun e m₃ ν₃ z => ?_)
      obtain ⟨rfl, hs3, rfl⟩ := z
      refine call_append .head (by rw [List.length_append, List.length_map, List.length_take]; omega) ?_
      refine ⟨_, ?_, hs3, rfl⟩
      rw [List.take_succ, hd]; simp
    · cases r with
      | error e => exact y.elim
      | ok f =>
        obtain ⟨x, h', tk, φ', rfl, hx, ok, stp⟩ := y
        rw [List.take_length] at hx
        exact hR x h' tk φ' hx ok stp f
  refine wpAny_bind (wpAny_runOwn (E := fun _ _ => False) (comp_start (g := ⟨t2, it2, [], 0⟩) rfl rfl (loop ?_) (W.self 0 _ _ _ obI hobI st0 (loop ?_))))
  · intro x h' tk φ' hx ok stp f
    exact wpAny_pure ⟨h', tk, φ', mb, _, (), rfl, ok, st.trans o₁ stp, rfl, Sub.refl _, by rw [hx]⟩
  · intro x h' tk φ' hx ok stp f
    exact wpAny_pure ⟨h', tk, φ', mb, _, (), rfl, ok, st.trans o₁ stp, rfl, Sub.refl _, by rw [hx]⟩
/-- two clauses, nothing changed -/
theorem ev_ListComp2 {α : Type} {elt t1 it1 t2 it2 : Expr} {ifs1 : List Expr} {scope : Scope} {pos : Pos} {Q : D → Mp → Lg → Prop} (fs : List (Str × Addr)) (ns' gs : List Str) (mb : Mp) (xs : List α) (enc : α → D) (p : α → Bool) (ys : α → List D) (g : D → D)
    (hh : c.A.handled = none) (E : EnvOk c env) (hchk : compChk scope ns' gs = true) (hcs : CS env fs) (hf : (scope.names.filter (fun p => p.2 == .free)).map (·.1) = fs.map (·.1)) (hnd : (fs.map (·.1)).Nodup) (hmb : mb = blank ns') (hl : ((xs.filter p).flatMap ys).length ≤ 90000)
    (h : Run c (V c) (eval it1 env) m ν fun d m₁ ν₁ => d = .lst (xs.map enc) ∧
      (∀ C env' Dd ac x, x ∈ xs → EnvOk (c.in c.A C ns') env' → GN env' gs → CS env' fs → Asg (c.in c.A C ns') env' t1 (enc x) mb ((Dd, .lst ac) :: ν₁) fun _ m₂ ν₂ => Tsts (c.in c.A C ns') env' ifs1 m₂ ν₂ fun b m₃ ν₃ => b = p x ∧
        if b = true then Run (c.in c.A C ns') (V c) (eval it2 env') m₃ ν₃ fun d m₄ ν₄ => d = .lst (ys x) ∧ Sub mb m₄ ∧ ν₄ = (Dd, .lst ac) :: ν₁ else Sub mb m₃ ∧ ν₃ = (Dd, .lst ac) :: ν₁) ∧
      (∀ C env' Dd ac x y, x ∈ xs → y ∈ ys x → EnvOk (c.in c.A C ns') env' → GN env' gs → CS env' fs → Asg (c.in c.A C ns') env' t2 y mb ((Dd, .lst ac) :: ν₁) fun _ m₂ ν₂ => Run (c.in c.A C ns') (V c) (eval elt env') m₂ ν₂ fun e m₃ ν₃ => e = g y ∧ Sub mb m₃ ∧ ν₃ = (Dd, .lst ac) :: ν₁) ∧
      Q (.lst (((xs.filter p).flatMap ys).map g)) m₁ ν₁)
    (hs : ∀ x, foldedSetIterable it1 env x = pure x := by intro _; rfl) (hs2 : ∀ env' x, foldedSetIterable it2 env' x = pure x := by intro _ _; rfl) :
    Run c (V c) (eval (.ListComp elt [⟨t1, it1, ifs1, 0⟩, ⟨t2, it2, [], 0⟩] scope pos) env) m ν Q := by
  intro φ s o
  rw [arm_eval_ListComp]
  obtain ⟨hcell, hkind, hnm⟩ := chk_parts hchk
  have pnd : ns'.Nodup := by simp only [compChk, Bool.and_eq_true, decide_eq_true_eq] at hchk; exact hchk.1.1.1.1.1
  refine wpAny_comprehension_free rfl hs (closure_eq hf hcs.look) hkind hnm ((h φ).use (s := s) o fun v d h₁ tk₁ φ₁ m₁ ν₁ o₁ st r q => ?_)
  obtain ⟨rfl, turn, turn2, q⟩ := q
  refine iter_lst hh φ₁ v ν₁ { s with heap := h₁, toks := tk₁ } _ _ r o₁.fz o₁.hasL trivial fun I hI tkI obI Sφ St i0 W sφ hobI st0 keepI => ?_
  refine wpAny_newObj_type (wpAny_newFunctionEnv hcell (by intro y hy; simp at hy) (fun h₃ hns₃ hsb₃ => ?_) hkind)
  dsimp only at hns₃ hsb₃ keepI i0 ⊢
  generalize hD : hI.objs.size = Dd at hns₃ hsb₃ ⊢
  generalize hC : (hI.push { cls := .type "list", dict := none, data := .seq ([] : List Value).toArray }).objs.size = C at hns₃ hsb₃ ⊢
  have eC : C = Dd + 1 := by rw [← hC, Heap.size_push, hD]
  have lt : ∀ b ob, hI.get? b = some ob → b < Dd := fun b ob e => hD ▸ Heap.lt_size e
  have keep3 : ∀ b ob, hI.get? b = some ob → h₃.get? b = some ob := fun b ob e => hsb₃.extBut b ob (by have := lt b ob e; rw [eC]; exact Nat.ne_of_lt (Nat.lt_succ_of_lt this)) (Heap.get?_push_of_some _ (Heap.get?_push_of_some _ e))
  have keep : ∀ b ob, h₁.get? b = some ob → h₃.get? b = some ob := fun b ob e => keep3 b ob (keepI b ob e)
  have none_of : ∀ b, Dd ≤ b → h₁.get? b = none := fun b hb => by
    cases q : h₁.get? b with
    | none => rfl
    | some ob => exact absurd (lt b ob (keepI b ob q)) (Nat.not_lt.mpr hb)
  have nDs : h₁.get? Dd = none := none_of Dd (Nat.le_refl _)
  have nCs : h₁.get? C = none := none_of C (by rw [eC]; exact Nat.le_succ _)
  have hIlt : I < Dd := lt I obI hobI
  have hDC : Dd ≠ C := by rw [eC]; exact Nat.ne_of_lt (Nat.lt_succ_self _)
  have hIC : I ≠ C := by rw [eC]; exact Nat.ne_of_lt (Nat.lt_succ_of_lt hIlt)
  have hID : I ≠ Dd := Nat.ne_of_lt hIlt
  have e3D : h₃.get? Dd = some (listOf (List.toArray []) 0) := hsb₃.extBut Dd _ hDC (Heap.get?_push_of_some _ (hD ▸ Heap.get?_push_size hI rfl))
  have e3I : h₃.get? I = some obI := keep3 I obI hobI
  have o0 : Ok c φ₁ m₁ (ν₁ ++ []) h₁ := by rw [List.append_nil]; exact o₁
  have oc : Ok (c.in c.A C ns') φ₁ (blank ns') ν₁ h₃ := o0.enter (A := c.A) keep nCs pnd hns₃ (blank_names ns' _)
  have offI : Off C φ₁ ν₁ I := ⟨Ne.symm hIC, (o₁.off i0).f, (o₁.off i0).n⟩
  have offD : Off C φ₁ ν₁ Dd := ⟨Ne.symm hDC, (o₁.off nDs).f, (o₁.off nDs).n⟩
  have ocD := oc.push (mo := .lst []) offD e3D (.lst .nil)
  have base : Step C φ₁ ν₁ h₁ φ₁ ((Dd, MO.lst []) :: ν₁) h₃ := (Step.grow keep).push nDs
  obtain ⟨E', hg⟩ := cEnv_ok (C := C) (cl := fs.reverse) E hchk
  have hc' := cEnv_CS (C := C) (cl := fs.reverse) E hcs hf hnd
  have hlen : ∀ i x, xs[i]? = some x → p x = true → (((xs.take i).filter p).flatMap ys).length + (ys x).length ≤ 90000 := fun i x hx hp => by
    have e : xs.filter p = (xs.take i).filter p ++ x :: (xs.drop (i + 1)).filter p := by
      have h1 : xs = xs.take i ++ x :: xs.drop (i + 1) := by
        obtain ⟨hi, ex⟩ := List.getElem?_eq_some_iff.mp hx
        rw [← ex, List.getElem_cons_drop, List.take_append_drop]
      conv => lhs; rw [h1]
      rw [List.filter_append, List.filter_cons, if_pos hp]
    rw [e, List.flatMap_append, List.flatMap_cons, List.length_append, List.length_append] at hl
    omega
  have loop : ∀ {R : Result → Shared → Prop}, (∀ acc h' tk φ', acc = ((xs.filter p).flatMap ys).map g → Ok (c.in c.A C ns') φ' (blank ns') ((Dd, .lst acc) :: ν₁) h' → Step C φ₁ ν₁ h₁ φ' ((Dd, .lst acc) :: ν₁) h' → R (.ok .next) { s with heap := h', toks := tk }) → (∀ s' f, R (.ok f) s' = R (.ok .next) s') → ∀ tk,
      codeAny (model c.prog c.w) c.A (.compLoop (.ListComp elt [⟨t1, it1, ifs1, 0⟩, ⟨t2, it2, [], 0⟩] scope pos) 0 (.ref I) (.ref Dd) (cEnv scope fs.reverse C env)) R { s with heap := h₃, toks := tk } := by
    intro R hR hRf tk
    subst hmb
    refine codeAny_mono (comp_loop (c := c.in c.A C ns') (env := cEnv scope fs.reverse C env) (ds := xs.map enc) (mb := blank ns') (m := blank ns') (φ := φ₁) (φ₀ := φ₁) (ν₀ := ν₁) (h₀ := h₁) (s := { s with heap := h₃, toks := tk }) (ob := obI) (fun x : List D => (Dd, MO.lst x) :: ν₁) (fun i x => x = (((xs.take i).filter p).flatMap ys).map g) [] (turnIs2a elt t1 it1 t2 it2 ifs1 [] scope pos _) W (fun _ _ _ => trivial) (by simp) (fun i x d hd hP => ?_) (Sub.refl _) ocD base i0 sφ e3I st0 (offI.cons (Ne.symm hID))) fun r s' y => ?_
    · subst hP
      rw [List.getElem?_map] at hd
      cases hx : xs[i]? with
      | none => rw [hx] at hd; cases hd
      | some x =>
      rw [hx] at hd
      simp only [Option.map_some, Option.some.injEq] at hd
      subst hd
      have hm := List.mem_of_getElem? hx
      have htk : xs.take (i + 1) = xs.take i ++ [x] := by rw [List.take_succ, hx]; rfl
      intro φ v rv s o
      refine wpAny_mono (turn C _ Dd _ x hm E' ⟨hg⟩ hc' φ v rv s o) (fun _ _ f => ?_) fun _ _ x => x
      obtain ⟨h', tk, φ', m', ν', b, e1, e2, e3, e4, hT⟩ := f
      refine ⟨h', tk, φ', m', ν', b, e1, e2, e3, e4, ?_⟩
      have key : ∀ (b : Bool) m₃ ν₃, (b = p x ∧ if b = true then Run (c.in c.A C ns') (V c) (eval it2 (cEnv scope fs.reverse C env)) m₃ ν₃ fun d m₄ ν₄ => d = .lst (ys x) ∧ Sub (blank ns') m₄ ∧ ν₄ = (Dd, .lst ((((xs.take i).filter p).flatMap ys).map g)) :: ν₁ else Sub (blank ns') m₃ ∧ ν₃ = (Dd, .lst ((((xs.take i).filter p).flatMap ys).map g)) :: ν₁) →
          EmQ (c.in c.A C ns') (fun x : List D => (Dd, MO.lst x) :: ν₁) (fun i x => x = (((xs.take i).filter p).flatMap ys).map g) (blank ns') i (emit2 (cEnv scope fs.reverse C env) (.ListComp elt [⟨t1, it1, ifs1, 0⟩, ⟨t2, it2, [], 0⟩] scope pos) it2 (.ref Dd)) b m₃ ν₃ := by
        rintro b m₃ ν₃ ⟨hb, hz⟩
        cases b with
        | true =>
          have hz := if_t hz
          refine iteT ((run_emit2 (c := c.in c.A C ns') (g := g) hh (hs2 _) (by rw [List.length_map]; exact hlen i x hx hb.symm) (fun ac y hy => turn2 C _ Dd ac x y hm hy E' ⟨hg⟩ hc') hz).mono fun _ m₄ ν₄ z => ⟨_, rfl, z.1, ?_⟩)
          rw [z.2, htk]; simp [← hb]
        | false =>
          have hz := if_f hz
          refine iteF ⟨_, rfl, hz.1, ?_⟩
          rw [hz.2, htk]; simp [← hb]
      unfold Tsts at hT ⊢
      split at hT
      · exact key _ _ _ hT
      · exact Run.mono hT fun b m₃ ν₃ z => key _ _ _ z
      · exact hT.elim
    · cases r with
      | error e => exact y.elim
      | ok f =>
        obtain ⟨x, h', tk, φ', rfl, hx, ok, stp⟩ := y
        rw [List.length_map, List.take_length] at hx
        rw [hRf]
        exact hR x h' tk φ' hx ok stp
  have fin : ∀ acc h' tk φ', acc = ((xs.filter p).flatMap ys).map g → Ok (c.in c.A C ns') φ' (blank ns') ((Dd, .lst acc) :: ν₁) h' → Step C φ₁ ν₁ h₁ φ' ((Dd, .lst acc) :: ν₁) h' →
      ∃ mC, h'.Ns C mC ∧ ∀ h'', Heap.SameBut C h' h'' → Fin c (V c) Q φ ν s (.ref Dd) { s with heap := h'', toks := tk } := by
    intro acc h' tk φ' hacc ok stp
    obtain ⟨mC, hmC, _⟩ := ok.ns
    refine ⟨mC, hmC, fun h'' hsb => ?_⟩
    obtain ⟨okc, stc⟩ := nest o0 (fun _ _ e => e) nCs ok stp
    rw [List.append_nil] at okc
    rw [List.append_nil, List.append_nil] at stc
    have offC : Off c.L φ' ((Dd, MO.lst acc) :: ν₁) C := ⟨(o₁.off nCs).l, ok.fzL, fun p hp => (ok.lg p hp).l⟩
    have k : ∀ b ob, b ≠ C → h'.get? b = some ob → h''.get? b = some ob := fun b ob hb e => hsb.extBut b ob hb e
    have o₂ := okc.touchO offC k
    have st₂ := stc.touch nCs k
    obtain ⟨ob, e, mr, o₃⟩ := o₂.unpush
    cases mr with
    | lst ra => exact ⟨h'', tk, _, m₁, ν₁, .lst acc, rfl, o₃, st.trans o₁ st₂.unpush, .lst addF_here (ra.up le_addF), hacc ▸ q⟩
  refine comp_start (g := ⟨t1, it1, ifs1, 0⟩) rfl rfl (loop ?_ (fun _ _ => rfl) _) (W.self 0 _ _ _ obI e3I st0 (loop ?_ (fun _ _ => rfl) _))
  · intro acc h' tk φ' hacc ok stp
    exact fin acc h' _ φ' hacc ok stp
  · intro acc h' tk φ' hacc ok stp
    exact fin acc h' _ φ' hacc ok stp
end

/- the walk -/
example : PySem.Challenge.rw_nz0312_01 = PySem.Challenge.rw_nz0312_01 ∧ t0.heap_1_1 = t0.heap_1_1 := by
  k_fill
  exact ⟨rfl, rfl⟩
local macro_rules | `(tactic| tb_rel) => `(tactic| first
  | with_reducible exact At.head
  | ((with_reducible apply At.tail); tb_rel)
  | with_reducible exact SetAt.head
  | ((with_reducible apply SetAt.tail); tb_rel)
  | with_reducible exact AtL.head
  | ((with_reducible apply AtL.tail); tb_rel)
  | with_reducible exact UpdL.head
  | ((with_reducible apply UpdL.tail); tb_rel)
  | with_reducible exact PutA.here
  | with_reducible exact PutA.nil
  | ((with_reducible refine' PutA.there ?n ?p); (case n => rfl); (case p => tb_rel))
  | with_reducible exact Sub.nil
  | ((with_reducible refine Sub.same ?_); tb_rel)
  | ((with_reducible refine Sub.drop ?_); tb_rel)
  | with_reducible assumption
  | with_reducible exact List.mem_cons_self
  | ((with_reducible refine List.mem_cons_of_mem _ ?_); tb_rel))
local macro_rules | `(tactic| k_mem) => `(tactic| first | exact Kp.blt _ | exact Kp.typ _ | ((first | apply k_place_of | apply k_number_in | apply k_raised | apply k_add_letter | apply k_set_flags | apply k_expunge | apply k_ends_of | apply k_plain_set | apply k_ranges_of | apply k_has | apply k_members | apply k_numbers_in | apply k_changed_since | apply k_is_forgotten | apply k_missing_uids | apply k_gone_since | apply k_vanished_since | apply k_held_pairs | apply k_agreed_uid | apply k_resync | apply k_forget_gone | apply k_place_among | apply k_flag_pairs | apply k_resync_answers | apply k__law_pen | apply k__law_draw | apply k__law_flags | apply k__law_deed | apply k__law_copy | apply k__law_brought | apply k__law_gone | apply k_system_flags | apply k_is_keyword | apply k_flag_name | apply k_flag_tuple | apply k_Letter | apply k_Box | apply k_Atom | apply k_View | apply k_103 | apply k_117 | apply k_138 | apply k_150 | apply k_155 | apply k_311 | apply k_338 | apply k_345 | apply k_371); assumption))
local macro_rules | `(tactic| tb_start) => `(tactic| first
  | (with_reducible first | refine ex_cons ?_ | refine ex_nil ?_ | refine ex_Pass ?_ | refine ex_Return ?_ | refine ex_If ?_ | refine ev_int ?_ | refine ev_str ?_ | refine ev_bool ?_ | refine ev_none ?_ | refine ev_BinOp ?_ | refine ev_UnaryOp ?_ | refine ev_Sub ?_ | refine ev_Tuple ?_ | refine ev_DictM ?_ | refine ev_IfExp ?_ | refine ar_nil ?_ | refine ts_Not ?_ | refine ts_And2 ?_ | refine ts_Or2 ?_ | refine bin_add ?_ | refine bin_sub ?_ | refine inp_add ?_ | refine una_neg ?_ | refine cmp_eq ?_ | refine cmp_ne ?_ | refine cmp_lt ?_ | refine cmp_le ?_ | refine cmp_gt ?_ | refine cmp_ge ?_ | refine tru_bool ?_ | refine tru_int ?_ | refine call_range1 ?_ | refine call_range2 ?_ | refine ite_f ?_ | refine ite_t ?_ | refine ite_nf ?_ | refine ite_nt ?_ | refine call_abs ?_ | refine call_int ?_ | refine call_tuple_tup ?_ | refine cmp_isNot_f ?_ | refine cmp_is_t ?_ | refine gm_lower ?_ | refine gm_split ?_ | refine cmp_eq_str ?_ | refine tsts_nil ?_ | refine tsts_one ?_ | refine turn_t ?_ | refine calld_app ?_)
  | ((with_reducible refine ex_For ?h ?hs); (case hs => intro _; rfl))
  | ((with_reducible refine ex_Swap2 ?E ?hh ?h ?hs ?hw); (case E => assumption); (case hh => exact AOk.h (by assumption)); (case hs => rfl); (case hw => exact swapped2 (by assumption) (by tb_rel) (by tb_rel) rfl rfl rfl rfl rfl))
  | ((with_reducible refine' ex_AssignCell ?E ?k ?h); (case E => assumption); (case k => exact CS.get (by assumption) (by tb_rel)))
  | ((with_reducible refine ex_Assign ?E ?h ?hs); (case E => assumption); (case hs => rfl))
  | ((with_reducible refine' ex_AugAssign ?E ?a ?h); (case E => assumption); (case a => tb_rel))
  | ((with_reducible refine ex_AssignSub ?h ?hs); (case hs => rfl))
  | ((with_reducible refine ex_AssignAttr ?h ?hs); (case hs => rfl))
  | ((with_reducible refine ex_Expr ?E ?h ?hs); (case E => assumption); (case hs => rfl))
  | ((with_reducible refine' ev_local ?E ?a ?q); (case E => assumption); (case a => tb_rel))
  | ((with_reducible refine' ev_cell ?E ?k ?m ?q); (case E => assumption); (case k => exact CS.get (by assumption) (by tb_rel)); (case m => tb_rel))
  | ((with_reducible refine' ev_global ?E ?g ?x ?q); (case E => assumption); (case g => ((first | apply g_len | apply g_range | apply g_sorted | apply g_list | apply g_dict | apply g_tuple | apply g_min | apply g_max | apply g_zip | apply g_int | apply g_abs | apply g_ord | apply g_place_of | apply g_number_in | apply g_raised | apply g_add_letter | apply g_set_flags | apply g_expunge | apply g_ends_of | apply g_plain_set | apply g_ranges_of | apply g_has | apply g_members | apply g_numbers_in | apply g_changed_since | apply g_is_forgotten | apply g_missing_uids | apply g_gone_since | apply g_vanished_since | apply g_held_pairs | apply g_agreed_uid | apply g_resync | apply g_forget_gone | apply g_place_among | apply g_flag_pairs | apply g_resync_answers | apply g__law_pen | apply g__law_draw | apply g__law_flags | apply g__law_deed | apply g__law_copy | apply g__law_brought | apply g__law_gone | apply g_system_flags | apply g_is_keyword | apply g_flag_name | apply g_flag_tuple | apply g_Letter | apply g_Box | apply g_Atom | apply g_View | apply g_SYSTEM | apply g_NO_KEYWORD | apply g_MOST_KEYWORD); assumption)); (case x => exact GN.get (by assumption) (by tb_rel)))
  | ((with_reducible refine ev_Compare ?h ?hm); (case hm => with_unfolding_all rfl))
  | ((with_reducible refine ev_Attr ?h ?he); (case he => with_unfolding_all rfl))
  | ((with_reducible refine' ev_Method ?h ?he ?hp ?hs); (case he => rfl); (case hp => rfl); (case hs => first | exact .inl rfl | exact .inr ⟨_, _, rfl, rfl⟩))
  | ((with_reducible refine ev_Call ?h ?he ?hp ?hs); (case he => rfl); (case hp => rfl); (case hs => first | exact .inl rfl | exact .inr ⟨_, _, rfl, rfl⟩))
  | ((with_reducible refine ar_cons ?h ?he); (case he => rfl))
  | ((with_reducible refine ts_Compare ?h ?hm); (case hm => with_unfolding_all rfl))
  | ((with_reducible refine ts_Compare2 ?h ?he); (case he => with_unfolding_all rfl))
  | ((with_reducible refine ts_value ?h ?he); (case he => rfl))
  | ((with_reducible refine' asg_name ?E ?sa ?q); (case E => assumption); (case sa => tb_rel))
  | ((with_reducible refine' asg_pair ?E ?hh ?sa ?sb ?q); (case E => assumption); (case hh => exact AOk.h (by assumption)); (case sa => tb_rel); (case sb => tb_rel))
  | ((with_reducible refine callee_ok ?k ?h); (case k => k_mem))
  | ((with_reducible refine' set_ok ?sa ?q); (case sa => tb_rel))
  | ((with_reducible refine' cset_ok ?sa ?q); (case sa => tb_rel))
  | ((with_reducible refine' swap_ok ?sb ?sa ?q); (case sb => tb_rel); (case sa => tb_rel))
  | ((with_reducible refine len_ok ?l ?q); (case l => (simp; done)))
  | ((with_reducible refine' ga_field ?f ?g ?a ?k ?q); (case f => first | with_reducible exact .frozen | exact .live (BoxIn.a (by assumption)) | exact .live (by tb_rel)); (case g => ((with_reducible first | apply ag_120_uid | apply ag_120_octets | apply ag_120_flags | apply ag_120_instant | apply ag_120_modseq | apply ag_321_text | apply ag_374_box | apply ag_374_is_readonly | apply ag_374_uses_modseq | apply ag_374_uses_vanished | apply ag_374_uids | apply ag_374_flags | apply ag_374_modseqs | apply ag_158_name | apply ag_158_validity | apply ag_158_next_uid | apply ag_158_top | apply ag_158_floor | apply ag_158_letters | apply ag_158_gone); assumption)); (case a => tb_rel); (case k => first | exact trivial | rfl))
  | ((with_reducible refine' sa_live ?g ?p ?z ?u ?q); (case u => tb_rel); (case g => ((with_reducible first | apply as_120_uid | apply as_120_octets | apply as_120_flags | apply as_120_instant | apply as_120_modseq | apply as_321_text | apply as_374_box | apply as_374_is_readonly | apply as_374_uses_modseq | apply as_374_uses_vanished | apply as_374_uids | apply as_374_flags | apply as_374_modseqs | apply as_158_name | apply as_158_validity | apply as_158_next_uid | apply as_158_top | apply as_158_floor | apply as_158_letters | apply as_158_gone); assumption)); (case p => tb_rel); (case z => (show _ < 900; decide)))
  | ((with_reducible refine call_min ?hh ?q); (case hh => exact AOk.h (by assumption)))
  | ((with_reducible refine call_max ?hh ?q); (case hh => exact AOk.h (by assumption)))
  | ((with_reducible refine' gm_append ?m ?q); (case m => tb_rel))
  | ((with_reducible refine' call_append ?u ?l ?q); (case u => tb_rel); (case l => (first | omega | ((simp only [List.length_map]); omega))))
  | ((with_reducible refine' su_list ?s (.live ?m) ?h0 ?hb ?e ?q); (case s => intro _ _; rfl); (case h0 => decide); (case hb => decide); (case m => tb_rel); (case e => rfl))
  | ((with_reducible refine' su_tup ?s ?h0 ?hb ?e ?q); (case s => intro _ _; rfl); (case h0 => decide); (case hb => decide); (case e => rfl))
  | ((with_reducible refine' si_list ?h0 ?hb ?l ?u ?q); (case h0 => decide); (case hb => decide); (case u => tb_rel); (case l => first | (simp; done) | (simp; omega)))
  | ((with_reducible refine cmp_isNot_t ?s ?e ?q); (case s => exact trivial); (case e => rfl))
  | ((with_reducible refine cmp_is_f ?s ?e ?q); (case s => exact trivial); (case e => rfl))
  | ((with_reducible refine' gm_sort ?m ?q); (case m => tb_rel))
  | ((with_reducible refine' gm_extend ?m ?q); (case m => tb_rel))
  | ((with_reducible refine And.intro ?k ?h); (case k => k_mem))
  | ((with_reducible refine' gm_own ?f ?g ?x ?q); (case f => first | with_reducible exact .frozen | exact .live (BoxIn.a (by assumption)) | exact .live (by tb_rel)); (case g => ((with_reducible first | apply mg_120_told | apply mg_374_number_of | apply mg_374_told | apply mg_158_uids | apply mg_158_told); assumption)); (case x => decide +kernel))
  | dsimp only)
/- F1 -/
def posOf (us : List Int) (u : Int) : Int := if u ∈ us then (us.idxOf u : Int) else -1

structure Bs (us : List Int) (u : Int) (p : Nat × Nat) : Prop where
  le : p.1 ≤ p.2
  n : p.2 ≤ us.length
  lo : ∀ i (h : i < us.length), i < p.1 → us[i] < u
  hi : ∀ i (h : i < us.length), p.2 ≤ i → u ≤ us[i]

inductive Mid (us : List Int) (lo hi : Nat) : Prop
  | mk (mid : Nat) (e : ((lo : Int) + hi).fdiv 2 = (mid : Int)) (h1 : lo ≤ mid) (h2 : mid < hi) (h3 : mid < us.length) (z : (0 : Int) ≤ mid) (b : (mid : Int) < 2 ^ 63)
theorem Bs.mid {us : List Int} {u : Int} {lo hi : Nat} (B : Bs us u (lo, hi)) (h : (lo : Int) < hi) (hl : us.length ≤ 1000) : Mid us lo hi := by
  have hn : hi ≤ us.length := B.n
  clear B
  exact ⟨(lo + hi) / 2, by rw [Int.fdiv_eq_ediv_of_nonneg _ (by decide)]; omega, by omega, by omega, by omega, Int.natCast_nonneg _, by omega⟩
theorem Bs.right {us : List Int} {u : Int} {lo hi mid : Nat} (hs : us.Pairwise (· < ·)) (B : Bs us u (lo, hi)) (h1 : lo ≤ mid) (h2 : mid < hi) (h3 : mid < us.length) (h4 : us[mid] < u) : Bs us u (mid + 1, hi) :=
  ⟨h2, B.n, fun i h h' => (Nat.lt_or_eq_of_le (Nat.le_of_lt_succ h')).elim (fun h5 => Int.lt_trans (List.pairwise_iff_getElem.mp hs i mid h h3 h5) h4) (fun h5 => by subst h5; exact h4), B.hi⟩
theorem Bs.left {us : List Int} {u : Int} {lo hi mid : Nat} (hs : us.Pairwise (· < ·)) (B : Bs us u (lo, hi)) (h1 : lo ≤ mid) (h3 : mid < us.length) (h4 : ¬us[mid] < u) : Bs us u (lo, mid) :=
  ⟨h1, Nat.le_of_lt h3, B.lo, fun i h h' => (Nat.lt_or_eq_of_le h').elim (fun h5 => Int.le_trans (Int.not_lt.mp h4) (Int.le_of_lt (List.pairwise_iff_getElem.mp hs mid i h3 h h5))) (fun h5 => by subst h5; exact Int.not_lt.mp h4)⟩
theorem Bs.end {us : List Int} {u : Int} {lo hi : Nat} (B : Bs us u (lo, hi)) (h : ¬(lo : Int) < hi) : lo = hi := Nat.le_antisymm B.le (Nat.not_lt.mp fun q => h (Int.ofNat_lt.mpr q))
theorem Bs.out {us : List Int} {u : Int} {lo : Nat} (hs : us.Pairwise (· < ·)) (B : Bs us u (lo, lo)) : posOf us u = if us[lo]? = some u then (lo : Int) else -1 := by
  unfold posOf
  by_cases hm : u ∈ us
  · obtain ⟨i, hi, ei⟩ := List.getElem_of_mem hm
    have : i = lo := by
      rcases Nat.lt_trichotomy i lo with h1 | h1 | h1
      · exact absurd ei (Int.ne_of_lt (B.lo i hi h1))
      · exact h1
      · have hlo := Nat.lt_trans h1 hi
        exact absurd (ei ▸ List.pairwise_iff_getElem.mp hs lo i hlo hi h1) (Int.not_lt.mpr (B.hi lo hlo (Nat.le_refl _)))
    subst this
    have nd : us.Nodup := hs.imp Int.ne_of_lt
    rw [if_pos hm, if_pos (by rw [List.getElem?_eq_getElem hi, ei])]
    have := nd.idxOf_getElem i hi
    rw [ei] at this
    rw [this]
  · rw [if_neg hm, if_neg fun h => hm (List.mem_of_getElem? h)]

theorem place_of_spec {c : Cx} (hK : Kx c) (ha : AOk c.A 1) {bl : Addr} {ls : List Ltr} {uid : Int} {m : Mp} {ν : Lg} {Q : D → Mp → Lg → Prop} (hb : (bl, MO.lst (ls.map dL)) ∈ ν) (hl : ls.length ≤ 1000)
    (hs : (ls.map (·.uid)).Pairwise (· < ·)) (q : Q (.int (posOf (ls.map (·.uid)) uid)) m ν) :
    CodeD c (.ref 169) [.raw (.ref bl), .int uid] m ν Q := by
  refine call_fnr ["letters", "uid"] ["letters", "uid", "low", "high", "middle"] ["len"] [some (.raw (.ref bl)), some (.int uid), none, none, none] (by rw [hK]; k_is) (by rw [hK]; k_is) ha (bind2 fun _ _ => rfl) (by decide +kernel) rfl rfl (fun _ => rfl) (fun A' L' env hA E hg => ?_)
  tb_start
  repeat tb_start
  refine call_len (.live hb) (by rw [List.length_map]; omega) ?_
  repeat tb_start
  rw [List.length_map]
  refine ex_While (fun p : Nat × Nat => [some (.raw (.ref bl)), some (.int uid), some (.int p.1), some (.int p.2), none]) (fun _ => ν) (Bs (ls.map (·.uid)) uid) (fun p => p.2 - p.1) (0, ls.length) ?_ (Sub.refl _) rfl ?_
  · exact ⟨Nat.zero_le _, Nat.le_of_eq (by rw [List.length_map]), fun i _ h => absurd h (Nat.not_lt_zero _), fun i h h' => absurd (List.length_map (as := ls) (·.uid) ▸ h) (Nat.not_lt.mpr h')⟩
  · rintro ⟨lo, hi⟩ hB
    repeat tb_start
    refine ite_dec (fun h => ?_) (fun h => ?_)
    · repeat tb_start
      refine bin_floordiv (by decide) (by decide) ?_
      obtain ⟨mid, e, h1, h2, h3', z, b⟩ := hB.mid h (by rw [List.length_map]; exact hl)
      have h3 : mid < ls.length := List.length_map (as := ls) (·.uid) ▸ h3'
      rw [e]
      repeat tb_start
      refine su_list (fun _ _ => rfl) (.live hb) z b (d := dL ls[mid]) (by simp [h3]) ?_
      refine ga_field .frozen (ag_120_uid hK) .head trivial ?_
      repeat tb_start
      have hm : (ls.map (·.uid))[mid] = ls[mid].uid := List.getElem_map ..
      refine ite_dec (fun h4 => ?_) (fun h4 => ?_)
      · repeat tb_start
        exact ⟨(mid + 1, hi), Nat.sub_lt_sub_left (Nat.lt_of_le_of_lt h1 h2) (Nat.lt_succ_of_le h1), hB.right hs h1 h2 h3' (hm ▸ h4), .same (.same (.same (.same (.drop .nil)))), rfl⟩
      · repeat tb_start
        exact ⟨(lo, mid), Nat.sub_lt_sub_right h1 h2, hB.left hs h1 h3' (hm ▸ h4), .same (.same (.same (.same (.drop .nil)))), rfl⟩
    · have hlo : lo = hi := hB.end h
      subst hlo
      repeat tb_start
      refine call_len (.live hb) (by rw [List.length_map]; omega) ?_
      rw [List.length_map]
      repeat tb_start
      have key := hB.out hs
      refine ite_dec (fun h => ?_) (fun h => ?_)
      · have h3 : lo < ls.length := by omega
        repeat tb_start
        refine su_list (fun _ _ => rfl) (.live hb) (by omega) (by omega) (d := dL ls[lo]) (by simp [h3]) ?_
        refine ga_field .frozen (ag_120_uid hK) .head trivial ?_
        repeat tb_start
        refine ite_dec (fun h4 => ?_) (fun h4 => ?_)
        · repeat tb_start
          rw [key, if_pos (by simp [h3, h4])] at q
          exact q
        · repeat tb_start
          rw [key, if_neg fun h => h4 (by simpa [h3] using h)] at q
          exact q
      · repeat tb_start
        rw [key, if_neg fun h' => h (by have := (List.getElem?_eq_some_iff.mp h').1; rw [List.length_map] at this; exact Int.ofNat_lt.mpr this)] at q
        exact q
/- F2 -/
theorem number_in_spec {c : Cx} (hK : Kx c) (ha : AOk c.A 2) {bd bl : Addr} {s : BoxS} {uid : Int} {m : Mp} {ν : Lg} {Q : D → Mp → Lg → Prop} (hb : BoxIn ν bd bl s) (ho : BoxOk s) (q : Q (.int (posOf s.us uid + 1)) m ν) :
    CodeD c (.ref 176) [dB bd, .int uid] m ν Q := by
  refine call_fnr ["box", "uid"] ["box", "uid"] ["place_of"] [some (dB bd), some (.int uid)] (by rw [hK]; k_is) (by rw [hK]; k_is) ha (bind2 fun _ _ => rfl) (by decide +kernel) rfl rfl (fun _ => rfl) (fun A' L' env hA E hg => ?_)
  repeat tb_start
  refine (place_of_spec (c := c.in A' L' _) hK hA hb.l ho.len ho.inc ?_).call
  repeat tb_start
  exact q
theorem raised_spec {c : Cx} (hK : Kx c) (ha : AOk c.A 1) {bd bl : Addr} {s : BoxS} {m : Mp} {νr : Lg} {Q : D → Mp → Lg → Prop} (q : Q (.int (s.top + 1)) m (boxL bd bl { s with top := s.top + 1 } ++ νr)) :
    CodeD c (.ref 183) [dB bd] m (boxL bd bl s ++ νr) Q := by
  refine call_fn0 ["box"] ["box"] [] [some (dB bd)] (by rw [hK]; k_is) (by rw [hK]; k_is) ha (bind1 fun _ => rfl) (by decide +kernel) rfl rfl (fun _ => rfl) (fun A' L' env hA E hg => ?_)
  repeat tb_start
  exact q
/- F3 -/
theorem system_flags_spec {c : Cx} (hK : Kx c) (ha : AOk c.A 1) {m : Mp} {ν : Lg} {Q : D → Mp → Lg → Prop} (q : Q (.lst ((["\\Seen", "\\Answered", "\\Flagged", "\\Deleted", "\\Draft"] : List Str).map .str)) m ν) :
    CodeD c (.ref 68) [] m ν Q := by
  refine call_fnr [] [] ["SYSTEM"] [] (by rw [hK]; k_is) (by rw [hK]; k_is) ha (bind0 rfl) (by decide +kernel) rfl rfl (fun _ => rfl) (fun A' L' env hA E hg => ?_)
  repeat tb_start
  refine call_split (x := "\\Seen \\Answered \\Flagged \\Deleted \\Draft") (y := " ") (xs := ["\\Seen", "\\Answered", "\\Flagged", "\\Deleted", "\\Draft"]) (by decide +kernel) (by decide +kernel) (by decide +kernel) ?_
  repeat tb_start
  exact q
theorem is_keyword_spec {c : Cx} (hK : Kx c) (ha : AOk c.A 1) {m : Mp} {ν : Lg} {Q : D → Mp → Lg → Prop} (q : Q (.bool true) m ν) :
    CodeD c (.ref 75) [.str "key"] m ν Q := by
  refine call_fnr ["text"] ["text", "sign"] ["len", "MOST_KEYWORD", "ord", "NO_KEYWORD"] [some (.str "key"), none] (by rw [hK]; k_is) (by rw [hK]; k_is) ha (bind1 fun _ => rfl) (by decide +kernel) rfl rfl (fun _ => rfl) (fun A' L' env hA E hg => ?_)
  repeat tb_start
  refine call_len_str (x := "key") (by decide +kernel) ?_
  rw [show ((Str.length "key" : Nat) : Int) = 3 by decide +kernel]
  repeat tb_start
  refine ite_dec (fun _ => ?_) (fun h => absurd (by decide) h)
  repeat tb_start
  rw [show decide ((3 : Int) ≤ 60) = true by decide]
  repeat tb_start
  refine loop_of (fun _ : Unit => [some (.str "key"), none]) (fun _ => ν) (fun _ _ => True) () (iter_str hA.h (by decide +kernel)) trivial (by tb_rel) rfl (fun _ _ _ => trivial) ?_ ?_
  · intro i _ d hd _
    have hd' : ∃ k : Nat, (k = 107 ∨ k = 101 ∨ k = 121) ∧ d = .str ⟨#[k]⟩ := by
      have hm := List.mem_of_getElem? hd
      rw [show (Str.cps "key").toList = [107, 101, 121] by decide +kernel] at hm
      simp only [List.map_cons, List.map_nil, List.mem_cons, List.not_mem_nil, or_false] at hm
      rcases hm with rfl | rfl | rfl
      · exact ⟨107, .inl rfl, rfl⟩
      · exact ⟨101, .inr (.inl rfl), rfl⟩
      · exact ⟨121, .inr (.inr rfl), rfl⟩
    obtain ⟨k, hk, rfl⟩ := hd'
    repeat tb_start
    refine call_ord (by rfl) ?_
    rw [show (((⟨#[k]⟩ : Str).cps.getD 0 0 : Nat) : Int) = k by simp]
    repeat tb_start
    refine ite_dec (fun _ => ?_) (fun h => absurd (by omega) h)
    repeat tb_start
    rw [show decide ((k : Int) < 127) = true by rw [decide_eq_true_eq]; omega]
    repeat tb_start
    refine cmp_in_str (b := false) (by rcases hk with rfl | rfl | rfl <;> decide +kernel) ?_
    repeat tb_start
    exact ⟨(), trivial, by tb_rel, rfl⟩
  · intro _ _
    repeat tb_start
    exact q
theorem flag_name_spec {c : Cx} (hK : Kx c) (ha : AOk c.A 2) {x : Str} (hx : x = "\\Seen" ∨ x = "key") {m : Mp} {ν : Lg} {Q : D → Mp → Lg → Prop} (q : Q (.str x) m ν) :
    CodeD c (.ref 82) [.str x] m ν Q := by
  refine call_fnr ["text"] ["text", "name"] ["system_flags", "is_keyword", "StoreFault"] [some (.str x), none] (by rw [hK]; k_is) (by rw [hK]; k_is) ha (bind1 fun _ => rfl) (by decide +kernel) rfl rfl (fun _ => rfl) (fun A' L' env hA E hg => ?_)
  repeat tb_start
  refine (system_flags_spec (c := c.in A' L' _) hK hA ?_).call
  repeat tb_start
  rcases hx with rfl | rfl
  · refine loop_of (fun _ : Unit => [some (.str "\\Seen"), none]) (fun _ => ν) (fun i _ => i = 0) () (iter_lst hA.h) rfl (by tb_rel) rfl (fun _ _ _ => trivial) ?_ (fun _ h => absurd h (by simp))
    intro i _ d hd hP
    subst hP
    simp only [List.map_cons, List.getElem?_cons_zero, Option.some.injEq] at hd
    subst hd
    repeat tb_start
    refine call_lower (y := "\\seen") (by decide +kernel) (by decide +kernel) ?_
    repeat tb_start
    refine call_lower (y := "\\seen") (by decide +kernel) (by decide +kernel) ?_
    repeat tb_start
    refine ite_dec (fun _ => ?_) (fun h => absurd rfl h)
    repeat tb_start
    exact q
  · refine loop_of (fun _ : Unit => [some (.str "key"), none]) (fun _ => ν) (fun _ _ => True) () (iter_lst hA.h) trivial (by tb_rel) rfl (fun _ _ _ => trivial) ?_ ?_
    · intro i _ d hd _
      have hd' : ∃ n y : Str, d = .str n ∧ Txt.lower n = y ∧ Builtin.Str.tooLong (Txt.lower n).length = false ∧ ¬ (("key" : Str) = y) := by
        have hm := List.mem_of_getElem? hd
        simp only [List.map_cons, List.map_nil, List.mem_cons, List.not_mem_nil, or_false] at hm
        rcases hm with rfl | rfl | rfl | rfl | rfl
        · exact ⟨_, "\\seen", rfl, by decide +kernel, by decide +kernel, by decide +kernel⟩
        · exact ⟨_, "\\answered", rfl, by decide +kernel, by decide +kernel, by decide +kernel⟩
        · exact ⟨_, "\\flagged", rfl, by decide +kernel, by decide +kernel, by decide +kernel⟩
        · exact ⟨_, "\\deleted", rfl, by decide +kernel, by decide +kernel, by decide +kernel⟩
        · exact ⟨_, "\\draft", rfl, by decide +kernel, by decide +kernel, by decide +kernel⟩
      obtain ⟨n, y, rfl, e1, e2, e3⟩ := hd'
      repeat tb_start
      refine call_lower (y := "key") (by decide +kernel) (by decide +kernel) ?_
      repeat tb_start
      refine call_lower e1 e2 ?_
      repeat tb_start
      refine ite_dec (fun h => absurd h e3) (fun _ => ?_)
      repeat tb_start
      exact ⟨(), trivial, by tb_rel, rfl⟩
    · intro _ _
      repeat tb_start
      refine (is_keyword_spec (c := c.in A' L' _) hK hA ?_).call
      repeat tb_start
      exact q
theorem flag_tuple_spec {c : Cx} (hK : Kx c) (ha : AOk c.A 3) {fs : List Str} (hx : fs = [] ∨ fs = [("\\Seen" : Str)] ∨ fs = [("key" : Str)] ∨ fs = [("\\Seen" : Str), "key"]) {m : Mp} {ν : Lg} {Q : D → Mp → Lg → Prop} (q : Q (dFl fs) m ν) :
    CodeD c (.ref 89) [dFl fs] m ν Q := by
  refine call_fndr ["flags"] ["flags", "found", "text", "name"] ["flag_name", "tuple", "sorted"] [some (dFl fs), none, none, none] (by rw [hK]; k_is) (by rw [hK]; k_is) ha (bind1 fun _ => rfl) (by decide +kernel) rfl rfl (fun _ => rfl) (fun A' L' env hA E hg => ?_)
  repeat tb_start
  refine ev_ListM ?_
  repeat tb_start
  intro a
  repeat tb_start
  have hnd : fs.Nodup := by rcases hx with rfl | rfl | rfl | rfl <;> decide +kernel
  have hlen : fs.length ≤ 2 := by rcases hx with rfl | rfl | rfl | rfl <;> decide
  refine loop_of (fun _ : Nat => [some (dFl fs), some (.raw (.ref a)), none, none]) (fun k : Nat => (a, .lst ((fs.take k).map .str)) :: ν) (fun i k => i = k) 0 (iter_tup hA.h) rfl (by tb_rel) rfl (fun _ _ _ => trivial) ?_ ?_
  · rintro i _ d hd rfl
    rw [List.getElem?_map] at hd
    cases hf : fs[i]? with
    | none => rw [hf] at hd; cases hd
    | some x =>
      rw [hf] at hd
      simp only [Option.map_some, Option.some.injEq] at hd
      subst hd
      obtain ⟨hi, ex⟩ := List.getElem?_eq_some_iff.mp hf
      have hxm : x = "\\Seen" ∨ x = "key" := by
        have hm := List.mem_of_getElem? hf
        rcases hx with rfl | rfl | rfl | rfl <;> simp only [List.mem_cons, List.not_mem_nil, or_false] at hm
        · exact .inl hm
        · exact .inr hm
        · exact hm
      repeat tb_start
      refine (flag_name_spec (c := c.in A' L' _) hK hA hxm ?_).call
      repeat tb_start
      refine cmp_notin_strs (.live (by tb_rel)) ?_
      rw [show decide (x ∈ fs.take i) = false by
        rw [decide_eq_false_iff_not, ← ex]
        intro hm
        obtain ⟨j, hj, e⟩ := List.getElem_of_mem hm
        rw [List.length_take] at hj
        rw [List.getElem_take] at e
        exact absurd (List.getElem_inj hnd |>.mp e) (by omega)]
      repeat tb_start
      refine call_append (by tb_rel) (by rw [List.length_map, List.length_take]; omega) ?_
      repeat tb_start
      refine ⟨i + 1, rfl, by tb_rel, ?_⟩
      rw [List.take_succ, hf]; simp
  · rintro _ rfl
    rw [List.length_map, List.take_length]
    repeat tb_start
    refine call_sorted_strs (.live (by tb_rel)) (by omega) fun ys hp hs => ?_
    have hys : ys = fs := by
      rcases hx with rfl | rfl | rfl | rfl
      · exact hp.eq_nil
      · exact List.perm_singleton.mp hp
      · exact List.perm_singleton.mp hp
      · have hl := hp.length_eq
        obtain _ | ⟨y1, _ | ⟨y2, _ | ⟨_, _⟩⟩⟩ := ys <;> simp at hl
        have m1 := hp.mem_iff.mp (List.mem_cons_self (a := y1))
        have m2 := hp.mem_iff.mp (List.mem_cons_of_mem y1 (List.mem_cons_self (a := y2) (l := [])))
        have hn := hp.nodup_iff.mpr hnd
        simp only [List.mem_cons, List.not_mem_nil, or_false] at m1 m2
        rcases m1 with rfl | rfl <;> rcases m2 with rfl | rfl
        · simp at hn
        · rfl
        · exact absurd hs (by decide +kernel)
        · simp at hn
    subst hys
    repeat tb_start
    refine call_tuple_lst .frozen (by simp; omega) ?_
    repeat tb_start
    exact ⟨[_], _, .refl _, q⟩
/- F4 -/
theorem letter_spec {c : Cx} (hK : Kx c) (ha : AOk c.A 2) {uid ms : Int} {t : Tok} {fs : List Str} {m : Mp} {ν : Lg} {Q : D → Mp → Lg → Prop} (q : Q (dL ⟨uid, fs, ms, t⟩) m ν) :
    CodeD c (.ref 120) [.int uid, .raw (.bytes #[120] t), dFl fs, .int 5, .int ms] m ν Q := by
  refine CodeD.frz (call_cls (cg_120 hK) ha fun A' dx hA' => ?_)
  refine call_fn0 (c := c.in A' c.L c.ns) (νm := [(dx, .attrs [] [])]) (νr := ν) ["self", "uid", "octets", "flags", "instant", "modseq"] ["self", "uid", "octets", "flags", "instant", "modseq"] ["tuple"] [some (.obj 120 dx), some (.int uid), some (.raw (.bytes #[120] t)), some (dFl fs), some (.int 5), some (.int ms)] (by rw [show (c.in A' c.L c.ns).K = c.K from rfl, hK]; k_is) (by rw [show (c.in A' c.L c.ns).K = c.K from rfl, hK]; k_is) hA' (bind6 fun _ _ _ _ _ _ => rfl) (by decide +kernel) rfl rfl (fun _ => rfl) (fun A' L' env hA E hg => ?_)
  repeat tb_start
  exact ⟨rfl, _, _, _, _, rfl, .inst, q⟩
theorem letter_told_spec {c : Cx} (hK : Kx c) (ha : AOk c.A 1) {l : Ltr} {m : Mp} {ν : Lg} {Q : D → Mp → Lg → Prop} (q : Q (.tup [.int l.uid, .raw (.bytes #[120] l.tk), dFl l.flags, .int 5, .int l.modseq]) m ν) :
    CodeD c (.ref 117) [dL l] m ν Q := by
  refine call_fnr ["self"] ["self"] [] [some (dL l)] (by rw [hK]; k_is) (by rw [hK]; k_is) ha (bind1 fun _ => rfl) (by decide +kernel) rfl rfl (fun _ => rfl) (fun A' L' env hA E hg => ?_)
  repeat tb_start
  exact q
theorem uids_spec {c : Cx} (hK : Kx c) (ha : AOk c.A 1) {bd bl : Addr} {s : BoxS} {m : Mp} {ν : Lg} {Q : D → Mp → Lg → Prop} (hb : BoxIn ν bd bl s) (ho : BoxOk s) (q : Q (.lst (s.us.map .int)) m ν) :
    CodeD c (.ref 150) [dB bd] m ν Q := by
  refine call_fnr ["self"] ["self"] [] [some (dB bd)] (by rw [hK]; k_is) (by rw [hK]; k_is) ha (bind1 fun _ => rfl) (by decide +kernel) rfl rfl (fun _ => rfl) (fun A' L' env hA E hg => ?_)
  repeat tb_start
  refine ev_ListComp [] ["letter"] [] rfl look0 (by decide +kernel) ?_
  repeat tb_start
  refine cj_map [] ["letter"] [] [none] s.ls dL (fun l => .int l.uid) E (by decide +kernel) .nil rfl nd0 rfl (iter_ptr hA.h) hb.l (by have := ho.len; omega) (fun C env' l hl E' hg' hc' => ?_) ?_
  · repeat tb_start
    exact ⟨rfl, rfl, rfl⟩
  · repeat tb_start
    rw [show s.us.map D.int = s.ls.map fun l => .int l.uid by simp [Function.comp_def]] at q
    exact q
theorem box_told_spec {c : Cx} (hK : Kx c) (ha : AOk c.A 2) {bd bl : Addr} {s : BoxS} {m : Mp} {ν : Lg} {Q : D → Mp → Lg → Prop} (hb : BoxIn ν bd bl s) (ho : BoxOk s) (hg : s.gone.length ≤ 1000)
    (q : Q (.tup [.str "b", .int 9, .int s.next, .int s.top, .int s.floor, .tup (s.ls.map fun l => .tup [.int l.uid, .raw (.bytes #[120] l.tk), dFl l.flags, .int 5, .int l.modseq]), .tup (s.gone.map dP)]) m ν) :
    CodeD c (.ref 155) [dB bd] m ν Q := by
  refine call_fnr ["self"] ["self", "letters"] ["tuple"] [some (dB bd), none] (by rw [hK]; k_is) (by rw [hK]; k_is) ha (bind1 fun _ => rfl) (by decide +kernel) rfl rfl (fun _ => rfl) (fun A' L' env hA E hg => ?_)
  repeat tb_start
  refine ev_ListComp [] ["letter"] [] rfl look0 (by decide +kernel) ?_
  repeat tb_start
  refine cj_map [] ["letter"] [] [none] s.ls dL (fun l => .tup [.int l.uid, .raw (.bytes #[120] l.tk), dFl l.flags, .int 5, .int l.modseq]) E (by decide +kernel) .nil rfl nd0 rfl (iter_ptr hA.h) hb.l (by have := ho.len; omega) (fun C env' l hl E' hg' hc' => ?_) ?_
  · repeat tb_start
    refine (letter_told_spec (c := (c.in A' L' _).in A' C _) hK hA ?_).call
    exact ⟨rfl, rfl, rfl⟩
  · repeat tb_start
    refine call_tuple_lst .frozen (by simp; have := ho.len; omega) ?_
    repeat tb_start
    refine call_tuple_lst .frozen (by simp; omega) ?_
    repeat tb_start
    exact q
/- F5 -/
abbrev okFl (fs : List Str) : Prop := fs = [] ∨ fs = [("\\Seen" : Str)] ∨ fs = [("key" : Str)] ∨ fs = [("\\Seen" : Str), "key"]
abbrev BoxS.add (s : BoxS) (fs : List Str) (t : Tok) : BoxS := { s with next := s.next + 1, top := s.top + 1, ls := s.ls ++ [⟨s.next, fs, s.top + 1, t⟩] }
theorem add_letter_spec {c : Cx} (hK : Kx c) (ha : AOk c.A 4) {bd bl : Addr} {s : BoxS} {fs : List Str} {t : Tok} (hfs : okFl fs) (ho : BoxOk s) {m : Mp} {νr : Lg} {Q : D → Mp → Lg → Prop}
    (q : ∀ d, Q d m (boxL bd bl (s.add fs t) ++ νr)) :
    CodeD c (.ref 190) [dB bd, .raw (.bytes #[120] t), dFl fs, .int 5] m (boxL bd bl s ++ νr) Q := by
  refine call_fn0 ["box", "octets", "flags", "instant"] ["box", "octets", "flags", "instant", "names", "letter"] ["flag_tuple", "Letter", "raised"] [some (dB bd), some (.raw (.bytes #[120] t)), some (dFl fs), some (.int 5), none, none] (by rw [hK]; k_is) (by rw [hK]; k_is) ha (bind4 fun _ _ _ _ => rfl) (by decide +kernel) rfl rfl (fun _ => rfl) (fun A' L' env hA E hg => ?_)
  repeat tb_start
  refine (flag_tuple_spec (c := c.in A' L' _) hK hA hfs ?_).call
  repeat tb_start
  refine CodeD.call ?_
  rw [show boxL bd bl s = boxL bd bl s ++ [] by simp]
  refine raised_spec (c := c.in A' L' _) hK (hA.le (by decide)) ?_
  rw [List.append_nil]
  repeat tb_start
  refine (letter_spec (c := c.in A' L' _) hK (hA.le (by decide)) ?_).call
  repeat tb_start
  have := ho.len
  repeat tb_start
  rw [show s.ls.map dL ++ [dL ⟨s.next, fs, s.top + 1, t⟩] = (s.add fs t).ls.map dL by simp]
  exact q _
inductive Deed : BoxS → BoxS → Prop
  | same {s : BoxS} : Deed s s
  | add {s : BoxS} {fs : List Str} {t : Tok} : okFl fs → Deed s (s.add fs t)
  | setf {s : BoxS} {fs : List Str} {i : Nat} {l : Ltr} : okFl fs → s.ls[i]? = some l → Deed s { s with top := s.top + 1, ls := s.ls.set i ⟨l.uid, fs, s.top + 1, l.tk⟩ }
  | exp {s : BoxS} {p : Int → Bool} : Deed s { s with top := s.top + 1, ls := s.ls.filter (fun l => !p l.uid), gone := s.gone ++ (s.us.filter p).map fun u => (u, s.top + 1) }
theorem set_flags_spec {c : Cx} (hK : Kx c) (ha : AOk c.A 4) {bd bl : Addr} {s : BoxS} {uid : Int} {fs : List Str} (hfs : okFl fs) (ho : BoxOk s) (hu : uid ∈ s.us) {m : Mp} {νr : Lg} {Q : D → Mp → Lg → Prop}
    (q : ∀ d s', Deed s s' → Q d m (boxL bd bl s' ++ νr)) :
    CodeD c (.ref 197) [dB bd, .int uid, dFl fs] m (boxL bd bl s ++ νr) Q := by
  refine call_fn0 ["box", "uid", "flags"] ["box", "uid", "flags", "names", "at", "letter"] ["flag_tuple", "place_of", "StoreFault", "Letter", "raised"] [some (dB bd), some (.int uid), some (dFl fs), none, none, none] (by rw [hK]; k_is) (by rw [hK]; k_is) ha (bind3 fun _ _ _ => rfl) (by decide +kernel) rfl rfl (fun _ => rfl) (fun A' L' env hA E hg => ?_)
  repeat tb_start
  refine (flag_tuple_spec (c := c.in A' L' _) hK hA hfs ?_).call
  repeat tb_start
  refine (place_of_spec (c := c.in A' L' _) hK (hA.le (by decide)) (ls := s.ls) (by tb_rel) ho.len ho.inc ?_).call
  have hp : posOf s.us uid = (s.us.idxOf uid : Nat) := by unfold posOf; rw [if_pos hu]
  rw [hp]
  have hlt : s.us.idxOf uid < s.us.length := List.idxOf_lt_length_iff.mpr hu
  have hget : s.us[s.us.idxOf uid]? = some uid := by rw [List.getElem?_eq_getElem hlt, List.getElem_idxOf]
  generalize s.us.idxOf uid = i at hlt hget
  rw [List.getElem?_map] at hget
  cases hl : s.ls[i]? with
  | none => rw [hl] at hget; cases hget
  | some l =>
  rw [hl] at hget
  simp only [Option.map_some, Option.some.injEq] at hget
  subst hget
  have hlen := ho.len
  have hi : i < s.ls.length := by simpa using hlt
  repeat tb_start
  refine ite_dec (fun h => absurd h (by omega)) (fun _ => ?_)
  repeat tb_start
  refine su_list (fun _ _ => rfl) (.live (by tb_rel)) (by omega) (by omega) (d := dL l) (by simp [hl]) ?_
  repeat tb_start
  refine cmp_eq_strs (show A'.units < cLine by have := hA.units; omega) ?_
  repeat tb_start
  refine ite_dec (fun _ => ?_) (fun _ => ?_)
  · repeat tb_start
    exact q _ _ .same
  repeat tb_start
  refine CodeD.call ?_
  rw [show boxL bd bl s = boxL bd bl s ++ [] by simp]
  refine raised_spec (c := c.in A' L' _) hK (hA.le (by decide)) ?_
  rw [List.append_nil]
  repeat tb_start
  refine (letter_spec (c := c.in A' L' _) hK (hA.le (by decide)) ?_).call
  repeat tb_start
  refine si_list (ds := s.ls.map dL) (ν' := boxL bd bl { s with top := s.top + 1, ls := s.ls.set i ⟨l.uid, fs, s.top + 1, l.tk⟩ }) (by omega) (by omega) (by simp; omega) (by rw [show (s.ls.map dL).set (Int.toNat (i : Int)) (dL ⟨l.uid, fs, s.top + 1, l.tk⟩) = (s.ls.set i ⟨l.uid, fs, s.top + 1, l.tk⟩).map dL by simp [List.map_set]]; exact .tail .head) ?_
  repeat tb_start
  exact q _ _ (.setf hfs hl)
theorem expunge_spec {c : Cx} (hK : Kx c) (ha : AOk c.A 4) {bd bl : Addr} {s : BoxS} {uids : List Int} (ho : BoxOk s) (hnd : uids.Nodup) (hlu : uids.length ≤ 1000) (hlg : s.gone.length ≤ 1000) {m : Mp} {νr : Lg} {Q : D → Mp → Lg → Prop}
    (q : ∀ d bl' s', Deed s s' → Q d m (boxL bd bl' s' ++ νr)) :
    CodeD c (.ref 202) [dB bd, .lst (uids.map .int)] m (boxL bd bl s ++ νr) Q := by
  refine call_fn2 ["box", "uids"] ["box", "uids", "uid", "there"] "wanted" "modseq" ["raised"] [some (dB bd), some (.lst (uids.map .int)), none, none] none none (by rw [hK]; k_is) (by rw [hK]; k_is) ha (bind2 fun _ _ => rfl) (by decide +kernel) rfl rfl rfl rfl (by decide +kernel) (fun _ => rfl) (fun A' L' env aw am hA E hg hc => ?_)
  repeat tb_start
  intro wd hwd
  repeat tb_start
  have hL0 := ho.len
  refine loop_of (fun _ : Nat => [some (dB bd), some (.lst (uids.map .int)), none, none]) (fun k : Nat => (wd, .map (uids.take k) ((uids.take k).map fun _ => .bool true)) :: (am, .cell none) :: (aw, .cell (some (.raw (.ref wd)))) :: boxL bd bl s) (fun i k => i = k) 0 (iter_lst hA.h) rfl (by tb_rel) rfl (fun _ _ _ => trivial) ?_ ?_
  · rintro i _ d hd rfl
    rw [List.getElem?_map] at hd
    cases hf : uids[i]? with
    | none => rw [hf] at hd; cases hd
    | some x =>
    rw [hf] at hd
    simp only [Option.map_some, Option.some.injEq] at hd
    subst hd
    obtain ⟨hi, ex⟩ := List.getElem?_eq_some_iff.mp hf
    repeat tb_start
    have hx : x ∉ uids.take i := fun hm => by
      obtain ⟨j, hj, e⟩ := List.getElem_of_mem hm
      rw [List.length_take] at hj
      rw [List.getElem_take, ← ex] at e
      exact absurd (List.getElem_inj hnd |>.mp e) (by omega)
    refine si_map (ks := uids.take i) (ds := (uids.take i).map fun _ => .bool true) (by rw [List.length_take]; omega) .head ?_
    repeat tb_start
    refine ⟨i + 1, rfl, by tb_rel, ?_⟩
    unfold storedK
    rw [if_neg hx, List.take_succ, hf]; simp
  rintro _ rfl
  rw [List.length_map, List.take_length]
  repeat tb_start
  refine ex_AssignComp (x := "there") E (by tb_rel) rfl (by decide +kernel) [("wanted", aw)] ["uid"] [] rfl (fun p hp => hc.look p (by rw [List.mem_singleton] at hp; subst hp; simp)) (by decide +kernel) ?_
  repeat tb_start
  refine (uids_spec (c := c.in A' L' _) hK (hA.le (by decide)) (s := s) ⟨by tb_rel, by tb_rel⟩ ho ?_).call
  refine cj_pf [("wanted", aw)] ["uid"] [] [none] s.us D.int (fun u => decide (u ∈ uids)) D.int E (by decide +kernel) (hc.sub (by simp)) rfl nd1 rfl (iter_lst hA.h) trivial (by simp; omega) (fun C env' u hu E' hg' hc' => ?_) ?_
  · repeat tb_start
    refine cmp_in_map (.live hwd (by tb_rel)) ?_
    repeat tb_start
    refine turn_d rfl (fun _ => ?_) (fun _ => ?_)
    · repeat tb_start
      exact ⟨rfl, rfl, rfl⟩
    · exact ⟨rfl, rfl⟩
  repeat tb_start
  refine ev_List ?_
  repeat tb_start
  refine cmp_eq_nil (show A'.units < cLine by have := hA.units; omega) .frozen ?_
  repeat tb_start
  generalize hth : (s.us.filter fun u => decide (u ∈ uids)) = th
  cases th with
  | nil =>
    refine ite_t ?_
    repeat tb_start
    refine ev_List ?_
    repeat tb_start
    exact ⟨[_, _, _], _, .refl _, q _ _ _ .same⟩
  | cons u0 ur =>
    refine ite_f ?_
    repeat tb_start
    refine CodeD.perm (ν' := boxL bd bl s ++ [(wd, .map uids (uids.map fun _ => .bool true)), (am, .cell none), (aw, .cell (some (.raw (.ref wd))))]) (List.perm_append_comm (l₁ := [_, _, _])) ?_ |>.call
    refine raised_spec (c := c.in A' L' _) hK (hA.le (by decide)) ?_
    refine ⟨(wd, .map uids (uids.map fun _ => .bool true)) :: (am, .cell none) :: (aw, .cell (some (.raw (.ref wd)))) :: boxL bd bl { s with top := s.top + 1 }, List.perm_append_comm (l₂ := [_, _, _]), ?_⟩
    repeat tb_start
    refine ev_ListCompM [("wanted", aw)] ["letter"] [] rfl (fun p hp => hc.look p (by rw [List.mem_singleton] at hp; subst hp; simp)) (by decide +kernel) ?_
    repeat tb_start
    refine cj_pf [("wanted", aw)] ["letter"] [] [none] s.ls dL (fun l => !decide (l.uid ∈ uids)) dL E (by decide +kernel) (hc.sub (by simp)) rfl nd1 rfl (iter_ptr hA.h) (by tb_rel) (by omega) (fun C env' l hl E' hg' hc' => ?_) ?_
    · repeat tb_start
      refine cmp_notin_map (.live hwd (by tb_rel)) ?_
      repeat tb_start
      refine turn_nd rfl (fun _ => ?_) (fun _ => ?_)
      · repeat tb_start
        exact ⟨rfl, rfl, rfl⟩
      · exact ⟨rfl, rfl⟩
    intro bl'
    repeat tb_start
    refine ev_ListComp [("modseq", am)] ["uid"] [] rfl (fun p hp => hc.look p (by rw [List.mem_singleton] at hp; subst hp; simp)) (by decide +kernel) ?_
    repeat tb_start
    refine cj_map [("modseq", am)] ["uid"] [] [none] (u0 :: ur) D.int (fun u => dP (u, s.top + 1)) E (by decide +kernel) (hc.sub (by simp)) rfl nd1 rfl (iter_lst hA.h) trivial (by have := congrArg List.length hth; have h2 := List.length_filter_le (fun u => decide (u ∈ uids)) s.us; simp only [List.length_map] at this h2; simp at this h2 ⊢; omega) (fun C env' u hu E' hg' hc' => ?_) ?_
    · repeat tb_start
      exact ⟨rfl, rfl, rfl⟩
    repeat tb_start
    refine bin_add_lists .frozen .frozen (by have := congrArg List.length hth; have h2 := List.length_filter_le (fun u => decide (u ∈ uids)) s.us; simp only [List.length_map] at this h2; simp at this h2 ⊢; omega) ?_
    repeat tb_start
    have e : (s.gone ++ (s.us.filter fun u => decide (u ∈ uids)).map fun u => (u, s.top + 1)).map dP = s.gone.map dP ++ (u0 :: ur).map fun u => dP (u, s.top + 1) := by rw [hth]; simp
    rw [← e]
    exact ⟨[_, _, _, _], boxL bd bl' { s with top := s.top + 1, ls := s.ls.filter (fun l => !decide (l.uid ∈ uids)), gone := s.gone ++ (s.us.filter fun u => decide (u ∈ uids)).map fun u => (u, s.top + 1) }, (List.perm_append_comm (l₁ := [_]) (l₂ := [_, _, _, _, _])).trans (.cons _ (.cons _ (.cons _ (.swap _ _ _)))), q _ _ _ (.exp (p := fun u => decide (u ∈ uids)))⟩
/- F6 -/
structure Pen where
  cells : List Int
  great : Int
  state : Int
  place : Int
abbrev penL (pa : Addr) (p : Pen) : Lg := [(pa, .lst [.lst (p.cells.map .int), .int p.great, .int p.state, .int p.place])]
structure PenOk (k : Nat) (p : Pen) : Prop where
  p0 : 0 ≤ p.place
  pk : p.place ≤ k
  g : 0 ≤ p.great
  c : p.cells.length ≤ 48
theorem PenOk.le {k k' : Nat} {p : Pen} (x : PenOk k p) (h : k ≤ k') : PenOk k' p := ⟨x.p0, by have := x.pk; omega, x.g, x.c⟩
theorem fmod_range {a b : Int} (hb : 0 < b) : 0 ≤ a.fmod b ∧ a.fmod b < b := ⟨Int.fmod_nonneg_of_pos _ hb, Int.fmod_lt_of_pos _ hb⟩
theorem log2_small {b : Int} (h0 : 0 < b) (h : b ≤ 100000) : b.natAbs.log2 < 8970 := by
  have : b.natAbs < 2 ^ 17 := by omega
  have := (Nat.log2_lt (by omega)).mpr this
  omega
theorem bits64 {b : Int} (h0 : 0 ≤ b) (h : b ≤ 1000000) : Builtin.Int.intBits b ≤ 64 := PySem.intBits_le_64 (by omega) (by omega)
theorem law_draw_spec {c : Cx} (hK : Kx c) (ha : AOk c.A 1) {pa : Addr} {p : Pen} {k : Nat} {limit : Int} (hp : PenOk k p) (hk : k ≤ 100000) (h0 : 0 < limit) (h1 : limit ≤ 1000) {m : Mp} {νr : Lg} {Q : D → Mp → Lg → Prop}
    (q : ∀ d p', 0 ≤ d → d < limit → PenOk (k + 1) p' → Q (.int d) m (penL pa p' ++ νr)) :
    CodeD c (.ref 407) [.raw (.ref pa), .int limit] m (penL pa p ++ νr) Q := by
  refine call_fn0 ["pen", "limit"] ["pen", "limit", "place", "digit"] ["len"] [some (.raw (.ref pa)), some (.int limit), none, none] (by rw [hK]; k_is) (by rw [hK]; k_is) ha (bind2 fun _ _ => rfl) (by decide +kernel) rfl rfl (fun _ => rfl) (fun A' L' env hA E hg => ?_)
  have l1 := log2_small h0 (by omega)
  have b1 := bits64 hp.p0 (by have := hp.pk; omega)
  repeat tb_start
  refine ite_dec (fun hg0 => ?_) (fun hg0 => ?_)
  · repeat tb_start
    refine bin_mod (by omega) ?_
    repeat tb_start
    refine bin_floordiv (by omega) l1 ?_
    repeat tb_start
    exact q _ ⟨p.cells, p.great.fdiv limit, p.state, p.place + 1⟩ (fmod_range h0).1 (fmod_range h0).2 ⟨by have := hp.p0; show 0 ≤ p.place + 1; omega, by have := hp.pk; show p.place + 1 ≤ _; omega, Int.fdiv_nonneg (by omega) (by omega), hp.c⟩
  · repeat tb_start
    refine bin_mul (.of_right (by decide)) ?_
    repeat tb_start
    refine bin_mul (.of_left b1) ?_
    repeat tb_start
    refine bin_mod (by decide) ?_
    repeat tb_start
    refine call_len .frozen (by rw [List.length_map]; have := hp.c; omega) ?_
    rw [List.length_map]
    have ok : PenOk (k + 1) ⟨p.cells, p.great, (p.state * 16807 + p.place * p.place + 7).fmod 2147483647, p.place + 1⟩ := ⟨by have := hp.p0; show 0 ≤ p.place + 1; omega, by have := hp.pk; show p.place + 1 ≤ _; omega, hp.g, hp.c⟩
    repeat tb_start
    refine ite_dec (fun hlt => ?_) (fun hlt => ?_)
    · have hn : p.place.toNat < p.cells.length := by have := hp.p0; omega
      repeat tb_start
      refine su_list (fun _ _ => rfl) .frozen hp.p0 (by have := hp.c; omega) (d := .int p.cells[p.place.toNat]) (by simp [hn]) ?_
      repeat tb_start
      refine bin_mod (by omega) ?_
      repeat tb_start
      exact q _ _ (fmod_range h0).1 (fmod_range h0).2 ok
    · repeat tb_start
      refine bin_floordiv (by decide) (by decide) ?_
      repeat tb_start
      refine bin_mod (by omega) ?_
      repeat tb_start
      exact q _ _ (fmod_range h0).1 (fmod_range h0).2 ok
theorem draw_mid {c : Cx} (hK : Kx c) (ha : AOk c.A 1) (pre post : Lg) {pa : Addr} {p : Pen} {k : Nat} {limit : Int} (hp : PenOk k p) (hk : k ≤ 100000) (h0 : 0 < limit) (h1 : limit ≤ 1000) {m : Mp} {Q : D → Mp → Lg → Prop}
    (q : ∀ d p', 0 ≤ d → d < limit → PenOk (k + 1) p' → Q (.int d) m (pre ++ (penL pa p' ++ post))) :
    CodeD c (.ref 407) [.raw (.ref pa), .int limit] m (pre ++ (penL pa p ++ post)) Q :=
  CodeD.perm (ν' := penL pa p ++ (pre ++ post)) (by rw [← List.append_assoc, ← List.append_assoc]; exact List.perm_append_comm.append_right _) (law_draw_spec hK ha hp hk h0 h1 fun d p' a b e => ⟨_, (by rw [← List.append_assoc, ← List.append_assoc (bs := penL pa p')]; exact List.perm_append_comm.append_right _), q d p' a b e⟩)
theorem law_flags_spec {c : Cx} (hK : Kx c) (ha : AOk c.A 1) {m : Mp} {ν : Lg} {Q : D → Mp → Lg → Prop} (q : Q (.lst [dFl [], dFl ["\\Seen"], dFl ["key"], dFl ["\\Seen", "key"]]) m ν) :
    CodeD c (.ref 414) [] m ν Q := by
  refine call_fnr [] [] [] [] (by rw [hK]; k_is) (by rw [hK]; k_is) ha (bind0 rfl) (by decide +kernel) rfl rfl (fun _ => rfl) (fun A' L' env hA E hg => ?_)
  repeat tb_start
  refine ev_List ?_
  repeat tb_start
  exact q
theorem box_spec {c : Cx} (hK : Kx c) (ha : AOk c.A 2) {m : Mp} {ν : Lg} {Q : D → Mp → Lg → Prop} (q : ∀ bd bl, Q (dB bd) m (boxL bd bl ⟨1, 1, 0, [], []⟩ ++ ν)) :
    CodeD c (.ref 158) [.str "b", .int 9] m ν Q := by
  refine call_cls (cg_158 hK) ha fun A' dx hA' => ?_
  refine call_fnd0 (c := c.in A' c.L c.ns) (νm := [(dx, .attrs [] [])]) (νr := ν) ["self", "name", "validity"] ["self", "name", "validity"] [] [some (.obj 158 dx), some (.str "b"), some (.int 9)] (by rw [show (c.in A' c.L c.ns).K = c.K from rfl, hK]; k_is) (by rw [show (c.in A' c.L c.ns).K = c.K from rfl, hK]; k_is) hA' (bind3 fun _ _ _ => rfl) (by decide +kernel) rfl rfl (fun _ => rfl) (fun A' L' env hA E hg => ?_)
  repeat tb_start
  refine ev_ListM ?_
  repeat tb_start
  intro bl
  repeat tb_start
  refine ev_List ?_
  repeat tb_start
  exact ⟨[], _, .swap _ _ _, rfl, q dx bl⟩
abbrev penE (pa : Addr) (p : Pen) : Addr × MO := (pa, .lst [.lst (p.cells.map .int), .int p.great, .int p.state, .int p.place])
theorem draw2 {c : Cx} (hK : Kx c) (ha : AOk c.A 1) {x : Addr × MO} {post : Lg} {pa : Addr} {p : Pen} {k : Nat} {limit : Int} (hp : PenOk k p) (hk : k ≤ 100000) (h0 : 0 < limit) (h1 : limit ≤ 1000) {m : Mp} {Q : D → Mp → Lg → Prop}
    (q : ∀ d p', 0 ≤ d → d < limit → PenOk (k + 1) p' → Q (.int d) m (x :: penE pa p' :: post)) : CallD c (.ref 407) [.raw (.ref pa), .int limit] m (x :: penE pa p :: post) Q := (draw_mid hK ha [x] post hp hk h0 h1 q).call
theorem pick_ok {i : Int} (h0 : 0 ≤ i) (h1 : i < 4) : ∃ fs, okFl fs ∧ ([dFl [], dFl ["\\Seen"], dFl ["key"], dFl ["\\Seen", "key"]] : List D)[i.toNat]? = some (dFl fs) := by
  have : i = 0 ∨ i = 1 ∨ i = 2 ∨ i = 3 := by omega
  rcases this with rfl | rfl | rfl | rfl
  · exact ⟨_, .inl rfl, rfl⟩
  · exact ⟨_, .inr (.inl rfl), rfl⟩
  · exact ⟨_, .inr (.inr (.inl rfl)), rfl⟩
  · exact ⟨_, .inr (.inr (.inr rfl)), rfl⟩
theorem law_deed_spec {c : Cx} (hK : Kx c) (ha : AOk c.A 5) {pa bd bl : Addr} {p : Pen} {s : BoxS} {k : Nat} (hp : PenOk k p) (hk : k ≤ 90000) (ho : BoxOk s) (hlen : s.ls.length ≤ 900) (hlg : s.gone.length ≤ 900) {m : Mp} {νr : Lg} {Q : D → Mp → Lg → Prop}
    (q : ∀ d p' bl' s', PenOk (k + 1000) p' → Deed s s' → Q d m ((penE pa p' :: boxL bd bl' s') ++ νr)) :
    CodeD c (.ref 419) [.raw (.ref pa), dB bd] m ((penE pa p :: boxL bd bl s) ++ νr) Q := by
  refine call_fn1 ["pen", "box"] ["box", "way", "uids"] "pen" ["_law_draw", "set_flags", "len", "_law_flags", "expunge", "add_letter"] [some (dB bd), none, none] (some (.raw (.ref pa))) (by rw [hK]; k_is) (by rw [hK]; k_is) ha (bind2 fun _ _ => rfl) (by decide +kernel) rfl rfl rfl (fun _ => rfl) (fun A' L' env ac hA E hg hc => ?_)
  have hu0 : s.us.length ≤ 900 := by simpa using hlen
  repeat tb_start
  refine draw2 (c := c.in A' L' _) hK (hA.le (by decide)) hp (by omega) (by decide) (by decide) fun way p1 w0 w1 hp1 => ?_
  repeat tb_start
  refine (uids_spec (c := c.in A' L' _) hK (hA.le (by decide)) (s := s) ⟨by tb_rel, by tb_rel⟩ ho ?_).call
  have pos : ¬ s.us = [] → 0 < s.us.length := fun h => List.length_pos_iff.mpr h
  have emp : ((s.us.map D.int).isEmpty) = decide (s.us = []) := by cases s.us <;> rfl
  repeat tb_start
  refine ite_dec (fun h1 => ?_) (fun h1 => ?_)
  · repeat tb_start
    refine tru_list .frozen (by simp; omega) ?_
    rw [emp]
    refine ite_nd (fun hne => ?_) (fun he => ?_)
    · have hpos := pos hne
      repeat tb_start
      refine call_len .frozen (by simp; omega) ?_
      rw [List.length_map]
      repeat tb_start
      refine draw2 (c := c.in A' L' _) hK (hA.le (by decide)) hp1 (by omega) (by omega) (by omega) fun i p2 i0 i1 hp2 => ?_
      have hi : i.toNat < s.us.length := by omega
      repeat tb_start
      refine su_list (fun _ _ => rfl) .frozen i0 (by omega) (d := .int s.us[i.toNat]) (by rw [List.getElem?_map, List.getElem?_eq_getElem hi]; rfl) ?_
      repeat tb_start
      refine (law_flags_spec (c := c.in A' L' _) hK (hA.le (by decide)) ?_).call
      repeat tb_start
      refine draw2 (c := c.in A' L' _) hK (hA.le (by decide)) hp2 (by omega) (by decide) (by decide) fun j p3 j0 j1 hp3 => ?_
      obtain ⟨fs, hfs, e⟩ := pick_ok j0 (by omega)
      repeat tb_start
      refine su_list (fun _ _ => rfl) .frozen j0 (by omega) e ?_
      repeat tb_start
      refine CodeD.call (CodeD.perm (ν' := boxL bd bl s ++ [(ac, .cell (some (.raw (.ref pa)))), penE pa p3]) (List.perm_append_comm (l₁ := [_, _])) (set_flags_spec (c := c.in A' L' _) hK hA hfs ho (List.getElem_mem hi) fun d s' hd => ⟨(ac, .cell (some (.raw (.ref pa)))) :: penE pa p3 :: boxL bd bl s', List.perm_append_comm (l₂ := [_, _]), ?_⟩))
      repeat tb_start
      exact ⟨[_], _, .refl _, q _ _ _ _ (hp3.le (by omega)) hd⟩
    · repeat tb_start
      refine ite_dec (fun h => absurd h (by omega)) (fun _ => ?_)
      repeat tb_start
      refine ev_bytesR fun t => ?_
      repeat tb_start
      refine (law_flags_spec (c := c.in A' L' _) hK (hA.le (by decide)) ?_).call
      repeat tb_start
      refine draw2 (c := c.in A' L' _) hK (hA.le (by decide)) hp1 (by omega) (by decide) (by decide) fun i p2 i0 i1 hp2 => ?_
      obtain ⟨fs, hfs, e⟩ := pick_ok i0 (by omega)
      repeat tb_start
      refine su_list (fun _ _ => rfl) .frozen i0 (by omega) e ?_
      repeat tb_start
      refine CodeD.call (CodeD.perm (ν' := boxL bd bl s ++ [(ac, .cell (some (.raw (.ref pa)))), penE pa p2]) (List.perm_append_comm (l₁ := [_, _])) (add_letter_spec (c := c.in A' L' _) hK hA hfs ho fun d => ⟨(ac, .cell (some (.raw (.ref pa)))) :: penE pa p2 :: boxL bd bl (s.add fs t), List.perm_append_comm (l₂ := [_, _]), ?_⟩))
      repeat tb_start
      exact ⟨[_], _, .refl _, q _ _ _ _ (hp2.le (by omega)) (.add hfs)⟩
  · repeat tb_start
    refine ite_dec (fun h2 => ?_) (fun h2 => ?_)
    · repeat tb_start
      refine tru_list .frozen (by simp; omega) ?_
      rw [emp]
      refine ite_nd (fun hne => ?_) (fun he => ?_)
      · repeat tb_start
        refine ev_ListComp [("pen", ac)] ["uid"] ["_law_draw"] rfl hc.look (by decide +kernel) ?_
        repeat tb_start
        refine cj_st [("pen", ac)] ["uid"] ["_law_draw"] [none] (fun x : Pen => (ac, .cell (some (.raw (.ref pa)))) :: penE pa x :: boxL bd bl s) (fun i x acc => PenOk (k + 1 + i) x ∧ ∃ us', us'.Sublist (s.us.take i) ∧ acc = us'.map D.int) p1 E (by decide +kernel) hc rfl nd1 rfl (iter_lst hA.h) (fun _ _ _ _ => trivial) (by simp; omega) ⟨hp1, [], by simp, rfl⟩ rfl (fun C env' i x acc e he hP E' hg' hc' => ?_) (fun x acc hP => ?_)
        · obtain ⟨hx, us', hsub, rfl⟩ := hP
          rw [List.getElem?_map] at he
          cases hf : s.us[i]? with
          | none => rw [hf] at he; cases he
          | some u =>
          rw [hf] at he
          simp only [Option.map_some, Option.some.injEq] at he
          subst he
          have hi := (List.getElem?_eq_some_iff.mp hf).1
          have htk : s.us.take (i + 1) = s.us.take i ++ [u] := by rw [List.take_succ, hf]; rfl
          repeat tb_start
          refine draw2 (c := (c.in A' L' _).in A' C _) hK (hA.le (by decide)) hx (by omega) (by decide) (by decide) fun j p3 j0 j1 hp3 => ?_
          repeat tb_start
          refine ite_dec (fun _ => ?_) (fun _ => ?_)
          · repeat tb_start
            exact ⟨rfl, p3, ⟨hp3.le (by omega), us' ++ [u], by rw [htk]; exact hsub.append (List.Sublist.refl _), by simp⟩, rfl⟩
          · exact ⟨rfl, p3, ⟨hp3.le (by omega), us', by rw [htk]; exact hsub.trans (List.sublist_append_left _ _), rfl⟩, rfl⟩
        · obtain ⟨hx, us', hsub, rfl⟩ := hP
          have hsub' : us'.Sublist s.us := hsub.trans (List.take_sublist _ _)
          have hle := hsub'.length_le
          have hnd : us'.Nodup := hsub'.nodup (ho.inc.imp fun h => by omega)
          repeat tb_start
          refine CodeD.call (CodeD.perm (ν' := boxL bd bl s ++ [(ac, .cell (some (.raw (.ref pa)))), penE pa x]) (List.perm_append_comm (l₁ := [_, _])) (expunge_spec (c := c.in A' L' _) hK hA ho hnd (by omega) (by omega) fun d bl' s' hd => ⟨(ac, .cell (some (.raw (.ref pa)))) :: penE pa x :: boxL bd bl' s', List.perm_append_comm (l₂ := [_, _]), ?_⟩))
          repeat tb_start
          exact ⟨[_], _, .refl _, q _ _ _ _ (hx.le (by simp; omega)) hd⟩
      · repeat tb_start
        repeat tb_start
        refine ev_bytesR fun t => ?_
        repeat tb_start
        refine (law_flags_spec (c := c.in A' L' _) hK (hA.le (by decide)) ?_).call
        repeat tb_start
        refine draw2 (c := c.in A' L' _) hK (hA.le (by decide)) hp1 (by omega) (by decide) (by decide) fun i p2 i0 i1 hp2 => ?_
        obtain ⟨fs, hfs, e⟩ := pick_ok i0 (by omega)
        repeat tb_start
        refine su_list (fun _ _ => rfl) .frozen i0 (by omega) e ?_
        repeat tb_start
        refine CodeD.call (CodeD.perm (ν' := boxL bd bl s ++ [(ac, .cell (some (.raw (.ref pa)))), penE pa p2]) (List.perm_append_comm (l₁ := [_, _])) (add_letter_spec (c := c.in A' L' _) hK hA hfs ho fun d => ⟨(ac, .cell (some (.raw (.ref pa)))) :: penE pa p2 :: boxL bd bl (s.add fs t), List.perm_append_comm (l₂ := [_, _]), ?_⟩))
        repeat tb_start
        exact ⟨[_], _, .refl _, q _ _ _ _ (hp2.le (by omega)) (.add hfs)⟩
    · repeat tb_start
      repeat tb_start
      refine ev_bytesR fun t => ?_
      repeat tb_start
      refine (law_flags_spec (c := c.in A' L' _) hK (hA.le (by decide)) ?_).call
      repeat tb_start
      refine draw2 (c := c.in A' L' _) hK (hA.le (by decide)) hp1 (by omega) (by decide) (by decide) fun i p2 i0 i1 hp2 => ?_
      obtain ⟨fs, hfs, e⟩ := pick_ok i0 (by omega)
      repeat tb_start
      refine su_list (fun _ _ => rfl) .frozen i0 (by omega) e ?_
      repeat tb_start
      refine CodeD.call (CodeD.perm (ν' := boxL bd bl s ++ [(ac, .cell (some (.raw (.ref pa)))), penE pa p2]) (List.perm_append_comm (l₁ := [_, _])) (add_letter_spec (c := c.in A' L' _) hK hA hfs ho fun d => ⟨(ac, .cell (some (.raw (.ref pa)))) :: penE pa p2 :: boxL bd bl (s.add fs t), List.perm_append_comm (l₂ := [_, _]), ?_⟩))
      repeat tb_start
      exact ⟨[_], _, .refl _, q _ _ _ _ (hp2.le (by omega)) (.add hfs)⟩
theorem law_copy_spec {c : Cx} (hK : Kx c) (ha : AOk c.A 1) {bd bl : Addr} {s : BoxS} (hs : BoxOk s) {m : Mp} {ν : Lg} {Q : D → Mp → Lg → Prop} (hb : BoxIn ν bd bl s) (q : Q (.map s.us (s.ls.map fun l => dFl l.flags)) m ν) :
    CodeD c (.ref 424) [dB bd] m ν Q := by
  refine call_fnr ["box"] ["box"] ["dict"] [some (dB bd)] (by rw [hK]; k_is) (by rw [hK]; k_is) ha (bind1 fun _ => rfl) (by decide +kernel) rfl rfl (fun _ => rfl) (fun A' L' env hA E hg => ?_)
  repeat tb_start
  refine ev_ListComp [] ["letter"] [] rfl look0 (by decide +kernel) ?_
  repeat tb_start
  refine cj_map [] ["letter"] [] [none] s.ls dL (fun l => .tup [.int l.uid, dFl l.flags]) E (by decide +kernel) .nil rfl nd0 rfl (iter_ptr hA.h) hb.l (by have := hs.len; omega) (fun C env' l hl E' hg' hc' => ?_) ?_
  · repeat tb_start
    exact ⟨rfl, rfl, rfl⟩
  repeat tb_start
  refine call_dict_ints (prs := s.ls.map fun l => (l.uid, dFl l.flags)) hA.h (by rw [List.map_map]; exact hs.inc.imp fun h => by omega) (by rw [List.length_map]; have := hs.len; omega) (by rw [List.map_map]; exact .frozen) ?_
  repeat tb_start
  rw [List.map_map, List.map_map]
  exact q
/- F7 -/
def rngStep (out : List (Int × Int)) (n : Int) : List (Int × Int) := match out.getLast? with
  | some p => if n ≤ p.2 + 1 then out.set (out.length - 1) (p.1, n) else out ++ [(n, n)]
  | none => [(n, n)]
def ranges (us : List Int) : List (Int × Int) := us.foldl rngStep []
theorem ranges_take (us : List Int) {i : Nat} {u : Int} (h : us[i]? = some u) : ranges (us.take (i + 1)) = rngStep (ranges (us.take i)) u := by
  unfold ranges; rw [List.take_succ, h, Option.toList_some, List.foldl_append]; rfl
theorem rngStep_len (out : List (Int × Int)) (n : Int) : (rngStep out n).length ≤ out.length + 1 := by
  unfold rngStep; split
  · split <;> simp
  · simp
theorem ranges_len (us : List Int) : (ranges us).length ≤ us.length := by
  have : ∀ (us : List Int) (o : List (Int × Int)), (us.foldl rngStep o).length ≤ o.length + us.length := by
    intro us
    induction us with
    | nil => intro o; simp
    | cons u us ih => intro o; rw [List.foldl_cons]; have := ih (rngStep o u); have := rngStep_len o u; simp; omega
  have := this us []; simpa [ranges] using this
theorem ranges_of_spec {c : Cx} (hK : Kx c) (ha : AOk c.A 1) {us : List Int} (hl : us.length ≤ 1000) {m : Mp} {ν : Lg} {Q : D → Mp → Lg → Prop} (q : Q (.tup ((ranges us).map dP)) m ν) :
    CodeD c (.ref 223) [.lst (us.map .int)] m ν Q := by
  refine call_fndr ["numbers"] ["numbers", "out", "number"] ["len", "tuple"] [some (.lst (us.map .int)), none, none] (by rw [hK]; k_is) (by rw [hK]; k_is) ha (bind1 fun _ => rfl) (by decide +kernel) rfl rfl (fun _ => rfl) (fun A' L' env hA E hg => ?_)
  repeat tb_start
  refine ev_ListM ?_
  repeat tb_start
  intro oa
  repeat tb_start
  refine loop_of (fun _ : Nat => [some (.lst (us.map .int)), some (.raw (.ref oa)), none]) (fun k : Nat => (oa, .lst ((ranges (us.take k)).map dP)) :: ν) (fun i k => i = k) 0 (iter_lst hA.h) rfl (by tb_rel) rfl (fun _ _ _ => trivial) ?_ ?_
  · rintro i _ d hd rfl
    rw [List.getElem?_map] at hd
    cases hf : us[i]? with
    | none => rw [hf] at hd; cases hd
    | some u =>
    rw [hf] at hd
    simp only [Option.map_some, Option.some.injEq] at hd
    subst hd
    have hi := (List.getElem?_eq_some_iff.mp hf).1
    have hrl : (ranges (us.take i)).length ≤ 1000 := by have := ranges_len (us.take i); rw [List.length_take] at this; omega
    have hnx := ranges_take us hf
    repeat tb_start
    refine call_len (.live (by tb_rel)) (by rw [List.length_map]; omega) ?_
    rw [List.length_map]
    generalize hr : ranges (us.take i) = R at *
    repeat tb_start
    refine ite_dec (fun h0 => ?_) (fun h0 => ?_)
    · obtain ⟨p, hp⟩ : ∃ p, R.getLast? = some p := by
        cases R with
        | nil => simp at h0
        | cons a b => exact ⟨_, List.getLast?_eq_some_getLast (by simp)⟩
      have hlast : (R.map dP).getLast? = some (dP p) := by rw [List.getLast?_map, hp]; rfl
      repeat tb_start
      refine su_last (fun _ _ => rfl) (.live (by tb_rel)) hlast (by rw [List.length_map]; omega) ?_
      repeat tb_start
      refine ite_dec (fun h1 => ?_) (fun h1 => ?_)
      · repeat tb_start
        refine su_last (fun _ _ => rfl) (.live (by tb_rel)) hlast (by rw [List.length_map]; omega) ?_
        repeat tb_start
        refine si_last (by rw [List.length_map]; omega) .head ?_
        repeat tb_start
        refine ⟨i + 1, rfl, by tb_rel, ?_⟩
        rw [hnx]; unfold rngStep; rw [hp]; simp only [if_pos h1]
        rw [List.map_set, List.length_map]
      · repeat tb_start
        refine ⟨i + 1, rfl, by tb_rel, ?_⟩
        rw [hnx]; unfold rngStep; rw [hp]; simp only [if_neg h1]
        rw [List.map_append]; rfl
    · have hR : R = [] := by cases R with | nil => rfl | cons a b => exact absurd (by simp) h0
      subst hR
      repeat tb_start
      refine ⟨i + 1, rfl, by tb_rel, ?_⟩
      rw [hnx]; rfl
  · rintro _ rfl
    rw [List.length_map, List.take_length]
    repeat tb_start
    refine call_tuple_lst (.live (by tb_rel)) (by rw [List.length_map]; have := ranges_len us; omega) ?_
    repeat tb_start
    exact ⟨[_], _, .refl _, q⟩

/-- pairs in order, with a gap between each two -/
structure Gap (R : List (Int × Int)) : Prop where
  ok : ∀ p ∈ R, 1 ≤ p.1 ∧ p.1 ≤ p.2
  gap : R.Pairwise fun p q => p.2 + 1 < q.1
theorem ends_of_spec {c : Cx} (hK : Kx c) (ha : AOk c.A 1) {a b g : Int} (h1 : 1 ≤ a) (h2 : a ≤ b) {m : Mp} {ν : Lg} {Q : D → Mp → Lg → Prop} (q : Q (dP (a, b)) m ν) :
    CodeD c (.ref 209) [dP (a, b), .int g] m ν Q := by
  refine call_fnr ["pair", "greatest"] ["pair", "greatest", "low", "high"] ["min", "max"] [some (dP (a, b)), some (.int g), none, none] (by rw [hK]; k_is) (by rw [hK]; k_is) ha (bind2 fun _ _ => rfl) (by decide +kernel) rfl rfl (fun _ => rfl) (fun A' L' env hA E hg => ?_)
  repeat tb_start
  refine ex_AssignPair ?_
  repeat tb_start
  refine ite_dec (fun hg => ?_) (fun hg => ?_)
  · repeat tb_start
    refine ite_dec (fun h => absurd h (by omega)) (fun _ => ?_)
    repeat tb_start
    rw [decide_eq_false (show ¬ b = 0 by omega)]
    repeat tb_start
    refine ite_dec (fun h => absurd h (by omega)) (fun _ => ?_)
    repeat tb_start
    refine ite_dec (fun h => absurd h (by omega)) (fun _ => ?_)
    repeat tb_start
    rw [show min a b = a by omega, show max a b = b by omega]
    exact q
  · repeat tb_start
    refine ite_dec (fun h => absurd h (by omega)) (fun _ => ?_)
    repeat tb_start
    refine ite_dec (fun h => absurd h (by omega)) (fun _ => ?_)
    repeat tb_start
    rw [show min a b = a by omega, show max a b = b by omega]
    exact q
theorem plain_set_spec {c : Cx} (hK : Kx c) (ha : AOk c.A 2) {R : List (Int × Int)} {g : Int} (hR : Gap R) (hl : R.length < 64) {m : Mp} {ν : Lg} {Q : D → Mp → Lg → Prop} (q : Q (.tup (R.map dP)) m ν) :
    CodeD c (.ref 216) [.tup (R.map dP), .int g] m ν Q := by
  refine call_fndr ["some", "greatest"] ["some", "greatest", "pairs", "pair", "ends", "out", "low", "high"] ["ends_of", "len", "max", "tuple"] [some (.tup (R.map dP)), some (.int g), none, none, none, none, none, none] (by rw [hK]; k_is) (by rw [hK]; k_is) ha (bind2 fun _ _ => rfl) (by decide +kernel) rfl rfl (fun _ => rfl) (fun A' L' env hA E hg => ?_)
  repeat tb_start
  refine ev_ListM ?_
  repeat tb_start
  intro pa
  repeat tb_start
  have look : ∀ {i : Nat} {d : D}, (R.map dP)[i]? = some d → ∃ p, R[i]? = some p ∧ d = dP p ∧ p ∈ R := by
    intro i d hd
    rw [List.getElem?_map] at hd
    cases hf : R[i]? with
    | none => rw [hf] at hd; cases hd
    | some p => rw [hf] at hd; simp only [Option.map_some, Option.some.injEq] at hd; exact ⟨p, rfl, hd.symm, List.mem_of_getElem? hf⟩
  refine loop_of (fun _ : Nat => [some (.tup (R.map dP)), some (.int g), some (.raw (.ref pa)), none, none, none, none, none]) (fun k : Nat => (pa, .lst ((R.take k).map dP)) :: ν) (fun i k => i = k) 0 (iter_tup hA.h) rfl (by tb_rel) rfl (fun _ _ _ => trivial) ?_ ?_
  · rintro i _ d hd rfl
    obtain ⟨⟨a, b⟩, hf, rfl, hm⟩ := look hd
    have hok := hR.ok _ hm
    repeat tb_start
    refine (ends_of_spec (c := c.in A' L' _) hK hA hok.1 hok.2 ?_).call
    repeat tb_start
    refine call_append .head (by rw [List.length_map, List.length_take]; omega) ?_
    repeat tb_start
    refine ⟨i + 1, rfl, by tb_rel, ?_⟩
    rw [List.take_succ, hf]; simp
  rintro _ rfl
  rw [List.length_map, List.take_length]
  repeat tb_start
  refine call_sort List.mem_cons_self hl (by exact (hR.gap.imp_of_mem fun ha hb h => by have := hR.ok _ ha; omega)) ?_
  repeat tb_start
  refine ev_ListM ?_
  repeat tb_start
  intro oa
  repeat tb_start
  refine loop_of (fun _ : Nat => [some (.tup (R.map dP)), some (.int g), some (.raw (.ref pa)), none, none, some (.raw (.ref oa)), none, none]) (fun k : Nat => (oa, .lst ((R.take k).map dP)) :: (pa, .lst (R.map dP)) :: ν) (fun i k => i = k) 0 (iter_ptr (a := pa) (ds := R.map dP) hA.h) rfl (by tb_rel) rfl (fun _ _ _ => by tb_rel) ?_ ?_
  · rintro i _ d hd rfl
    obtain ⟨⟨a, b⟩, hf, rfl, hm⟩ := look hd
    have hi := (List.getElem?_eq_some_iff.mp hf).1
    repeat tb_start
    refine call_len (.live (by tb_rel)) (by rw [List.length_map, List.length_take]; omega) ?_
    rw [List.length_map, List.length_take]
    repeat tb_start
    have fin : (oa, MO.lst ((R.take i).map dP ++ [dP (a, b)])) :: (pa, MO.lst (R.map dP)) :: ν = (oa, MO.lst ((R.take (i + 1)).map dP)) :: (pa, MO.lst (R.map dP)) :: ν := by
      rw [List.take_succ, hf]; simp
    refine ite_dec (fun h0 => ?_) (fun h0 => ?_)
    · have h1 : 0 < i := by omega
      have hq : (R.take i).getLast? = some (R[i - 1]'(by omega)) := by
        rw [List.getLast?_eq_getElem?, List.length_take, Nat.min_eq_left (by omega), List.getElem?_take_of_lt (by omega)]
        exact List.getElem?_eq_getElem _
      have hgap := List.pairwise_iff_getElem.mp hR.gap (i - 1) i (by omega) hi (by omega)
      rw [(List.getElem?_eq_some_iff.mp hf).2] at hgap
      repeat tb_start
      refine su_last (fun _ _ => rfl) (.live (by tb_rel)) (d := dP (R[i - 1]'(by omega))) (by rw [List.getLast?_map, hq]; rfl) (by rw [List.length_map, List.length_take]; omega) ?_
      repeat tb_start
      refine ite_dec (fun h => absurd h (by simp only at hgap; omega)) (fun _ => ?_)
      repeat tb_start
      refine call_append .head (by rw [List.length_map, List.length_take]; omega) ?_
      repeat tb_start
      exact ⟨i + 1, rfl, by tb_rel, fin.symm⟩
    · repeat tb_start
      refine call_append .head (by rw [List.length_map, List.length_take]; omega) ?_
      repeat tb_start
      exact ⟨i + 1, rfl, by tb_rel, fin.symm⟩
  rintro _ rfl
  rw [List.length_map, List.take_length]
  repeat tb_start
  refine call_tuple_lst (.live (by tb_rel)) (by rw [List.length_map]; omega) ?_
  repeat tb_start
  exact ⟨[_, _], _, .refl _, q⟩
theorem has_spec {c : Cx} (hK : Kx c) (ha : AOk c.A 2) {R : List (Int × Int)} {n g : Int} (hR : Gap R) {m : Mp} {ν : Lg} {Q : D → Mp → Lg → Prop} (q : Q (.bool (R.any fun p => decide (p.1 ≤ n ∧ n ≤ p.2))) m ν) :
    CodeD c (.ref 230) [.tup (R.map dP), .int n, .int g] m ν Q := by
  refine call_fnr ["some", "number", "greatest"] ["some", "number", "greatest", "pair", "ends"] ["ends_of"] [some (.tup (R.map dP)), some (.int n), some (.int g), none, none] (by rw [hK]; k_is) (by rw [hK]; k_is) ha (bind3 fun _ _ _ => rfl) (by decide +kernel) rfl rfl (fun _ => rfl) (fun A' L' env hA E hg => ?_)
  repeat tb_start
  refine loop_of (fun _ : Unit => [some (.tup (R.map dP)), some (.int n), some (.int g), none, none]) (fun _ => ν) (fun i _ => (R.take i).any (fun p => decide (p.1 ≤ n ∧ n ≤ p.2)) = false) () (iter_tup hA.h) rfl (by tb_rel) rfl (fun _ _ _ => trivial) ?_ ?_
  · rintro i _ d hd hP
    rw [List.getElem?_map] at hd
    cases hf : R[i]? with
    | none => rw [hf] at hd; cases hd
    | some p =>
    rw [hf] at hd
    simp only [Option.map_some, Option.some.injEq] at hd
    subst hd
    obtain ⟨a, b⟩ := p
    have hm := List.mem_of_getElem? hf
    have hok := hR.ok _ hm
    have htk : R.take (i + 1) = R.take i ++ [(a, b)] := by rw [List.take_succ, hf]; rfl
    repeat tb_start
    refine (ends_of_spec (c := c.in A' L' _) hK hA hok.1 hok.2 ?_).call
    repeat tb_start
    refine ite_dec (fun h1 => ?_) (fun h1 => ?_)
    · repeat tb_start
      refine ite_dec (fun h2 => ?_) (fun h2 => ?_)
      · repeat tb_start
        rw [show (R.any fun p => decide (p.1 ≤ n ∧ n ≤ p.2)) = true from List.any_eq_true.mpr ⟨_, hm, by simp; omega⟩] at q
        exact q
      · repeat tb_start
        exact ⟨(), by rw [htk, List.any_append, hP]; simp; omega, by tb_rel, rfl⟩
    · repeat tb_start
      exact ⟨(), by rw [htk, List.any_append, hP]; simp; omega, by tb_rel, rfl⟩
  · intro _ hP
    rw [List.length_map, List.take_length] at hP
    repeat tb_start
    rw [hP] at q
    exact q
/- F8 -/
abbrev inR (R : List (Int × Int)) (n : Int) : Bool := R.any fun p => decide (p.1 ≤ n ∧ n ≤ p.2)
theorem flatMap_len {α β : Type} (f : α → List β) (k : Nat) : ∀ (L : List α), (∀ x ∈ L, (f x).length ≤ k) → (L.flatMap f).length ≤ L.length * k
  | [], _ => by simp
  | x :: L, h => by
    rw [List.flatMap_cons, List.length_append, List.length_cons, Nat.add_mul, Nat.one_mul]
    have := flatMap_len f k L fun y hy => h y (List.mem_cons_of_mem _ hy)
    have := h x List.mem_cons_self
    omega
theorem numbers_in_spec {c : Cx} (hK : Kx c) (ha : AOk c.A 3) {R : List (Int × Int)} {g : Int} (hR : Gap R) (hl : R.length < 64) (hg : 0 ≤ g) (hg2 : g ≤ 900) (hb : ∀ p ∈ R, p.2 ≤ g) {m : Mp} {ν : Lg} {Q : D → Mp → Lg → Prop} (q : Q (.lst ((R.flatMap fun p => rng p.1 (min p.2 g + 1)).map .int)) m ν) :
    CodeD c (.ref 244) [.tup (R.map dP), .int g] m ν Q := by
  refine CodeD.frz ?_
  refine call_fnr ["some", "greatest"] ["some", "greatest", "out", "low", "high"] ["plain_set", "range", "min"] [some (.tup (R.map dP)), some (.int g), none, none, none] (by rw [hK]; k_is) (by rw [hK]; k_is) ha (bind2 fun _ _ => rfl) (by decide +kernel) rfl rfl (fun _ => rfl) (fun A' L' env hA E hg => ?_)
  repeat tb_start
  refine ev_ListM ?_
  repeat tb_start
  intro oa
  repeat tb_start
  refine (plain_set_spec (c := c.in A' L' _) hK hA hR hl ?_).call
  refine loop_of (fun _ : Nat => [some (.tup (R.map dP)), some (.int g), some (.raw (.ref oa)), none, none]) (fun k : Nat => (oa, .lst (((R.take k).flatMap fun p => rng p.1 (min p.2 g + 1)).map .int)) :: ν) (fun i k => i = k) 0 (iter_tup hA.h) rfl (by tb_rel) rfl (fun _ _ _ => trivial) ?_ ?_
  · rintro i _ d hd rfl
    rw [List.getElem?_map] at hd
    cases hf : R[i]? with
    | none => rw [hf] at hd; cases hd
    | some p =>
    rw [hf] at hd
    simp only [Option.map_some, Option.some.injEq] at hd
    subst hd
    obtain ⟨a, b⟩ := p
    have hm := List.mem_of_getElem? hf
    have hok := hR.ok _ hm
    repeat tb_start
    have hbg := hb _ hm
    have hi := (List.getElem?_eq_some_iff.mp hf).1
    have hlen := flatMap_len (fun p : Int × Int => rng p.1 (min p.2 g + 1)) 901 (R.take i) (fun x hx => by
      have h1 := hR.ok _ (List.mem_of_mem_take hx)
      have h2 := hb _ (List.mem_of_mem_take hx)
      show (rng x.1 (min x.2 g + 1)).length ≤ 901
      rw [rng_length]; omega)
    rw [List.length_take, Nat.min_eq_left (by omega)] at hlen
    simp only at hok hbg
    refine call_extend_range hA.h (by omega) (by omega) (by rw [List.length_map]; omega) .head ?_
    repeat tb_start
    refine ⟨i + 1, rfl, by tb_rel, ?_⟩
    rw [List.take_succ, hf]; simp
  · rintro _ rfl
    rw [List.length_map, List.take_length]
    repeat tb_start
    exact ⟨_, _, _, _, rfl, .lst, q⟩
theorem members_spec {c : Cx} (hK : Kx c) (ha : AOk c.A 3) {R : List (Int × Int)} {ns : List Int} (hR : Gap R) (hl : R.length < 64) (hn : ns.length ≤ 1000) (hs : ns.Pairwise (· < ·)) (hne : ns ≠ []) {m : Mp} {ν : Lg} {Q : D → Mp → Lg → Prop} (q : Q (.lst ((ns.filter (inR R)).map .int)) m ν) :
    CodeD c (.ref 237) [.tup (R.map dP), .lst (ns.map .int)] m ν Q := by
  refine CodeD.frz ?_
  refine call_fnr ["some", "numbers"] ["some", "numbers", "pairs", "out", "at", "number"] ["len", "plain_set"] [some (.tup (R.map dP)), some (.lst (ns.map .int)), none, none, none, none] (by rw [hK]; k_is) (by rw [hK]; k_is) ha (bind2 fun _ _ => rfl) (by decide +kernel) rfl rfl (fun _ => rfl) (fun A' L' env hA E hg => ?_)
  repeat tb_start
  refine call_len .frozen (by rw [List.length_map]; omega) ?_
  rw [List.length_map]
  repeat tb_start
  have hpos := List.length_pos_iff.mpr hne
  refine ite_dec (fun h => absurd h (by omega)) (fun _ => ?_)
  repeat tb_start
  refine su_last (fun _ _ => rfl) .frozen (d := .int (ns.getLast hne)) (by rw [List.getLast?_map, List.getLast?_eq_some_getLast hne]; rfl) (by rw [List.length_map]; omega) ?_
  repeat tb_start
  refine (plain_set_spec (c := c.in A' L' _) hK hA hR hl ?_).call
  repeat tb_start
  refine ev_ListM ?_
  repeat tb_start
  intro oa
  repeat tb_start
  have stepR : ∀ {t t' : Nat} (h1 : t < t') (h2 : t' < R.length), (R[t]).2 < (R[t']).1 := fun h1 h2 => by
    have := List.pairwise_iff_getElem.mp hR.gap _ _ (by omega) h2 h1; omega
  have yes : ∀ {j : Nat} {n : Int} (h : j < R.length), (R[j]).1 ≤ n → n ≤ (R[j]).2 → inR R n = true := fun h a b => List.any_eq_true.mpr ⟨_, List.getElem_mem h, by simp; omega⟩
  have no : ∀ {j : Nat} {n : Int}, (∀ t (h : t < R.length), t < j → (R[t]).2 < n) → (∀ t (h : t < R.length), j ≤ t → n < (R[t]).1) → inR R n = false := fun h1 h2 => by
    rw [inR, List.any_eq_false]
    intro p hp
    obtain ⟨t, ht, rfl⟩ := List.getElem_of_mem hp
    rcases Nat.lt_or_ge t _ with h | h
    · have := h1 t ht h; simp; omega
    · have := h2 t ht h; simp; omega
  have getP : ∀ {j : Nat} (h : j < R.length), (R.map dP)[Int.toNat (j : Int)]? = some (dP R[j]) := fun h => by simp [h]
  refine loop_of (fun x : Nat × Nat => [some (.tup (R.map dP)), some (.lst (ns.map .int)), some (.tup (R.map dP)), some (.raw (.ref oa)), some (.int x.2), none]) (fun x : Nat × Nat => (oa, .lst (((ns.take x.1).filter (inR R)).map .int)) :: ν) (fun i x => x.1 = i ∧ x.2 ≤ R.length ∧ ∀ t (h : t < R.length), t < x.2 → ∀ n ∈ ns.drop i, (R[t]).2 < n) (0, 0) (iter_lst hA.h) ⟨rfl, Nat.zero_le _, fun t _ h => absurd h (Nat.not_lt_zero _)⟩ (Sub.refl _) rfl (fun _ _ _ => trivial) ?_ ?_
  · rintro i ⟨i', j0⟩ d hd ⟨rfl, hj0, hbel⟩
    simp only at hj0 hbel
    rw [List.getElem?_map] at hd
    cases hf : ns[i']? with
    | none => rw [hf] at hd; cases hd
    | some n =>
    rw [hf] at hd
    simp only [Option.map_some, Option.some.injEq] at hd
    subst hd
    obtain ⟨hi, en⟩ := List.getElem?_eq_some_iff.mp hf
    have htk : (ns.take (i' + 1)) = ns.take i' ++ [n] := by rw [List.take_succ, hf]; rfl
    have hdr : ns.drop i' = n :: ns.drop (i' + 1) := by rw [List.drop_eq_getElem_cons hi, en]
    have hgt : ∀ k ∈ ns.drop (i' + 1), n < k := fun k hk => by
      have := hs.sublist (List.drop_sublist i' ns)
      rw [hdr] at this
      exact (List.pairwise_cons.mp this).1 k hk
    have hlt0 : ((ns.take i').filter (inR R)).length ≤ 1000 := by
      have := List.length_filter_le (inR R) (ns.take i')
      rw [List.length_take] at this; omega
    repeat tb_start
    refine ex_While (fun j : Nat => [some (.tup (R.map dP)), some (.lst (ns.map .int)), some (.tup (R.map dP)), some (.raw (.ref oa)), some (.int j), some (.int n)]) (fun _ => (oa, .lst (((ns.take i').filter (inR R)).map .int)) :: ν) (fun j => j ≤ R.length ∧ ∀ t (h : t < R.length), t < j → (R[t]).2 < n) (fun j => R.length - j) j0 ⟨hj0, fun t h ht => hbel t h ht n (by rw [hdr]; exact List.mem_cons_self)⟩ (Sub.refl _) rfl ?_
    rintro j ⟨hj, hb⟩
    have next : ∀ t (h : t < R.length), t < j → ∀ k ∈ ns.drop (i' + 1), (R[t]).2 < k := fun t h ht k hk => by have := hb t h ht; have := hgt k hk; omega
    repeat tb_start
    refine call_len_tup (by rw [List.length_map]; omega) ?_
    rw [List.length_map]
    repeat tb_start
    refine ite_dec (fun h1 => ?_) (fun h1 => ?_)
    · have hjl : j < R.length := by omega
      repeat tb_start
      refine su_tup (fun _ _ => rfl) (by omega) (by omega) (getP hjl) ?_
      repeat tb_start
      refine ite_dec (fun h2 => ?_) (fun h2 => ?_)
      · repeat tb_start
        refine ⟨j + 1, by omega, ⟨hjl, fun t h ht => ?_⟩, Sub.refl _, rfl⟩
        rcases Nat.lt_or_ge t j with h3 | h3
        · exact hb t h h3
        · have : t = j := by omega
          subst this; exact h2
      · repeat tb_start
        refine call_len_tup (by rw [List.length_map]; omega) ?_
        rw [List.length_map]
        repeat tb_start
        refine ite_dec (fun _ => ?_) (fun h => absurd h1 h)
        repeat tb_start
        refine su_tup (fun _ _ => rfl) (by omega) (by omega) (getP hjl) ?_
        repeat tb_start
        refine ite_dec (fun h3 => ?_) (fun h3 => ?_)
        · repeat tb_start
          refine ⟨(i' + 1, j), ⟨rfl, hj, next⟩, by tb_rel, ?_⟩
          show (oa, MO.lst (((ns.take (i' + 1)).filter (inR R)).map .int)) :: ν = _
          rw [htk, List.filter_append, show [n].filter (inR R) = [n] by rw [List.filter_cons, yes hjl h3 (by omega)]; rfl, List.map_append]; rfl
        · repeat tb_start
          refine ⟨(i' + 1, j), ⟨rfl, hj, next⟩, by tb_rel, ?_⟩
          show (oa, MO.lst (((ns.take (i' + 1)).filter (inR R)).map .int)) :: ν = _
          rw [htk, List.filter_append, show [n].filter (inR R) = [] by
            rw [List.filter_cons, no (j := j) hb (fun t h ht => by
              rcases Nat.lt_or_ge j t with h4 | h4
              · have := stepR h4 h; have := hR.ok _ (List.getElem_mem hjl); omega
              · have : t = j := by omega
                subst this; omega)]; rfl, List.append_nil]
    · repeat tb_start
      refine call_len_tup (by rw [List.length_map]; omega) ?_
      rw [List.length_map]
      repeat tb_start
      refine ite_dec (fun h => absurd h h1) (fun _ => ?_)
      repeat tb_start
      refine ⟨(i' + 1, j), ⟨rfl, hj, next⟩, by tb_rel, ?_⟩
      show (oa, MO.lst (((ns.take (i' + 1)).filter (inR R)).map .int)) :: ν = _
      rw [htk, List.filter_append, show [n].filter (inR R) = [] by
        rw [List.filter_cons, no (j := j) hb (fun t h ht => absurd h (by omega))]; rfl, List.append_nil]
  · rintro ⟨i', j⟩ ⟨rfl, _, _⟩
    rw [List.length_map, List.take_length]
    repeat tb_start
    exact ⟨_, _, _, _, rfl, .lst, q⟩
/- F9 -/
structure BoxB (s : BoxS) : Prop extends BoxOk s where
  gl : s.gone.length < 64
  n0 : 1 ≤ s.next
  n1 : s.next ≤ 900
theorem BoxIn.cons {ν : Lg} {bd bl : Addr} {s : BoxS} (b : BoxIn ν bd bl s) {p : Addr × MO} : BoxIn (p :: ν) bd bl s := ⟨List.mem_cons_of_mem _ b.a, List.mem_cons_of_mem _ b.l⟩
abbrev srt (l : List Int) : List Int := l.mergeSort (fun a b => decide (a ≤ b))
theorem srt_eq {l ys : List Int} (h : ys.Perm l) (hs : ys.Pairwise (· ≤ ·)) : ys = srt l := by
  refine lks_uniq (h.trans (List.mergeSort_perm l _).symm) hs ?_
  have := List.pairwise_mergeSort (le := fun a b : Int => decide (a ≤ b)) (fun a b c h1 h2 => by simp at h1 h2 ⊢; omega) (fun a b => by simp; omega) l
  exact this.imp fun h => by simpa using h
theorem changed_since_spec {c : Cx} (hK : Kx c) (ha : AOk c.A 1) {bd bl : Addr} {s : BoxS} {t : Int} (hb : BoxB s) {m : Mp} {ν : Lg} {Q : D → Mp → Lg → Prop} (hi : BoxIn ν bd bl s) (q : Q (.lst ((s.ls.filter fun l => decide (t < l.modseq)).map dL)) m ν) :
    CodeD c (.ref 249) [dB bd, .int t] m ν Q := by
  refine call_fn1r ["box", "modseq"] ["box"] "modseq" [] [some (dB bd)] (some (.int t)) (by rw [hK]; k_is) (by rw [hK]; k_is) ha (bind2 fun _ _ => rfl) (by decide +kernel) rfl rfl rfl (fun _ => rfl) (fun A' L' env ac hA E hg hc => ?_)
  have hi' := hi.cons (p := (ac, MO.cell (some (.int t))))
  repeat tb_start
  refine ev_ListComp [("modseq", ac)] ["letter"] [] rfl hc.look (by decide +kernel) ?_
  repeat tb_start
  refine cj_pf [("modseq", ac)] ["letter"] [] [none] s.ls dL (fun l => decide (t < l.modseq)) dL E (by decide +kernel) hc rfl nd1 rfl (iter_ptr hA.h) hi'.l (by have := hb.len; omega) (fun C env' l hl E' hg' hc' => ?_) ?_
  · repeat tb_start
    refine turn_d rfl (fun _ => ?_) (fun _ => ?_)
    · repeat tb_start
      exact ⟨rfl, rfl, rfl⟩
    · exact ⟨rfl, rfl⟩
  repeat tb_start
  exact ⟨[_], _, .refl _, q⟩
theorem is_forgotten_spec {c : Cx} (hK : Kx c) (ha : AOk c.A 1) {bd bl : Addr} {s : BoxS} {t : Int} {m : Mp} {ν : Lg} {Q : D → Mp → Lg → Prop} (hi : BoxIn ν bd bl s) (q : Q (.bool (decide (t < s.floor))) m ν) :
    CodeD c (.ref 256) [dB bd, .int t] m ν Q := by
  refine call_fnr ["box", "modseq"] ["box", "modseq"] [] [some (dB bd), some (.int t)] (by rw [hK]; k_is) (by rw [hK]; k_is) ha (bind2 fun _ _ => rfl) (by decide +kernel) rfl rfl (fun _ => rfl) (fun A' L' env hA E hg => ?_)
  repeat tb_start
  exact q
theorem posOf_neg {us : List Int} {u : Int} : decide (posOf us u < 0) = !decide (u ∈ us) := by
  unfold posOf; by_cases h : u ∈ us <;> simp [h]
theorem missing_uids_spec {c : Cx} (hK : Kx c) (ha : AOk c.A 2) {bd bl : Addr} {s : BoxS} (hb : BoxB s) {m : Mp} {ν : Lg} {Q : D → Mp → Lg → Prop} (hi : BoxIn ν bd bl s) (q : Q (.lst (((rng 1 s.next).filter fun u => !decide (u ∈ s.us)).map .int)) m ν) :
    CodeD c (.ref 261) [dB bd] m ν Q := by
  refine call_fn1r ["box"] [] "box" ["range"] [] (some (dB bd)) (by rw [hK]; k_is) (by rw [hK]; k_is) ha (bind1 fun _ => rfl) (by decide +kernel) rfl rfl rfl (fun _ => rfl) (fun A' L' env ac hA E hg hc => ?_)
  have hi' := hi.cons (p := (ac, MO.cell (some (dB bd))))
  have n0 := hb.n0
  have n1 := hb.n1
  repeat tb_start
  refine ev_ListComp [("box", ac)] ["uid"] ["place_of"] rfl hc.look (by decide +kernel) ?_
  repeat tb_start
  refine cj_pf [("box", ac)] ["uid"] ["place_of"] [none] (rng 1 s.next) D.int (fun u => !decide (u ∈ s.us)) D.int E (by decide +kernel) hc rfl nd1 rfl (iter_range hA.h (small_one (by omega) (by omega) (by omega) (by omega))) trivial (by rw [rng_length]; omega) (fun C env' u hu E' hg' hc' => ?_) ?_
  · repeat tb_start
    refine (place_of_spec (c := (c.in A' L' _).in A' C _) hK hA hi'.l hb.len hb.inc ?_).call
    repeat tb_start
    rw [posOf_neg]
    refine turn_nd rfl (fun _ => ?_) (fun _ => ?_)
    · repeat tb_start
      exact ⟨rfl, rfl, rfl⟩
    · exact ⟨rfl, rfl⟩
  repeat tb_start
  exact ⟨[_], _, .refl _, q⟩
theorem gone_since_spec {c : Cx} (hK : Kx c) (ha : AOk c.A 1) {bd bl : Addr} {s : BoxS} {t : Int} (hb : BoxB s) {m : Mp} {ν : Lg} {Q : D → Mp → Lg → Prop} (hi : BoxIn ν bd bl s) (q : Q (.lst ((srt ((s.gone.filter fun p => decide (t < p.2)).map (·.1))).map .int)) m ν) :
    CodeD c (.ref 266) [dB bd, .int t] m ν Q := by
  refine call_fn1r ["box", "modseq"] ["box"] "modseq" ["sorted"] [some (dB bd)] (some (.int t)) (by rw [hK]; k_is) (by rw [hK]; k_is) ha (bind2 fun _ _ => rfl) (by decide +kernel) rfl rfl rfl (fun _ => rfl) (fun A' L' env ac hA E hg hc => ?_)
  have hi' := hi.cons (p := (ac, MO.cell (some (.int t))))
  have gl := hb.gl
  repeat tb_start
  refine ev_ListComp [("modseq", ac)] ["uid", "at"] [] rfl hc.look (by decide +kernel) ?_
  repeat tb_start
  refine cj_pf [("modseq", ac)] ["uid", "at"] [] [none, none] s.gone dP (fun p => decide (t < p.2)) (fun p => .int p.1) E (by decide +kernel) hc rfl nd1 rfl (iter_lst hA.h) trivial (by omega) (fun C env' p hp E' hg' hc' => ?_) ?_
  · repeat tb_start
    refine turn_d rfl (fun _ => ?_) (fun _ => ?_)
    · repeat tb_start
      exact ⟨rfl, rfl, rfl⟩
    · exact ⟨rfl, rfl⟩
  repeat tb_start
  refine call_sorted_ints (xs := (s.gone.filter fun p => decide (t < p.2)).map (·.1)) (by rw [List.map_map]; exact .frozen) (by rw [List.length_map]; have := List.length_filter_le (fun p : Int × Int => decide (t < p.2)) s.gone; omega) fun ys hp hs => ?_
  rw [srt_eq hp hs]
  repeat tb_start
  exact ⟨[_], _, .refl _, q⟩
/- F10 -/
theorem turn_b {b p : Bool} {A B : Prop} (e : b = p) (h1 : b = true → A) (h2 : b = false → B) : b = p ∧ if b = true then A else B := ⟨e, by cases b; exact ite_f (h2 rfl); exact ite_t (h1 rfl)⟩
theorem nd2 {x y : Str} {a b : Addr} (h : x ≠ y) : (([(x, a), (y, b)] : List (Str × Addr)).map (·.1)).Nodup := by simp [h]
theorem Run.cut {α β : Type} {c : Cx} {rel : Fz → α → β → Prop} {t : Sem α} {m : Mp} {ν : Lg} {Q : β → Mp → Lg → Prop} (P : β → Mp → Lg → Prop) (r : Run c rel t m ν P) (q : ∀ b m' ν', P b m' ν' → Q b m' ν') : Run c rel t m ν Q := r.mono q
abbrev foundOf (s : BoxS) (t : Int) : List Int := if t < s.floor then (rng 1 s.next).filter (fun u => !decide (u ∈ s.us)) else srt ((s.gone.filter fun p => decide (t < p.2)).map (·.1))
abbrev dK : Option (List (Int × Int)) → D
  | none => .none
  | some R => .tup (R.map dP)
abbrev vanOf (s : BoxS) (t : Int) : Option (List (Int × Int)) → List Int
  | none => foundOf s t
  | some R => (foundOf s t).filter (inR R)
theorem foundOf_len {s : BoxS} {t : Int} (hb : BoxB s) : (foundOf s t).length ≤ 1000 := by
  have n0 := hb.n0
  have n1 := hb.n1
  have gl := hb.gl
  unfold foundOf
  split
  · have := List.length_filter_le (fun u => !decide (u ∈ s.us)) (rng 1 s.next)
    rw [rng_length] at this; omega
  · rw [List.length_mergeSort, List.length_map]
    have := List.length_filter_le (fun p : Int × Int => decide (t < p.2)) s.gone
    omega
theorem vanished_since_spec {c : Cx} (hK : Kx c) (ha : AOk c.A 3) {bd bl : Addr} {s : BoxS} {t : Int} {kn : Option (List (Int × Int))} (hb : BoxB s) (hk : ∀ R, kn = some R → Gap R) {m : Mp} {ν : Lg} {Q : D → Mp → Lg → Prop} (hi : BoxIn ν bd bl s) (q : Q (.lst ((vanOf s t kn).map .int)) m ν) :
    CodeD c (.ref 272) [dB bd, .int t, dK kn] m ν Q := by
  refine call_fn2B ["box", "modseq", "known"] ["modseq", "found"] "box" "known" ["is_forgotten", "missing_uids", "gone_since"] [some (.int t), none] (some (dB bd)) (some (dK kn)) (by rw [hK]; k_is) (by rw [hK]; k_is) ha (bindB (o := _) (by rw [hK]; k_is) rfl rfl (bind3 fun _ _ _ => ⟨_, rfl, rfl⟩)) (by decide +kernel) rfl rfl rfl rfl (by decide +kernel) (fun _ => rfl) (fun A' L' env ab ak hA E hg hc => ?_)
  have hi' := (hi.cons (p := (ab, MO.cell (some (dB bd))))).cons (p := (ak, MO.cell (some (dK kn))))
  have fl := foundOf_len (t := t) hb
  refine ex_cons ?_
  refine ex_Assign E ?_ rfl
  refine Run.cut (fun d m₁ ν₁ => d = .lst ((foundOf s t).map .int) ∧ m₁ = [some (.int t), none] ∧ ν₁ = (ak, MO.cell (some (dK kn))) :: (ab, MO.cell (some (dB bd))) :: ν) ?_ ?_
  · repeat tb_start
    refine (is_forgotten_spec (c := c.in A' L' _) hK (hA.le (by decide)) hi' ?_).call
    repeat tb_start
    refine ite_dec (fun h => ?_) (fun h => ?_)
    · repeat tb_start
      refine (missing_uids_spec (c := c.in A' L' _) hK (hA.le (by decide)) hb hi' ?_).call
      refine ⟨?_, rfl, rfl⟩
      unfold foundOf; rw [if_pos h]
    · repeat tb_start
      refine (gone_since_spec (c := c.in A' L' _) hK (hA.le (by decide)) hb hi' ?_).call
      refine ⟨?_, rfl, rfl⟩
      unfold foundOf; rw [if_neg h]
  rintro _ _ _ ⟨rfl, rfl, rfl⟩
  repeat tb_start
  cases kn with
  | none =>
    repeat tb_start
    exact ⟨[_, _], _, .refl _, q⟩
  | some R =>
    have hR := hk R rfl
    repeat tb_start
    refine ev_ListComp [("box", ab), ("known", ak)] ["uid"] ["has"] rfl (fun p hp => hc.look p (by simp only [List.mem_cons, List.not_mem_nil, or_false] at hp; rcases hp with rfl | rfl <;> simp)) (by decide +kernel) ?_
    repeat tb_start
    refine cj_pf [("box", ab), ("known", ak)] ["uid"] ["has"] [none] (foundOf s t) D.int (inR R) D.int E (by decide +kernel) (hc.sub (by simp)) rfl (nd2 (by decide +kernel)) rfl (iter_lst hA.h) trivial (by omega) (fun C env' u hu E' hg' hc' => ?_) ?_
    · repeat tb_start
      refine (has_spec (c := (c.in A' L' _).in A' C _) hK (hA.le (by decide)) hR ?_).call
      repeat tb_start
      refine turn_b rfl (fun _ => ?_) (fun _ => ?_)
      · repeat tb_start
        exact ⟨rfl, rfl, rfl⟩
      · exact ⟨rfl, rfl⟩
    repeat tb_start
    exact ⟨[_, _], _, .refl _, q⟩
/- F11 -/
abbrev heldOf (g : Int) (R1 R2 : List (Int × Int)) : List (Int × Int) :=
  if ((rng 1 (g + 1)).filter (inR R1)).length = ((rng 1 (g + 1)).filter (inR R2)).length then ((rng 1 (g + 1)).filter (inR R1)).zip ((rng 1 (g + 1)).filter (inR R2)) else []
theorem rng_inc (a b : Int) : (rng a b).Pairwise (· < ·) := by
  unfold rng
  rw [List.pairwise_map]
  exact List.pairwise_lt_range.imp fun h => by omega
theorem held_pairs_spec {c : Cx} (hK : Kx c) (ha : AOk c.A 4) {R1 R2 : List (Int × Int)} {g : Int} (h1 : Gap R1) (h2 : Gap R2) (l1 : R1.length < 64) (l2 : R2.length < 64) (g0 : 1 ≤ g) (g1 : g ≤ 900) {m : Mp} {ν : Lg} {Q : D → Mp → Lg → Prop} (q : Q (.lst ((heldOf g R1 R2).map dP)) m ν) :
    CodeD c (.ref 279) [.tup [.tup (R1.map dP), .tup (R2.map dP)], .int g] m ν Q := by
  refine call_fnr ["match", "greatest"] ["match", "greatest", "some", "numbers", "uids"] ["list", "range", "members", "len", "zip"] [some (.tup [.tup (R1.map dP), .tup (R2.map dP)]), some (.int g), none, none, none] (by rw [hK]; k_is) (by rw [hK]; k_is) ha (bind2 fun _ _ => rfl) (by decide +kernel) rfl rfl (fun _ => rfl) (fun A' L' env hA E hg => ?_)
  have hne : rng 1 (g + 1) ≠ [] := by
    intro h; have := congrArg List.length h; rw [rng_length] at this; simp at this; omega
  have hlen : (rng 1 (g + 1)).length ≤ 1000 := by rw [rng_length]; omega
  have f1 := List.length_filter_le (inR R1) (rng 1 (g + 1))
  have f2 := List.length_filter_le (inR R2) (rng 1 (g + 1))
  repeat tb_start
  refine call_list_rng hA.h (by omega) (by omega) ?_
  repeat tb_start
  refine (members_spec (c := c.in A' L' _) hK hA h1 l1 hlen (rng_inc _ _) hne ?_).call
  repeat tb_start
  refine (members_spec (c := c.in A' L' _) hK hA h2 l2 hlen (rng_inc _ _) hne ?_).call
  repeat tb_start
  refine call_len .frozen (by rw [List.length_map]; omega) ?_
  repeat tb_start
  refine call_len .frozen (by rw [List.length_map]; omega) ?_
  rw [List.length_map, List.length_map]
  repeat tb_start
  refine ite_dec (fun h => ?_) (fun h => ?_)
  · repeat tb_start
    refine ev_List ?_
    repeat tb_start
    rw [show heldOf g R1 R2 = [] from if_neg (by omega)] at q
    exact q
  · repeat tb_start
    refine call_zip fun z ti to i1 i2 => ?_
    repeat tb_start
    refine call_list_zip hA.h (by simp; omega) (by simp; omega) ?_
    repeat tb_start
    rw [show heldOf g R1 R2 = _ from if_pos (by omega)] at q
    rw [show (((rng 1 (g + 1)).filter (inR R1)).zip ((rng 1 (g + 1)).filter (inR R2))).map dP = ((((rng 1 (g + 1)).filter (inR R1)).map D.int).zip (((rng 1 (g + 1)).filter (inR R2)).map D.int)).map fun p => .tup [p.1, p.2] by
      rw [List.zip_map, List.map_map]; rfl] at q
    exact q
abbrev agStep (s : BoxS) (b : Int) (p : Int × Int) : Int := if posOf s.us p.2 + 1 = p.1 then p.2 else b
abbrev agreedOf (s : BoxS) (R1 R2 : List (Int × Int)) : Int := (heldOf (s.next - 1) R1 R2).foldl (agStep s) 0
theorem agreed_uid_spec {c : Cx} (hK : Kx c) (ha : AOk c.A 5) {bd bl : Addr} {s : BoxS} (hb : BoxB s) (hn : 2 ≤ s.next) {R1 R2 : List (Int × Int)} (h1 : Gap R1) (h2 : Gap R2) (l1 : R1.length < 64) (l2 : R2.length < 64) {m : Mp} {ν : Lg} {Q : D → Mp → Lg → Prop} (hi : BoxIn ν bd bl s) (q : Q (.int (agreedOf s R1 R2)) m ν) :
    CodeD c (.ref 286) [dB bd, .tup [.tup (R1.map dP), .tup (R2.map dP)]] m ν Q := by
  have n1 := hb.n1
  refine call_fnr ["box", "match"] ["box", "match", "best", "number", "uid"] ["held_pairs", "number_in"] [some (dB bd), some (.tup [.tup (R1.map dP), .tup (R2.map dP)]), none, none, none] (by rw [hK]; k_is) (by rw [hK]; k_is) ha (bind2 fun _ _ => rfl) (by decide +kernel) rfl rfl (fun _ => rfl) (fun A' L' env hA E hg => ?_)
  repeat tb_start
  refine (held_pairs_spec (c := c.in A' L' _) hK hA h1 h2 l1 l2 (by omega) (by omega) ?_).call
  replace q : Q (.int ((heldOf (s.next - 1) R1 R2).foldl (agStep s) 0)) m ν := q
  generalize heldOf (s.next - 1) R1 R2 = H at q ⊢
  refine loop_of (fun b : Int => [some (dB bd), some (.tup [.tup (R1.map dP), .tup (R2.map dP)]), some (.int b), none, none]) (fun _ => ν) (fun i b => b = (H.take i).foldl (agStep s) 0) 0 (iter_lst hA.h) rfl (by tb_rel) rfl (fun _ _ _ => trivial) ?_ ?_
  · rintro i _ d hd rfl
    rw [List.getElem?_map] at hd
    cases hf : H[i]? with
    | none => rw [hf] at hd; cases hd
    | some p =>
    rw [hf] at hd
    simp only [Option.map_some, Option.some.injEq] at hd
    subst hd
    have htk : (H.take (i + 1)).foldl (agStep s) 0 = agStep s ((H.take i).foldl (agStep s) 0) p := by rw [List.take_succ, hf, Option.toList_some, List.foldl_append]; rfl
    repeat tb_start
    refine (number_in_spec (c := c.in A' L' _) hK (hA.le (by decide)) hi hb.toBoxOk ?_).call
    repeat tb_start
    refine ite_dec (fun h => ?_) (fun h => ?_)
    · repeat tb_start
      exact ⟨p.2, by rw [htk]; exact (if_pos h).symm, by tb_rel, rfl⟩
    · repeat tb_start
      exact ⟨(H.take i).foldl (agStep s) 0, by rw [htk]; exact (if_neg h).symm, by tb_rel, rfl⟩
  · rintro _ rfl
    rw [List.length_map, List.take_length]
    repeat tb_start
    exact q
abbrev dM : Option (List (Int × Int) × List (Int × Int)) → D
  | none => .none
  | some (R1, R2) => .tup [.tup (R1.map dP), .tup (R2.map dP)]
abbrev vanAll (s : BoxS) (t : Int) (kn : Option (List (Int × Int))) : Option (List (Int × Int) × List (Int × Int)) → List Int
  | none => vanOf s t kn
  | some (R1, R2) => if t < s.floor then (vanOf s t kn).filter (fun u => decide (agreedOf s R1 R2 < u)) else vanOf s t kn
abbrev chOf (s : BoxS) (t : Int) : List Ltr := s.ls.filter fun l => decide (t < l.modseq)
theorem vanOf_len {s : BoxS} {t : Int} (kn : Option (List (Int × Int))) (hb : BoxB s) : (vanOf s t kn).length ≤ 1000 := by
  have := foundOf_len (t := t) hb
  cases kn with
  | none => exact this
  | some R => have := List.length_filter_le (inR R) (foundOf s t); show (List.filter _ _).length ≤ _; omega
structure MatchOk (s : BoxS) (mt : Option (List (Int × Int) × List (Int × Int))) : Prop where
  all : ∀ R1 R2, mt = some (R1, R2) → 2 ≤ s.next ∧ Gap R1 ∧ Gap R2 ∧ R1.length < 64 ∧ R2.length < 64
theorem resync_spec {c : Cx} (hK : Kx c) (ha : AOk c.A 6) {bd bl : Addr} {s : BoxS} {t : Int} {kn : Option (List (Int × Int))} {mt : Option (List (Int × Int) × List (Int × Int))} (hb : BoxB s) (hk : ∀ R, kn = some R → Gap R) (hm : MatchOk s mt)
    {m : Mp} {ν : Lg} {Q : D → Mp → Lg → Prop} (hi : BoxIn ν bd bl s) (q : Q (.tup [.lst ((vanAll s t kn mt).map .int), .lst ((chOf s t).map dL)]) m ν) :
    CodeD c (.ref 292) [dB bd, .int 9, .int t, dK kn, dM mt] m ν Q := by
  refine call_fn1B ["box", "validity", "modseq", "known", "match"] ["box", "validity", "modseq", "known", "match", "vanished"] "agreed" ["vanished_since", "is_forgotten", "agreed_uid", "changed_since"] [some (dB bd), some (.int 9), some (.int t), some (dK kn), some (dM mt), none] none (by rw [hK]; k_is) (by rw [hK]; k_is) ha (bindB (o := _) (by rw [hK]; k_is) rfl rfl (bind5 fun _ _ _ _ _ => ⟨_, rfl, rfl⟩)) (by decide +kernel) rfl rfl rfl (fun _ => rfl) (fun A' L' env ac hA E hg hc => ?_)
  have hi' : ∀ od, BoxIn ((ac, MO.cell od) :: ν) bd bl s := fun od => hi.cons
  have hi1 := hi' none
  have vl := vanOf_len (t := t) kn hb
  repeat tb_start
  refine ite_dec (fun h => absurd rfl h) (fun _ => ?_)
  repeat tb_start
  refine (vanished_since_spec (c := c.in A' L' _) hK (hA.le (by decide)) hb hk hi1 ?_).call
  refine set_ok (by tb_rel) ?_
  refine ex_cons ?_
  refine Run.cut (fun f m₁ ν₁ => f = .next ∧ m₁ = [some (dB bd), some (.int 9), some (.int t), some (dK kn), some (dM mt), some (.lst ((vanAll s t kn mt).map .int))] ∧ ∃ od, ν₁ = (ac, MO.cell od) :: ν) ?_ ?_
  · cases mt with
    | none =>
      repeat tb_start
      exact ⟨rfl, rfl, _, rfl⟩
    | some p =>
      obtain ⟨R1, R2⟩ := p
      obtain ⟨n2, g1, g2, l1, l2⟩ := hm.all R1 R2 rfl
      repeat tb_start
      refine (is_forgotten_spec (c := c.in A' L' _) hK (hA.le (by decide)) hi1 ?_).call
      repeat tb_start
      refine ite_dec (fun h => ?_) (fun h => ?_)
      · repeat tb_start
        refine (agreed_uid_spec (c := c.in A' L' _) hK (hA.le (by decide)) hb n2 g1 g2 l1 l2 hi1 ?_).call
        repeat tb_start
        refine ex_AssignComp (x := "vanished") E (by tb_rel) rfl (by decide +kernel) [("agreed", ac)] ["uid"] [] rfl hc.look (by decide +kernel) ?_
        repeat tb_start
        refine cj_pf [("agreed", ac)] ["uid"] [] [none] (vanOf s t kn) D.int (fun u => decide (agreedOf s R1 R2 < u)) D.int E (by decide +kernel) hc rfl nd1 rfl (iter_lst hA.h) trivial (by omega) (fun C env' u hu E' hg' hc' => ?_) ?_
        · repeat tb_start
          refine turn_d rfl (fun _ => ?_) (fun _ => ?_)
          · repeat tb_start
            exact ⟨rfl, rfl, rfl⟩
          · exact ⟨rfl, rfl⟩
        repeat tb_start
        exact ⟨rfl, by rw [show vanAll s t kn (some (R1, R2)) = _ from if_pos h], _, rfl⟩
      · repeat tb_start
        exact ⟨rfl, by rw [show vanAll s t kn (some (R1, R2)) = _ from if_neg h], _, rfl⟩
  rintro _ _ _ ⟨rfl, rfl, od, rfl⟩
  have hi2 := hi' od
  repeat tb_start
  refine (changed_since_spec (c := c.in A' L' _) hK (hA.le (by decide)) hb hi2 ?_).call
  repeat tb_start
  exact ⟨[_], _, .refl _, q⟩
abbrev BoxS.forget (s : BoxS) (t : Int) : BoxS := { s with gone := s.gone.filter (fun p => decide (min t s.top < p.2)), floor := min t s.top }
theorem forget_gone_spec {c : Cx} (hK : Kx c) (ha : AOk c.A 1) {bd bl : Addr} {s : BoxS} {t : Int} (hgl : s.gone.length ≤ 1000) (ht : s.floor < min t s.top) {m : Mp} {νr : Lg} {Q : D → Mp → Lg → Prop} (q : ∀ d, Q d m (boxL bd bl (s.forget t) ++ νr)) :
    CodeD c (.ref 297) [dB bd, .int t] m (boxL bd bl s ++ νr) Q := by
  refine call_fn1 ["box", "modseq"] ["box", "modseq", "kept", "count"] "bound" ["min", "len"] [some (dB bd), some (.int t), none, none] none (by rw [hK]; k_is) (by rw [hK]; k_is) ha (bind2 fun _ _ => rfl) (by decide +kernel) rfl rfl rfl (fun _ => rfl) (fun A' L' env ac hA E hg hc => ?_)
  repeat tb_start
  refine ite_dec (fun h => absurd h (by omega)) (fun _ => ?_)
  repeat tb_start
  refine ex_AssignComp (x := "kept") E (by tb_rel) rfl (by decide +kernel) [("bound", ac)] ["uid", "at"] [] rfl hc.look (by decide +kernel) ?_
  repeat tb_start
  refine cj_pf [("bound", ac)] ["uid", "at"] [] [none, none] s.gone dP (fun p => decide (min t s.top < p.2)) dP E (by decide +kernel) hc rfl nd1 rfl (iter_lst hA.h) trivial (by omega) (fun C env' p hp E' hg' hc' => ?_) ?_
  · repeat tb_start
    refine turn_d rfl (fun _ => ?_) (fun _ => ?_)
    · repeat tb_start
      exact ⟨rfl, rfl, rfl⟩
    · exact ⟨rfl, rfl⟩
  have := List.length_filter_le (fun p : Int × Int => decide (min t s.top < p.2)) s.gone
  repeat tb_start
  refine call_len .frozen (by rw [List.length_map]; omega) ?_
  repeat tb_start
  refine call_len .frozen (by rw [List.length_map]; omega) ?_
  repeat tb_start
  exact ⟨[_], boxL bd bl (s.forget t), .refl _, q _⟩
/- P1 -/
abbrev Inc (l : List Int) : Prop := l.Pairwise (· < ·)
theorem mem_rng {a b n : Int} : n ∈ rng a b ↔ a ≤ n ∧ n < b := by
  unfold rng
  rw [List.mem_map]
  constructor
  · rintro ⟨i, hi, rfl⟩
    rw [List.mem_range] at hi; omega
  · rintro ⟨h1, h2⟩
    exact ⟨(n - a).toNat, by rw [List.mem_range]; omega, by omega⟩
theorem rng_succ {a b : Int} (h : a ≤ b) : rng a (b + 1) = rng a b ++ [b] := by
  unfold rng
  rw [show (b + 1 - a).toNat = (b - a).toNat + 1 by omega, List.range_succ, List.map_append]
  simp; omega
theorem rng_one (u : Int) : rng u (u + 1) = [u] := by
  rw [rng_succ (Int.le_refl _)]; simp [rng]
theorem Inc.nodup {l : List Int} (h : Inc l) : l.Nodup := h.imp fun h => by omega
theorem inc_ext : ∀ {A B : List Int}, Inc A → Inc B → (∀ x, x ∈ A ↔ x ∈ B) → A = B
  | [], [], _, _, _ => rfl
  | [], b :: B, _, _, h => absurd ((h b).mpr List.mem_cons_self) (by simp)
  | a :: A, [], _, _, h => absurd ((h a).mp List.mem_cons_self) (by simp)
  | a :: A, b :: B, hA, hB, h => by
    have a1 := List.pairwise_cons.mp hA
    have b1 := List.pairwise_cons.mp hB
    have e : a = b := by
      have h1 := (h a).mp List.mem_cons_self
      have h2 := (h b).mpr List.mem_cons_self
      rcases List.mem_cons.mp h1 with q | q
      · exact q
      · rcases List.mem_cons.mp h2 with r | r
        · exact r.symm
        · have := a1.1 b r; have := b1.1 a q; omega
    subst e
    congr 1
    refine inc_ext a1.2 b1.2 fun x => ⟨fun hx => ?_, fun hx => ?_⟩
    · rcases List.mem_cons.mp ((h x).mp (List.mem_cons_of_mem _ hx)) with q | q
      · have := a1.1 x hx; omega
      · exact q
    · rcases List.mem_cons.mp ((h x).mpr (List.mem_cons_of_mem _ hx)) with q | q
      · have := b1.1 x hx; omega
      · exact q
theorem inc_len : ∀ {A B : List Int}, Inc A → Inc B → (∀ x ∈ A, x ∈ B) → A.length ≤ B.length
  | [], _, _, _, _ => Nat.zero_le _
  | a :: A, [], _, _, h => absurd (h a List.mem_cons_self) (by simp)
  | a :: A, b :: B, hA, hB, h => by
    have a1 := List.pairwise_cons.mp hA
    have b1 := List.pairwise_cons.mp hB
    have := inc_len a1.2 b1.2 fun x hx => by
      rcases List.mem_cons.mp (h x (List.mem_cons_of_mem _ hx)) with q | q
      · exfalso
        have h1 := a1.1 x hx
        rcases List.mem_cons.mp (h a List.mem_cons_self) with r | r
        · omega
        · have := b1.1 a r; omega
      · exact q
    simp; omega
/-! ## ranges -/
structure RInv (V : List Int) (R : List (Int × Int)) : Prop where
  gap : Gap R
  flat : R.flatMap (fun p => rng p.1 (p.2 + 1)) = V
  last : R.getLast?.map (·.2) = V.getLast?
theorem rinv_take {V : List Int} (hi : Inc V) (hp : ∀ v ∈ V, 1 ≤ v) : ∀ k, k ≤ V.length → RInv (V.take k) (ranges (V.take k)) := by
  intro k
  induction k with
  | zero => intro _; exact ⟨⟨fun p hp => by simp [ranges] at hp, by simp [ranges]⟩, by simp [ranges], by simp [ranges]⟩
  | succ k ih =>
    intro hk
    have R := ih (by omega)
    have hk' : k < V.length := by omega
    have hget : V[k]? = some V[k] := List.getElem?_eq_getElem hk'
    rw [ranges_take V hget, show V.take (k + 1) = V.take k ++ [V[k]] by rw [List.take_succ, hget]; rfl]
    have hu := hp _ (List.getElem_mem hk')
    have hbig : ∀ x ∈ V.take k, x < V[k] := fun x hx => by
      obtain ⟨j, hj, rfl⟩ := List.getElem_of_mem hx
      rw [List.length_take] at hj
      rw [List.getElem_take]
      exact List.pairwise_iff_getElem.mp hi j k (by omega) hk' (by omega)
    generalize V[k] = u at *
    generalize V.take k = U at *
    generalize ranges U = S at *
    obtain ⟨⟨r1, r2⟩, r3, r4⟩ := R
    unfold rngStep
    cases hl : S.getLast? with
    | none =>
      have : S = [] := List.getLast?_eq_none_iff.mp hl
      subst this
      simp at r3
      subst r3
      refine ⟨⟨fun p hp => ?_, by simp⟩, ?_, by simp⟩
      · simp at hp; subst hp; simp; omega
      · simp [rng_one]
    | some p =>
      obtain ⟨S', rfl⟩ := List.getLast?_eq_some_iff.mp hl
      have hpl : U.getLast? = some p.2 := by rw [← r4, hl]; rfl
      have hp2 : p.2 < u := hbig _ (List.mem_of_getLast? hpl)
      have hpo := r1 p (by simp)
      rw [List.pairwise_append] at r2
      obtain ⟨g1, _, g3⟩ := r2
      simp only
      split
      · rename_i hle
        have e : u = p.2 + 1 := by omega
        have es : (S' ++ [p]).set ((S' ++ [p]).length - 1) (p.1, u) = S' ++ [(p.1, u)] := by
          rw [List.length_append, List.length_singleton, Nat.add_sub_cancel, List.set_append_right _ _ (Nat.le_refl _)]; simp
        rw [es]
        refine ⟨⟨fun q hq => ?_, ?_⟩, ?_, by simp⟩
        · rcases List.mem_append.mp hq with hq | hq
          · exact r1 q (List.mem_append_left _ hq)
          · rw [List.mem_singleton] at hq; subst hq; simp; omega
        · rw [List.pairwise_append]
          refine ⟨g1, List.pairwise_singleton _ _, fun a ha b hb => ?_⟩
          rw [List.mem_singleton] at hb; subst hb
          exact g3 a ha p (by simp)
        · rw [List.flatMap_append] at r3 ⊢
          rw [← r3]
          simp only [List.flatMap_cons, List.flatMap_nil, List.append_nil]
          rw [e, rng_succ (b := p.2 + 1) (by omega), List.append_assoc]
      · rename_i hgt
        refine ⟨⟨fun q hq => ?_, ?_⟩, ?_, by simp⟩
        · rcases List.mem_append.mp hq with hq | hq
          · exact r1 q hq
          · rw [List.mem_singleton] at hq; subst hq; simp; omega
        · rw [List.pairwise_append]
          refine ⟨List.pairwise_append.mpr ⟨g1, by simp, g3⟩, List.pairwise_singleton _ _, fun a ha b hb => ?_⟩
          rw [List.mem_singleton] at hb; subst hb
          rcases List.mem_append.mp ha with ha | ha
          · have := g3 a ha p (by simp); simp only; omega
          · rw [List.mem_singleton] at ha; subst ha; simp only; omega
        · rw [List.flatMap_append, r3]
          simp [rng_one]
theorem rinv {V : List Int} (hi : Inc V) (hp : ∀ v ∈ V, 1 ≤ v) : RInv V (ranges V) := by
  have := rinv_take hi hp V.length (Nat.le_refl _)
  rwa [List.take_length] at this
theorem ranges_mem {V : List Int} (hi : Inc V) (hp : ∀ v ∈ V, 1 ≤ v) {n : Int} : n ∈ V ↔ ∃ p ∈ ranges V, p.1 ≤ n ∧ n ≤ p.2 := by
  conv => lhs; rw [← (rinv hi hp).flat]
  rw [List.mem_flatMap]
  constructor
  · rintro ⟨p, h1, h2⟩; rw [mem_rng] at h2; exact ⟨p, h1, by omega⟩
  · rintro ⟨p, h1, h2⟩; exact ⟨p, h1, by rw [mem_rng]; omega⟩
theorem inR_ranges {V : List Int} (hi : Inc V) (hp : ∀ v ∈ V, 1 ≤ v) (n : Int) : inR (ranges V) n = decide (n ∈ V) := by
  rw [Bool.eq_iff_iff, decide_eq_true_eq, ranges_mem hi hp, inR, List.any_eq_true]
  constructor
  · rintro ⟨p, h1, h2⟩; exact ⟨p, h1, by simpa using h2⟩
  · rintro ⟨p, h1, h2⟩; exact ⟨p, h1, by simpa using h2⟩
theorem ranges_hi {V : List Int} (hi : Inc V) (hp : ∀ v ∈ V, 1 ≤ v) {p : Int × Int} (h : p ∈ ranges V) : p.2 ∈ V := by
  have := (rinv hi hp).gap.ok p h
  exact (ranges_mem hi hp).mpr ⟨p, h, this.2, Int.le_refl _⟩
theorem ranges_back {V : List Int} (hi : Inc V) (hp : ∀ v ∈ V, 1 ≤ v) {g : Int} (hg : ∀ v ∈ V, v ≤ g) : (ranges V).flatMap (fun p => rng p.1 (min p.2 g + 1)) = V := by
  conv => rhs; rw [← (rinv hi hp).flat]
  have : ∀ L : List (Int × Int), (∀ p ∈ L, p.2 ≤ g) → L.flatMap (fun p => rng p.1 (min p.2 g + 1)) = L.flatMap (fun p => rng p.1 (p.2 + 1)) := by
    intro L hL
    induction L with
    | nil => rfl
    | cons p L ih =>
      rw [List.flatMap_cons, List.flatMap_cons, ih fun q hq => hL q (List.mem_cons_of_mem _ hq), show min p.2 g = p.2 from by have := hL p List.mem_cons_self; omega]
  exact this _ fun p h => hg _ (ranges_hi hi hp h)
theorem pick_back {V : List Int} (hi : Inc V) (hp : ∀ v ∈ V, 1 ≤ v) {g : Int} (hg : ∀ v ∈ V, v ≤ g) : (rng 1 (g + 1)).filter (inR (ranges V)) = V := by
  refine inc_ext ((rng_inc _ _).filter _) hi fun x => ?_
  rw [List.mem_filter, mem_rng, inR_ranges hi hp, decide_eq_true_eq]
  constructor
  · exact fun h => h.2
  · intro h
    have := hp x h; have := hg x h
    exact ⟨by omega, h⟩

/- F12 -/
theorem call_fnd0Br {c : Cx} {m : Mp} {ν : Lg} {f : Addr} {name qual : Str} {params : Arguments} {body : List Stmt} {scope : Scope} {dV kV doc pm cdv ct oc : Value} {an od : Option Addr} {osl : Array (Option Value)} {n : Nat} (ps ns gs : List Str) (m₀ : Mp) {ds : List D} {Q : D → Mp → Lg → Prop}
    (ho : c.K.lookup f = some ⟨oc, od, .func (fnOf name qual params body scope dV kV doc pm an cdv ct), osl⟩) (hcd : codeIn c.K cdv qual = true) (ha : AOk c.A (n + 1))
    (hbind : ∀ (s : Shared) (vs : List Value), c.K.In s.heap → vs.length = ps.length → BindsTo s (fnOf name qual params body scope dV kV doc pm an cdv ct) ⟨vs, []⟩ (ps.zip vs))
    (hchk : fnChk scope ps ns [] gs = true) (hn : ds.length = ps.length) (hm₀ : m₀ = ns.map fun x => (ps.zip ds).lookup x) (hcl : ∀ k, cellsFrom k scope.names [] = [])
    (h : ∀ A' L' env, AOk A' n → EnvOk (c.in A' L' ns) env → GN env gs → Ex (c.in A' L' ns) env body m₀ ν fun fl _ ν' => Back0 Q m fl ν') :
    CodeD c (.ref f) ds m ν Q := by
  have := call_fnd0B (νm := ν) (νr := []) (Q := Q) (m := m) ps ns gs m₀ ho hcd ha hbind hchk hn hm₀ hcl fun A' L' env hA E hg => (h A' L' env hA E hg).mono fun fl _ ν' ⟨νc, ν₂, p, q⟩ => ⟨νc, ν₂, p, by rw [List.append_nil]; exact q⟩
  rw [List.append_nil] at this; exact this
theorem atom_spec {c : Cx} (hK : Kx c) (ha : AOk c.A 2) {x : Str} {m : Mp} {ν : Lg} {Q : D → Mp → Lg → Prop} (q : Q (dAt x) m ν) : CodeD c (.ref 321) [.str x] m ν Q := by
  refine CodeD.frz (call_cls (cg_321 hK) ha fun A' dx hA' => ?_)
  refine call_fn0 (c := c.in A' c.L c.ns) (νm := [(dx, .attrs [] [])]) (νr := ν) ["self", "text"] ["self", "text"] [] [some (.obj 321 dx), some (.str x)] (by rw [show (c.in A' c.L c.ns).K = c.K from rfl, hK]; k_is) (by rw [show (c.in A' c.L c.ns).K = c.K from rfl, hK]; k_is) hA' (bind2 fun _ _ => rfl) (by decide +kernel) rfl rfl (fun _ => rfl) (fun A' L' env hA E hg => ?_)
  repeat tb_start
  exact ⟨rfl, _, _, _, _, rfl, .inst, q⟩
theorem view_spec {c : Cx} (hK : Kx c) (ha : AOk c.A 3) {bd bl : Addr} {s : BoxS} (hb : BoxOk s) {m : Mp} {ν : Lg} {Q : D → Mp → Lg → Prop} (hi : BoxIn ν bd bl s) (q : Q (dV bd s) m ν) : CodeD c (.ref 374) [dB bd, .bool false, .bool true, .bool true] m ν Q := by
  obtain ⟨hba, hbl⟩ := hi
  refine CodeD.frz (call_cls (cg_374 hK) ha fun A' dx hA' => ?_)
  refine call_fnd0Br (c := c.in A' c.L c.ns) ["self", "box", "is_readonly", "uses_modseq", "uses_vanished"] ["self", "box", "is_readonly", "uses_modseq", "uses_vanished"] ["dict"] [some (.obj 374 dx), some (dB bd), some (.bool false), some (.bool true), some (.bool true)] (by rw [show (c.in A' c.L c.ns).K = c.K from rfl, hK]; k_is) (by rw [show (c.in A' c.L c.ns).K = c.K from rfl, hK]; k_is) hA' (bindB (o := _) (by rw [show (c.in A' c.L c.ns).K = c.K from rfl, hK]; k_is) rfl rfl (bind5 fun _ _ _ _ _ => ⟨_, rfl, rfl⟩)) (by decide +kernel) rfl rfl (fun _ => rfl) (fun A' L' env hA E hg => ?_)
  have hlen := hb.len
  repeat tb_start
  refine (uids_spec (c := (c.in _ _ _).in A' L' _) hK (hA.le (by decide)) (bl := bl) (s := s) ⟨by tb_rel, by tb_rel⟩ hb ?_).call
  repeat tb_start
  refine ev_ListComp [] ["letter"] [] rfl look0 (by decide +kernel) ?_
  repeat tb_start
  refine cj_map [] ["letter"] [] [none] s.ls dL (fun l => .tup [.int l.uid, dFl l.flags]) E (by decide +kernel) .nil rfl nd0 rfl (iter_ptr hA.h) (by tb_rel) (by omega) (fun C env' l hl E' hg' hc' => ?_) ?_
  · repeat tb_start
    exact ⟨rfl, rfl, rfl⟩
  repeat tb_start
  refine call_dict_ints (prs := s.ls.map fun l => (l.uid, dFl l.flags)) hA.h (by rw [List.map_map]; exact hb.inc.imp fun h => by omega) (by rw [List.length_map]; omega) (by rw [show (s.ls.map fun l => (l.uid, dFl l.flags)).map (fun p => D.tup [D.int p.1, p.2]) = s.ls.map fun l => .tup [.int l.uid, dFl l.flags] from List.map_map]; exact .frozen) ?_
  rw [show (s.ls.map fun l => (l.uid, dFl l.flags)).map (·.1) = s.us from List.map_map, show (s.ls.map fun l => (l.uid, dFl l.flags)).map (·.2) = s.ls.map fun l => dFl l.flags from List.map_map]
  repeat tb_start
  refine ev_ListComp [] ["letter"] [] rfl look0 (by decide +kernel) ?_
  repeat tb_start
  refine cj_map [] ["letter"] [] [none] s.ls dL (fun l => .tup [.int l.uid, .int l.modseq]) E (by decide +kernel) .nil rfl nd0 rfl (iter_ptr hA.h) (by tb_rel) (by omega) (fun C env' l hl E' hg' hc' => ?_) ?_
  · repeat tb_start
    exact ⟨rfl, rfl, rfl⟩
  repeat tb_start
  refine call_dict_ints (prs := s.ls.map fun l => (l.uid, D.int l.modseq)) hA.h (by rw [List.map_map]; exact hb.inc.imp fun h => by omega) (by rw [List.length_map]; omega) (by rw [show (s.ls.map fun l => (l.uid, D.int l.modseq)).map (fun p => D.tup [D.int p.1, p.2]) = s.ls.map fun l => .tup [.int l.uid, D.int l.modseq] from List.map_map]; exact .frozen) ?_
  rw [show (s.ls.map fun l => (l.uid, D.int l.modseq)).map (·.1) = s.us from List.map_map, show (s.ls.map fun l => (l.uid, D.int l.modseq)).map (·.2) = s.ls.map fun l => D.int l.modseq from List.map_map]
  repeat tb_start
  exact ⟨[], _, .refl _, rfl, _, _, _, _, rfl, .inst, q⟩
theorem place_among_spec {c : Cx} (hK : Kx c) (ha : AOk c.A 1) {us : List Int} {uid : Int} {m : Mp} {ν : Lg} {Q : D → Mp → Lg → Prop} (hl : us.length ≤ 1000)
    (hs : us.Pairwise (· < ·)) (q : Q (.int (posOf us uid)) m ν) :
    CodeD c (.ref 385) [.lst (us.map .int), .int uid] m ν Q := by
  refine call_fnr ["uids", "uid"] ["uids", "uid", "low", "high", "middle"] ["len"] [some (.lst (us.map .int)), some (.int uid), none, none, none] (by rw [hK]; k_is) (by rw [hK]; k_is) ha (bind2 fun _ _ => rfl) (by decide +kernel) rfl rfl (fun _ => rfl) (fun A' L' env hA E hg => ?_)
  have getU : ∀ {i : Nat} (h : i < us.length), (us.map D.int)[Int.toNat (i : Int)]? = some (.int us[i]) := fun h => by simp [h]
  repeat tb_start
  refine call_len .frozen (by rw [List.length_map]; omega) ?_
  repeat tb_start
  rw [List.length_map]
  refine ex_While (fun p : Nat × Nat => [some (.lst (us.map .int)), some (.int uid), some (.int p.1), some (.int p.2), none]) (fun _ => ν) (Bs us uid) (fun p => p.2 - p.1) (0, us.length) ?_ (Sub.refl _) rfl ?_
  · exact ⟨Nat.zero_le _, Nat.le_refl _, fun i _ h => absurd h (Nat.not_lt_zero _), fun i h h' => absurd h (Nat.not_lt.mpr h')⟩
  · rintro ⟨lo, hi⟩ hB
    have hle := hB.le
    have hn := hB.n
    dsimp only at hle hn
    repeat tb_start
    refine ite_dec (fun h => ?_) (fun h => ?_)
    · repeat tb_start
      refine bin_floordiv (by decide) (by decide) ?_
      obtain ⟨mid, e, h1, h2, h3, z, b⟩ := hB.mid h hl
      rw [e]
      repeat tb_start
      refine su_list (fun _ _ => rfl) .frozen z b (getU h3) ?_
      repeat tb_start
      refine ite_dec (fun h4 => ?_) (fun h4 => ?_)
      · repeat tb_start
        exact ⟨(mid + 1, hi), Nat.sub_lt_sub_left (Nat.lt_of_le_of_lt h1 h2) (Nat.lt_succ_of_le h1), hB.right hs h1 h2 h3 h4, .same (.same (.same (.same (.drop .nil)))), rfl⟩
      · repeat tb_start
        exact ⟨(lo, mid), Nat.sub_lt_sub_right h1 h2, hB.left hs h1 h3 h4, .same (.same (.same (.same (.drop .nil)))), rfl⟩
    · have hlo : lo = hi := hB.end h
      subst hlo
      repeat tb_start
      refine call_len .frozen (by rw [List.length_map]; omega) ?_
      rw [List.length_map]
      repeat tb_start
      have key := hB.out hs
      refine ite_dec (fun h => ?_) (fun h => ?_)
      · have h3 : lo < us.length := by omega
        repeat tb_start
        refine su_list (fun _ _ => rfl) .frozen (by omega) (by omega) (getU h3) ?_
        repeat tb_start
        refine ite_dec (fun h4 => ?_) (fun h4 => ?_)
        · repeat tb_start
          rw [key, if_pos (by simp [h3, h4])] at q
          exact q
        · repeat tb_start
          rw [key, if_neg fun h => h4 (by simpa [h3] using h)] at q
          exact q
      · repeat tb_start
        rw [key, if_neg fun h' => h (Int.ofNat_lt.mpr (List.getElem?_eq_some_iff.mp h').1)] at q
        exact q
theorem number_of_spec {c : Cx} (hK : Kx c) (ha : AOk c.A 2) {bd : Addr} {s : BoxS} {uid : Int} (hb : BoxOk s) {m : Mp} {ν : Lg} {Q : D → Mp → Lg → Prop} (q : Q (.int (posOf s.us uid + 1)) m ν) : CodeD c (.ref 345) [dV bd s, .int uid] m ν Q := by
  refine call_fnr ["self", "uid"] ["self", "uid"] ["place_among"] [some (dV bd s), some (.int uid)] (by rw [hK]; k_is) (by rw [hK]; k_is) ha (bind2 fun _ _ => rfl) (by decide +kernel) rfl rfl (fun _ => rfl) (fun A' L' env hA E hg => ?_)
  repeat tb_start
  refine (place_among_spec (c := c.in A' L' _) hK hA (by rw [List.length_map]; exact hb.len) hb.inc ?_).call
  repeat tb_start
  exact q
theorem view_told_spec {c : Cx} (hK : Kx c) (ha : AOk c.A 1) {bd : Addr} {s : BoxS} (hb : BoxOk s) {m : Mp} {ν : Lg} {Q : D → Mp → Lg → Prop} (q : Q (.tup (s.ls.map fun l => .tup [.int l.uid, dFl l.flags, .int l.modseq])) m ν) : CodeD c (.ref 371) [dV bd s] m ν Q := by
  refine call_fn1r ["self"] [] "self" ["tuple"] [] (some (dV bd s)) (by rw [hK]; k_is) (by rw [hK]; k_is) ha (bind1 fun _ => rfl) (by decide +kernel) rfl rfl rfl (fun _ => rfl) (fun A' L' env ac hA E hg hc => ?_)
  have hlen := hb.len
  repeat tb_start
  refine ev_ListComp [("self", ac)] ["uid"] [] rfl hc.look (by decide +kernel) ?_
  repeat tb_start
  refine cj_map [("self", ac)] ["uid"] [] [none] s.ls (fun l => .int l.uid) (fun l => .tup [.int l.uid, dFl l.flags, .int l.modseq]) E (by decide +kernel) hc rfl nd1 rfl (by rw [show s.us.map D.int = s.ls.map fun l => .int l.uid by simp [Function.comp_def]]; exact iter_lst hA.h) trivial (by omega) (fun C env' l hl E' hg' hc' => ?_) ?_
  · obtain ⟨i, hi, rfl⟩ := List.getElem_of_mem hl
    repeat tb_start
    refine su_map (i := i) (fun _ _ => rfl) .frozen (by simp [hi]) (e := dFl s.ls[i].flags) (by simp [hi]) ?_
    repeat tb_start
    refine su_map (i := i) (fun _ _ => rfl) .frozen (by simp [hi]) (e := .int s.ls[i].modseq) (by simp [hi]) ?_
    repeat tb_start
    exact ⟨rfl, rfl, rfl⟩
  repeat tb_start
  refine call_tuple_lst .frozen (by rw [List.length_map]; omega) ?_
  repeat tb_start
  exact ⟨[_], _, .refl _, q⟩
/- F13 -/
abbrev pairsOf (l : Ltr) : D := .lst [.tup [.str "UID", .int l.uid], .tup [.str "FLAGS", .lst (l.flags.map dAt)], .tup [.str "MODSEQ", .lst [.int l.modseq]]]
theorem flag_pairs_spec {c : Cx} (hK : Kx c) (ha : AOk c.A 3) {bd : Addr} {s : BoxS} {l : Ltr} (hf : l.flags.length ≤ 100) {m : Mp} {ν : Lg} {Q : D → Mp → Lg → Prop} (q : Q (pairsOf l) m ν) : CodeD c (.ref 390) [dV bd s, dL l] m ν Q := by
  refine CodeD.frz ?_
  refine call_fnr ["view", "letter"] ["view", "letter", "pairs"] [] [some (dV bd s), some (dL l), none] (by rw [hK]; k_is) (by rw [hK]; k_is) ha (bind2 fun _ _ => rfl) (by decide +kernel) rfl rfl (fun _ => rfl) (fun A' L' env hA E hg => ?_)
  repeat tb_start
  refine ev_ListM ?_
  repeat tb_start
  refine ev_ListComp [] ["name"] ["Atom"] rfl look0 (by decide +kernel) ?_
  repeat tb_start
  refine cj_map [] ["name"] ["Atom"] [none] l.flags D.str dAt E (by decide +kernel) .nil rfl nd0 rfl (iter_tup hA.h) trivial (by omega) (fun C env' x hx E' hg' hc' => ?_) ?_
  · repeat tb_start
    refine (atom_spec (c := (c.in A' L' _).in A' C _) hK hA ?_).call
    exact ⟨rfl, rfl, rfl⟩
  repeat tb_start
  intro a
  repeat tb_start
  refine gm_insert (by tb_rel) ?_
  repeat tb_start
  refine call_insert0 (by tb_rel) (by simp) ?_
  repeat tb_start
  refine ev_List ?_
  repeat tb_start
  refine call_append (by tb_rel) (by simp) ?_
  repeat tb_start
  exact ⟨_, _, _, _, rfl, .lst, q⟩
abbrev fetchOf (s : BoxS) (l : Ltr) : D := .tup [.str "fetch", .int (posOf s.us l.uid + 1), pairsOf l]
abbrev vanAns : List Int → List D
  | [] => []
  | u :: V => [.tup [.str "vanished", .tup ((ranges (u :: V)).map dP), .bool true]]
abbrev ansOf (s : BoxS) (V : List Int) (t : Int) : List D := vanAns V ++ (chOf s t).map (fetchOf s)
theorem vanAll_len {s : BoxS} {t : Int} (kn : Option (List (Int × Int))) (mt : Option (List (Int × Int) × List (Int × Int))) (hb : BoxB s) : (vanAll s t kn mt).length ≤ 1000 := by
  have := vanOf_len (t := t) kn hb
  cases mt with
  | none => exact this
  | some p =>
    obtain ⟨R1, R2⟩ := p
    show (if t < s.floor then _ else _ : List Int).length ≤ _
    split
    · have := List.length_filter_le (fun u => decide (agreedOf s R1 R2 < u)) (vanOf s t kn); omega
    · exact this
theorem resync_answers_spec {c : Cx} (hK : Kx c) (ha : AOk c.A 7) {bd bl : Addr} {s : BoxS} {t : Int} {kn : Option (List (Int × Int))} {mt : Option (List (Int × Int) × List (Int × Int))} (hb : BoxB s) (hfl : ∀ l ∈ s.ls, l.flags.length ≤ 100) (hk : ∀ R, kn = some R → Gap R) (hm : MatchOk s mt)
    {m : Mp} {ν : Lg} {Q : D → Mp → Lg → Prop} (hi : BoxIn ν bd bl s) (q : Q (.lst (ansOf s (vanAll s t kn mt) t)) m ν) : CodeD c (.ref 395) [dV bd s, .tup [.int 9, .int t, dK kn, dM mt]] m ν Q := by
  refine call_fn1r ["view", "asked"] ["asked", "found", "vanished", "changed", "answers"] "view" ["resync", "len", "ranges_of"] [some (.tup [.int 9, .int t, dK kn, dM mt]), none, none, none, none] (some (dV bd s)) (by rw [hK]; k_is) (by rw [hK]; k_is) ha (bind2 fun _ _ => rfl) (by decide +kernel) rfl rfl rfl (fun _ => rfl) (fun A' L' env ac hA E hg hc => ?_)
  have hi' := hi.cons (p := (ac, MO.cell (some (dV bd s))))
  have vl := vanAll_len (t := t) kn mt hb
  have cl : (chOf s t).length ≤ 1000 := by have := List.length_filter_le (fun l : Ltr => decide (t < l.modseq)) s.ls; have := hb.len; show (List.filter _ _).length ≤ _; omega
  repeat tb_start
  refine (resync_spec (c := c.in A' L' _) hK hA hb hk hm hi' ?_).call
  generalize vanAll s t kn mt = V at q vl ⊢
  repeat tb_start
  refine ex_AssignPair ?_
  tb_start
  tb_start
  refine ex_cons ?_
  refine ex_Assign E ?_ rfl
  refine Run.cut (fun d m₁ ν₁ => d = .lst (vanAns V) ∧ m₁ = [some (.tup [.int 9, .int t, dK kn, dM mt]), some (.tup [.lst (V.map .int), .lst ((chOf s t).map dL)]), some (.lst (V.map .int)), some (.lst ((chOf s t).map dL)), none] ∧ ν₁ = (ac, MO.cell (some (dV bd s))) :: ν) ?_ ?_
  · repeat tb_start
    refine call_len .frozen (by rw [List.length_map]; omega) ?_
    rw [List.length_map]
    repeat tb_start
    refine ite_dec (fun h => ?_) (fun h => ?_)
    · repeat tb_start
      refine ev_List ?_
      repeat tb_start
      refine (ranges_of_spec (c := c.in A' L' _) hK (hA.le (by decide)) vl ?_).call
      repeat tb_start
      cases V with
      | nil => simp at h
      | cons u V => exact ⟨rfl, rfl, rfl⟩
    · repeat tb_start
      refine ev_List ?_
      repeat tb_start
      cases V with
      | nil => exact ⟨rfl, rfl, rfl⟩
      | cons u V => exact absurd (by simp) h
  rintro _ _ _ ⟨rfl, rfl, rfl⟩
  repeat tb_start
  refine ev_ListComp [("view", ac)] ["letter"] ["flag_pairs"] rfl hc.look (by decide +kernel) ?_
  repeat tb_start
  refine cj_map [("view", ac)] ["letter"] ["flag_pairs"] [none] (chOf s t) dL (fetchOf s) E (by decide +kernel) hc rfl nd1 rfl (iter_lst hA.h) trivial (by omega) (fun C env' l hl E' hg' hc' => ?_) ?_
  · repeat tb_start
    refine (number_of_spec (c := (c.in A' L' _).in A' C _) hK (hA.le (by decide)) hb.toBoxOk ?_).call
    repeat tb_start
    refine (flag_pairs_spec (c := (c.in A' L' _).in A' C _) hK (hA.le (by decide)) (hfl l (List.mem_filter.mp hl).1) ?_).call
    repeat tb_start
    exact ⟨rfl, rfl, rfl⟩
  have vn : (vanAns V).length ≤ 1 := by cases V <;> simp
  refine bin_add_lists .frozen .frozen (by rw [List.length_map]; omega) ?_
  repeat tb_start
  exact ⟨[_], _, .refl _, q⟩
/- F14 -/
theorem law_pen_spec {c : Cx} (hK : Kx c) (ha : AOk c.A 1) {xs : List Int} (hl : xs.length ≤ 1000) {m : Mp} {ν : Lg} {Q : D → Mp → Lg → Prop} (q : ∀ pa p, PenOk 0 p → Q (.raw (.ref pa)) m (penE pa p :: ν)) :
    CodeD c (.ref 400) [.lst (xs.map .int)] m ν Q := by
  refine call_fnr ["script"] ["script", "cell", "cells", "great", "state"] ["abs"] [some (.lst (xs.map .int)), none, none, none, none] (by rw [hK]; k_is) (by rw [hK]; k_is) ha (bind1 fun _ => rfl) (by decide +kernel) rfl rfl (fun _ => rfl) (fun A' L' env hA E hg => ?_)
  have hl48 : (xs.take 48).length ≤ 48 := by rw [List.length_take]; omega
  refine ex_cons ?_
  refine ex_AssignComp (x := "cells") E (by tb_rel) rfl (by decide +kernel) [] ["cell"] ["int"] rfl look0 (by decide +kernel) ?_
  refine ev_upto ?_
  repeat tb_start
  refine ⟨_, .frozen, by rw [List.length_map]; omega, ?_⟩
  rw [← List.map_take]
  refine cj_map [] ["cell"] ["int"] [none] (xs.take 48) D.int D.int E (by decide +kernel) .nil rfl nd0 rfl (iter_lst hA.h) trivial (by omega) (fun C env' x hx E' hg' hc' => ?_) ?_
  · repeat tb_start
    exact ⟨rfl, rfl, rfl⟩
  generalize xs.take 48 = cs at hl48
  refine set_ok (by tb_rel) ?_
  refine ex_cons ?_
  refine ex_Assign E ?_ rfl
  tb_start
  refine set_ok (by tb_rel) ?_
  refine ex_cons ?_
  refine Run.cut (fun f m₁ ν₁ => f = .next ∧ ν = ν₁ ∧ ∃ g : Int, 0 ≤ g ∧ m₁ = [some (.lst (xs.map .int)), none, some (.lst (cs.map .int)), some (.int g), none]) ?_ ?_
  · repeat tb_start
    refine tru_list .frozen (by rw [List.length_map]; omega) ?_
    cases cs with
    | nil =>
      refine ite_f ?_
      repeat tb_start
      exact ⟨rfl, rfl, 0, Int.le_refl _, rfl⟩
    | cons k r =>
      refine ite_t ?_
      repeat tb_start
      refine su_list (fun _ _ => rfl) .frozen (by decide) (by decide) (d := .int k) rfl ?_
      repeat tb_start
      refine bin_pow (by decide) (by decide) ?_
      repeat tb_start
      refine ite_dec (fun h => ?_) (fun h => ?_)
      · repeat tb_start
        refine su_list (fun _ _ => rfl) .frozen (by decide) (by decide) (d := .int k) rfl ?_
        repeat tb_start
        refine bin_floordiv (by decide) (by decide) ?_
        repeat tb_start
        refine bin_pow (by decide) (by decide) ?_
        repeat tb_start
        refine bin_mod (by decide) ?_
        repeat tb_start
        exact ⟨rfl, rfl, _, (fmod_range (by decide)).1, rfl⟩
      · repeat tb_start
        exact ⟨rfl, rfl, 0, Int.le_refl _, rfl⟩
  rintro _ _ _ ⟨rfl, rfl, g, hg0, rfl⟩
  repeat tb_start
  refine loop_of (fun st : Int => [some (.lst (xs.map .int)), none, some (.lst (cs.map .int)), some (.int g), some (.int st)]) (fun _ => ν) (fun _ _ => True) 1 (iter_lst hA.h) trivial (by tb_rel) rfl (fun _ _ _ => trivial) ?_ ?_
  · rintro i st d hd _
    rw [List.getElem?_map] at hd
    cases hf : cs[i]? with
    | none => rw [hf] at hd; cases hd
    | some k =>
    rw [hf] at hd
    simp only [Option.map_some, Option.some.injEq] at hd
    subst hd
    repeat tb_start
    refine bin_mul (.of_right (by decide)) ?_
    repeat tb_start
    refine bin_mod (by decide) ?_
    repeat tb_start
    refine bin_mod (by decide) ?_
    repeat tb_start
    exact ⟨_, trivial, by tb_rel, rfl⟩
  · rintro st _
    repeat tb_start
    refine ev_ListM ?_
    repeat tb_start
    intro pa
    repeat tb_start
    exact q pa ⟨cs, g, st, 0⟩ ⟨Int.le_refl _, Int.le_refl _, hg0, hl48⟩
/- F15 -/
inductive Ans where
  | van (V : List Int)
  | fet (l : Ltr)
abbrev dA (s : BoxS) : Ans → D
  | .van V => .tup [.str "vanished", .tup ((ranges V).map dP), .bool true]
  | .fet l => fetchOf s l
abbrev ansL (V : List Int) (ch : List Ltr) : List Ans := (if V = [] then [] else [.van V]) ++ ch.map .fet
theorem ansOf_eq (s : BoxS) (V : List Int) (t : Int) : ansOf s V t = (ansL V (chOf s t)).map (dA s) := by
  unfold ansOf ansL
  rw [List.map_append, List.map_map]
  congr 1
  cases V with
  | nil => rfl
  | cons u V => rfl
abbrev CL := List (Int × List Str)
abbrev ck (C : CL) : List Int := C.map (·.1)
abbrev cd (C : CL) : List D := C.map fun p => dFl p.2
abbrev rmC (C : CL) (u : Int) : CL := C.filter fun p => decide (p.1 ≠ u)
abbrev putC (C : CL) (q : Int × List Str) : CL := if q.1 ∈ ck C then C.map (fun p => if p.1 = q.1 then q else p) else C ++ [q]
abbrev apA (C : CL) : Ans → CL
  | .van V => V.foldl rmC C
  | .fet l => putC C (l.uid, l.flags)
theorem zip_ck (C : CL) : (ck C).zip (cd C) = C.map fun p => (p.1, dFl p.2) := by
  induction C with
  | nil => rfl
  | cons p C ih => simp only [List.map_cons, List.zip_cons_cons] at ih ⊢; rw [ih]
theorem rmK_C (C : CL) (u : Int) : rmK (ck C) (cd C) u = (ck (rmC C u), cd (rmC C u)) := by
  unfold rmK
  rw [zip_ck, List.filter_map, List.map_map, List.map_map]
  rfl
theorem rmC_none {C : CL} {u : Int} (h : u ∉ ck C) : rmC C u = C := by
  refine List.filter_eq_self.mpr fun p hp => ?_
  rw [decide_eq_true_eq]
  rintro rfl
  exact h (List.mem_map_of_mem hp)
theorem stK_C (C : CL) (q : Int × List Str) : storedK (ck C) (cd C) q.1 (dFl q.2) = (ck (putC C q), cd (putC C q)) := by
  unfold storedK putC
  by_cases h : q.1 ∈ ck C
  · rw [if_pos h, if_pos h, zip_ck, List.map_map]
    refine Prod.ext ?_ ?_
    · show C.map (fun p : Int × List Str => p.1) = (C.map _).map (fun p : Int × List Str => p.1)
      rw [List.map_map]
      refine List.map_congr_left fun p _ => ?_
      show p.1 = (if p.1 = q.1 then q else p).1
      split
      · assumption
      · rfl
    · show List.map _ C = (C.map _).map fun p : Int × List Str => dFl p.2
      rw [List.map_map]
      refine List.map_congr_left fun p _ => ?_
      show (if p.1 = q.1 then dFl q.2 else dFl p.2) = dFl (if p.1 = q.1 then q else p).2
      split <;> rfl
  · rw [if_neg h, if_neg h]; simp
theorem rmC_len (C : CL) (u : Int) : (rmC C u).length ≤ C.length := List.length_filter_le _ _
theorem putC_len (C : CL) (q : Int × List Str) : (putC C q).length ≤ C.length + 1 := by unfold putC; split <;> simp
theorem law_brought_spec {c : Cx} (hK : Kx c) (ha : AOk c.A 4) {bd bl : Addr} {s : BoxS} {C : CL} {A : List Ans} (hC : C.length ≤ 100) (hA' : A.length ≤ 100) (hb : BoxB s) (hv : ∀ V, .van V ∈ A → Inc V ∧ (∀ v ∈ V, 1 ≤ v ∧ v ≤ s.next) ∧ V.length < 64) (hfl : ∀ l, .fet l ∈ A → l.flags.length ≤ 100) {m : Mp} {ν : Lg} {Q : D → Mp → Lg → Prop} (hi : BoxIn ν bd bl s)
    (q : Q (.map (ck (A.foldl apA C)) (cd (A.foldl apA C))) m ν) :
    CodeD c (.ref 429) [.map (ck C) (cd C), .lst (A.map (dA s)), dB bd] m ν Q := by
  refine CodeD.frz ?_
  refine call_fnr ["copy", "answers", "box"] ["copy", "answers", "box", "found", "answer", "uid", "pairs"] ["dict", "numbers_in", "tuple"] [some (.map (ck C) (cd C)), some (.lst (A.map (dA s))), some (dB bd), none, none, none, none] (by rw [hK]; k_is) (by rw [hK]; k_is) ha (bind3 fun _ _ _ => rfl) (by decide +kernel) rfl rfl (fun _ => rfl) (fun A' L' env hA E hg => ?_)
  have n0 := hb.n0
  have n1 := hb.n1
  repeat tb_start
  refine call_dict_copy .frozen (by rw [List.length_map]; omega) fun fa hfm => ?_
  repeat tb_start
  refine loop_of (fun _ : CL => [some (.map (ck C) (cd C)), some (.lst (A.map (dA s))), some (dB bd), some (.raw (.ref fa)), none, none, none]) (fun B : CL => (fa, .map (ck B) (cd B)) :: ν) (fun i B => B = (A.take i).foldl apA C ∧ B.length ≤ 100 + i) C (iter_lst hA.h) ⟨rfl, by omega⟩ (by tb_rel) rfl (fun _ _ _ => trivial) ?_ ?_
  · rintro i B d hd ⟨hB, hBl⟩
    rw [List.getElem?_map] at hd
    cases hf : A[i]? with
    | none => rw [hf] at hd; cases hd
    | some a =>
    rw [hf] at hd
    simp only [Option.map_some, Option.some.injEq] at hd
    subst hd
    have hi' := hi.cons (p := (fa, MO.map (ck B) (cd B)))
    have htk : (A.take (i + 1)).foldl apA C = apA B a := by rw [List.take_succ, hf, Option.toList_some, List.foldl_append, ← hB]; rfl
    have hm := List.mem_of_getElem? hf
    have hi9 := (List.getElem?_eq_some_iff.mp hf).1
    cases a with
    | van V =>
      obtain ⟨hV, hV1, hV2⟩ := hv V hm
      have hR := rinv hV fun v h => (hV1 v h).1
      repeat tb_start
      refine ite_dec (fun _ => ?_) (fun h => absurd rfl h)
      repeat tb_start
      refine (numbers_in_spec (c := c.in A' L' _) hK hA hR.gap (by have := ranges_len V; omega) (by omega) n1 (fun p hp => (hV1 _ (ranges_hi hV (fun v h => (hV1 v h).1) hp)).2) ?_).call
      rw [ranges_back hV (fun v h => (hV1 v h).1) fun v h => (hV1 v h).2]
      refine loop_of (fun _ : CL => [some (.map (ck C) (cd C)), some (.lst (A.map (dA s))), some (dB bd), some (.raw (.ref fa)), some (dA s (.van V)), none, none]) (fun B : CL => (fa, .map (ck B) (cd B)) :: ν) (fun j B' => B' = (V.take j).foldl rmC B ∧ B'.length ≤ 100 + i) B (iter_lst hA.h) ⟨rfl, hBl⟩ (by tb_rel) rfl (fun _ _ _ => trivial) ?_ ?_
      · rintro j B' d hd ⟨hB', hBl'⟩
        rw [List.getElem?_map] at hd
        cases hf2 : V[j]? with
        | none => rw [hf2] at hd; cases hd
        | some u =>
        rw [hf2] at hd
        simp only [Option.map_some, Option.some.injEq] at hd
        subst hd
        repeat tb_start
        refine gm_pop (.live hfm (by tb_rel)) ?_
        repeat tb_start
        refine call_pop hfm (by rw [List.length_map]; omega) (fun h => by rw [rmK_C, rmC_none h]) .head fun e => ?_
        repeat tb_start
        refine ⟨rmC B' u, ⟨by rw [List.take_succ, hf2, Option.toList_some, List.foldl_append, ← hB']; rfl, by have := rmC_len B' u; omega⟩, by tb_rel, ?_⟩
        rw [rmK_C]
      · rintro B' ⟨hB', hBl'⟩
        rw [List.length_map, List.take_length] at hB'
        repeat tb_start
        refine ⟨B', ⟨by rw [htk, hB'], by omega⟩, by tb_rel, rfl⟩
    | fet l =>
      have hlf := hfl l hm
      repeat tb_start
      refine ite_dec (fun h => absurd h (by decide +kernel)) (fun _ => ?_)
      repeat tb_start
      refine call_dict_strs (prs := [("UID", .int l.uid), ("FLAGS", .lst (l.flags.map dAt)), ("MODSEQ", .lst [.int l.modseq])]) hA.h (by show (["UID", "FLAGS", "MODSEQ"] : List Str).Nodup; decide +kernel) (by show 3 ≤ 100000; decide) .frozen ?_
      simp only [List.map_cons, List.map_nil]
      repeat tb_start
      refine ev_ListComp [] ["atom"] [] rfl look0 (by decide +kernel) ?_
      repeat tb_start
      refine su_smap (fun _ _ => rfl) (by tb_rel) ?_
      refine cj_map [] ["atom"] [] [none] l.flags dAt D.str E (by decide +kernel) .nil rfl nd0 rfl (iter_lst hA.h) trivial (by omega) (fun C env' x hx E' hg' hc' => ?_) ?_
      · repeat tb_start
        exact ⟨rfl, rfl, rfl⟩
      repeat tb_start
      refine call_tuple_lst .frozen (by rw [List.length_map]; omega) ?_
      repeat tb_start
      refine su_smap (fun _ _ => rfl) (by tb_rel) ?_
      refine si_map (by rw [List.length_map]; omega) .head ?_
      repeat tb_start
      refine ⟨putC B (l.uid, l.flags), ⟨by rw [htk], by have := putC_len B (l.uid, l.flags); omega⟩, by tb_rel, ?_⟩
      have := stK_C B (l.uid, l.flags)
      dsimp only at this
      rw [this]
  · rintro B ⟨hB, hBl⟩
    rw [List.length_map, List.take_length] at hB
    subst hB
    repeat tb_start
    exact ⟨_, _, _, _, rfl, .map hfm, q⟩
/- F16 -/
abbrev isVan : Ans → Bool
  | .van _ => true
  | .fet _ => false
abbrev vanIn : Ans → List Int
  | .van V => V
  | .fet _ => []
abbrev goneA (A : List Ans) : List Int := (A.filter isVan).flatMap vanIn
theorem law_gone_spec {c : Cx} (hK : Kx c) (ha : AOk c.A 4) {bd bl : Addr} {s : BoxS} {A : List Ans} (hl : (goneA A).length ≤ 1000) (hb : BoxB s) (hv : ∀ V, .van V ∈ A → Inc V ∧ (∀ v ∈ V, 1 ≤ v ∧ v ≤ s.next) ∧ V.length < 64) {m : Mp} {ν : Lg} {Q : D → Mp → Lg → Prop} (hi : BoxIn ν bd bl s)
    (q : Q (.lst ((goneA A).map .int)) m ν) :
    CodeD c (.ref 434) [.lst (A.map (dA s)), dB bd] m ν Q := by
  refine call_fn1r ["answers", "box"] ["answers"] "box" [] [some (.lst (A.map (dA s)))] (some (dB bd)) (by rw [hK]; k_is) (by rw [hK]; k_is) ha (bind2 fun _ _ => rfl) (by decide +kernel) rfl rfl rfl (fun _ => rfl) (fun A' L' env ac hA E hg hc => ?_)
  have n0 := hb.n0
  have n1 := hb.n1
  have e : (A.filter isVan).flatMap (fun a => (vanIn a).map D.int) = (goneA A).map .int := by rw [List.map_flatMap]
  refine ex_cons (ex_Return ?_)
  refine ev_ListComp2 [("box", ac)] ["answer", "uid"] ["numbers_in"] [none, none] A (dA s) isVan (fun a => (vanIn a).map .int) id hA.h E (by decide +kernel) hc rfl nd1 rfl (by rw [e, List.length_map]; omega) ?_ (fun _ => rfl) (fun _ _ => rfl)
  repeat tb_start
  refine ⟨rfl, fun C env' Dd aa x hx E' hg' hc' => ?_, fun C env' Dd aa x y hx hy E' hg' hc' => ?_, ?_⟩
  · have hi' := (hi.cons (p := (ac, MO.cell (some (dB bd))))).cons (p := (Dd, MO.lst aa))
    cases x with
    | van V =>
      obtain ⟨hV, hV1, hV2⟩ := hv V hx
      have hR := rinv hV fun v h => (hV1 v h).1
      repeat tb_start
      refine turn_d (by rfl) (fun _ => ?_) (fun h => absurd rfl h)
      repeat tb_start
      refine (numbers_in_spec (c := (c.in A' L' _).in A' C _) hK hA hR.gap (by have := ranges_len V; omega) (by omega) n1 (fun p hp => (hV1 _ (ranges_hi hV (fun v h => (hV1 v h).1) hp)).2) ?_).call
      rw [ranges_back hV (fun v h => (hV1 v h).1) fun v h => (hV1 v h).2]
      exact ⟨rfl, by tb_rel, rfl⟩
    | fet l =>
      repeat tb_start
      refine turn_d (show decide (("fetch" : Str) = "vanished") = false by decide +kernel) (fun h => absurd h (by decide +kernel)) (fun _ => ?_)
      exact ⟨by tb_rel, rfl⟩
  · repeat tb_start
    exact ⟨rfl, by tb_rel, rfl⟩
  · rw [e, List.map_id]
    exact ⟨[_], _, .refl _, q⟩
/- P2 -/
/-! ## the box, deed by deed -/
structure Inv (k : Nat) (s : BoxS) : Prop where
  inc : Inc s.us
  pos : ∀ u ∈ s.us, 1 ≤ u ∧ u < s.next
  gnd : (s.gone.map (·.1)).Nodup
  gn : ∀ p ∈ s.gone, p.1 ∉ s.us ∧ 1 ≤ p.1 ∧ p.1 < s.next ∧ p.2 ≤ s.top
  mt : ∀ l ∈ s.ls, l.modseq ≤ s.top
  n0 : 1 ≤ s.next
  n1 : s.next ≤ 1 + k
  cnt : s.ls.length + s.gone.length ≤ k
  fl : ∀ l ∈ s.ls, okFl l.flags
  tp : 1 ≤ s.top
theorem Inv.le {k j : Nat} {s : BoxS} (i : Inv k s) (h : k ≤ j) : Inv j s := { i with n1 := by have := i.n1; omega, cnt := by have := i.cnt; omega }
theorem Inv.first : Inv 0 ⟨1, 1, 0, [], []⟩ := ⟨List.Pairwise.nil, fun u h => absurd h List.not_mem_nil, List.nodup_nil, fun p h => absurd h List.not_mem_nil, fun p h => absurd h List.not_mem_nil, by decide, by decide, by decide, fun p h => absurd h List.not_mem_nil, by decide⟩
theorem Inv.boxB {k : Nat} {s : BoxS} (i : Inv k s) (h : k ≤ 60) : BoxB s := { len := by have := i.cnt; omega, inc := i.inc, gl := by have := i.cnt; omega, n0 := i.n0, n1 := by have := i.n1; omega }
theorem set_us {ls : List Ltr} {i : Nat} {l l' : Ltr} (h : ls[i]? = some l) (e : l'.uid = l.uid) : (ls.set i l').map (·.uid) = ls.map (·.uid) := by
  rw [List.map_set, e]
  refine List.ext_getElem? fun j => ?_
  rw [List.getElem?_set]
  split
  · rename_i q
    subst q
    rw [List.getElem?_map, h]
    have := (List.getElem?_eq_some_iff.mp h).1
    simp [this]
  · rfl
theorem mem_set' {ls : List Ltr} {i : Nat} {x l' : Ltr} (h : x ∈ ls.set i l') : x = l' ∨ x ∈ ls := by
  rcases List.mem_or_eq_of_mem_set h with h | h
  · exact .inr h
  · exact .inl h
theorem Deed.floor {s s' : BoxS} (d : Deed s s') : s'.floor = s.floor := by cases d <;> rfl
theorem Deed.inv {k : Nat} {s s' : BoxS} (d : Deed s s') (i : Inv k s) : Inv (k + 1) s' := by
  cases d with
  | same => exact i.le (by omega)
  | @add fs t hf =>
    have us' : (s.add fs t).us = s.us ++ [s.next] := by show (s.ls ++ [_]).map _ = _; rw [List.map_append]; rfl
    refine ⟨?_, fun u hu => ?_, i.gnd, fun p hp => ?_, fun l hl => ?_, by have := i.n0; show 1 ≤ s.next + 1; omega, by have := i.n1; show s.next + 1 ≤ _; omega, ?_, fun l hl => ?_, by have := i.tp; show 1 ≤ s.top + 1; omega⟩
    · rw [us', Inc, List.pairwise_append]
      exact ⟨i.inc, List.pairwise_singleton _ _, fun a ha b hb => by rw [List.mem_singleton] at hb; subst hb; exact (i.pos a ha).2⟩
    · rw [us'] at hu
      show 1 ≤ u ∧ u < s.next + 1
      rcases List.mem_append.mp hu with hu | hu
      · have := i.pos u hu; omega
      · rw [List.mem_singleton] at hu; subst hu; have := i.n0; omega
    · obtain ⟨a, b, c, e⟩ := i.gn p hp
      refine ⟨?_, b, by show p.1 < s.next + 1; omega, by show p.2 ≤ s.top + 1; omega⟩
      rw [us']
      intro q
      rcases List.mem_append.mp q with q | q
      · exact a q
      · rw [List.mem_singleton] at q; omega
    · rcases List.mem_append.mp hl with hl | hl
      · have := i.mt l hl; show l.modseq ≤ s.top + 1; omega
      · rw [List.mem_singleton] at hl; subst hl; exact Int.le_refl _
    · have := i.cnt; show (s.ls ++ [_]).length + s.gone.length ≤ k + 1; simp; omega
    · rcases List.mem_append.mp hl with hl | hl
      · exact i.fl l hl
      · rw [List.mem_singleton] at hl; subst hl; exact hf
  | @setf fs j l hf hl =>
    have us' := set_us (l' := ⟨l.uid, fs, s.top + 1, l.tk⟩) hl rfl
    refine ⟨by rw [Inc, show BoxS.us _ = s.us from us']; exact i.inc, fun u hu => ?_, i.gnd, fun p hp => ?_, fun x hx => ?_, i.n0, by have := i.n1; show s.next ≤ _; omega, ?_, fun x hx => ?_, by have := i.tp; show 1 ≤ s.top + 1; omega⟩
    · rw [show BoxS.us _ = s.us from us'] at hu; exact i.pos u hu
    · obtain ⟨a, b, c, e⟩ := i.gn p hp
      exact ⟨by rw [show BoxS.us _ = s.us from us']; exact a, b, c, by show p.2 ≤ s.top + 1; omega⟩
    · rcases mem_set' hx with rfl | hx
      · exact Int.le_refl _
      · have := i.mt x hx; show x.modseq ≤ s.top + 1; omega
    · have := i.cnt; show (s.ls.set j _).length + s.gone.length ≤ k + 1; rw [List.length_set]; omega
    · rcases mem_set' hx with rfl | hx
      · exact hf
      · exact i.fl x hx
  | @exp p =>
    have us' : (s.ls.filter (fun l => !p l.uid)).map (·.uid) = s.us.filter fun u => !p u := by rw [List.filter_map]; rfl
    refine ⟨?_, fun u hu => ?_, ?_, fun q hq => ?_, fun l hl => ?_, i.n0, by have := i.n1; show s.next ≤ _; omega, ?_, fun l hl => i.fl l (List.mem_filter.mp hl).1, by have := i.tp; show 1 ≤ s.top + 1; omega⟩
    · rw [Inc, show BoxS.us _ = _ from us']; exact i.inc.filter _
    · rw [show BoxS.us _ = _ from us', List.mem_filter] at hu; exact i.pos u hu.1
    · show ((s.gone ++ (s.us.filter p).map fun u => (u, s.top + 1)).map (·.1)).Nodup
      rw [List.map_append, List.map_map]
      rw [List.nodup_append]
      refine ⟨i.gnd, ?_, fun a ha b hb => ?_⟩
      · have : ((s.us.filter p).map ((fun x : Int × Int => x.1) ∘ fun u => (u, s.top + 1))) = s.us.filter p := by
          conv => rhs; rw [← List.map_id (s.us.filter p)]
          rfl
        rw [this]
        exact Inc.nodup (i.inc.filter p)
      · obtain ⟨x, hx, rfl⟩ := List.mem_map.mp ha
        obtain ⟨y, hy, rfl⟩ := List.mem_map.mp hb
        intro q
        exact (i.gn x hx).1 (by rw [show x.1 = y from q]; exact (List.mem_filter.mp hy).1)
    · rw [show BoxS.us _ = _ from us']
      rcases List.mem_append.mp hq with hq | hq
      · obtain ⟨a, b, c, e⟩ := i.gn q hq
        exact ⟨fun h => a (List.mem_filter.mp h).1, b, c, by show q.2 ≤ s.top + 1; omega⟩
      · obtain ⟨u, hu, rfl⟩ := List.mem_map.mp hq
        obtain ⟨h1, h2⟩ := List.mem_filter.mp hu
        have := i.pos u h1
        refine ⟨fun h => ?_, this.1, this.2, Int.le_refl _⟩
        have := (List.mem_filter.mp h).2
        rw [h2] at this; exact nomatch this
    · have := i.mt l (List.mem_filter.mp hl).1; show l.modseq ≤ s.top + 1; omega
    · have := i.cnt
      show (s.ls.filter (fun l => !p l.uid)).length + (s.gone ++ (s.us.filter p).map fun u => (u, s.top + 1)).length ≤ k + 1
      rw [List.length_append, List.length_map, List.filter_map, List.length_map]
      have h := List.length_eq_countP_add_countP (fun l : Ltr => p l.uid) (l := s.ls)
      rw [List.countP_eq_length_filter, List.countP_eq_length_filter] at h
      have e : (s.ls.filter fun l => !p l.uid) = s.ls.filter (fun a => decide ¬(p a.uid = true)) := List.filter_congr fun x _ => by cases p x.uid <;> rfl
      have e2 : (s.ls.filter (p ∘ fun x => x.uid)) = s.ls.filter fun l => p l.uid := rfl
      rw [e, e2]
      omega

/-- what a client knew, and the box since -/
structure Since (t : Int) (C : CL) (s : BoxS) : Prop where
  tle : t ≤ s.top
  tp : 1 ≤ t
  inc : Inc (ck C)
  pos : ∀ u ∈ ck C, 1 ≤ u
  same : ∀ l ∈ s.ls, l.modseq ≤ t → (l.uid, l.flags) ∈ C
  kept : s.floor ≤ t → ∀ u ∈ ck C, u ∈ s.us ∨ ∃ p ∈ s.gone, p.1 = u ∧ t < p.2
  nx : ∃ n, n ≤ s.next ∧ (∀ u ∈ ck C, u < n) ∧ ∀ u ∈ s.us, u < n → u ∈ ck C
abbrev cpOf (s : BoxS) : CL := s.ls.map fun l => (l.uid, l.flags)
theorem ck_cpOf (s : BoxS) : ck (cpOf s) = s.us := by unfold ck cpOf; rw [List.map_map]; rfl
theorem cd_cpOf (s : BoxS) : cd (cpOf s) = s.ls.map fun l => dFl l.flags := by unfold cd cpOf; rw [List.map_map]; rfl
theorem Since.now {k : Nat} {s : BoxS} (i : Inv k s) : Since s.top (cpOf s) s where
  tle := Int.le_refl _
  tp := i.tp
  inc := by rw [ck_cpOf]; exact i.inc
  pos := by rw [ck_cpOf]; exact fun u hu => (i.pos u hu).1
  same := fun l hl _ => List.mem_map_of_mem hl
  kept := fun _ u hu => .inl (by rw [ck_cpOf] at hu; exact hu)
  nx := ⟨s.next, Int.le_refl _, by rw [ck_cpOf]; exact fun u hu => (i.pos u hu).2, by rw [ck_cpOf]; exact fun u hu _ => hu⟩
theorem Since.deed {t : Int} {C : CL} {k : Nat} {s s' : BoxS} (S : Since t C s) (i : Inv k s) (d : Deed s s') : Since t C s' := by
  obtain ⟨n, n1, n2, n3⟩ := S.nx
  cases d with
  | same => exact S
  | @add fs tk hf =>
    have us' : (s.add fs tk).us = s.us ++ [s.next] := by show (s.ls ++ [_]).map _ = _; rw [List.map_append]; rfl
    refine ⟨by have := S.tle; show t ≤ s.top + 1; omega, S.tp, S.inc, S.pos, fun l hl h => ?_, fun hfl u hu => ?_, n, by show n ≤ s.next + 1; omega, n2, fun u hu h => ?_⟩
    · rcases List.mem_append.mp hl with hl | hl
      · exact S.same l hl h
      · rw [List.mem_singleton] at hl; subst hl
        have := S.tle; simp only at h; omega
    · rcases S.kept hfl u hu with h | h
      · exact .inl (by rw [us']; exact List.mem_append_left _ h)
      · exact .inr h
    · rw [us'] at hu
      rcases List.mem_append.mp hu with hu | hu
      · exact n3 u hu h
      · rw [List.mem_singleton] at hu; omega
  | @setf fs j l hf hl =>
    have us' := set_us (l' := ⟨l.uid, fs, s.top + 1, l.tk⟩) hl rfl
    refine ⟨by have := S.tle; show t ≤ s.top + 1; omega, S.tp, S.inc, S.pos, fun x hx h => ?_, fun hfl u hu => ?_, n, n1, n2, fun u hu h => ?_⟩
    · rcases mem_set' hx with rfl | hx
      · have := S.tle; simp only at h; omega
      · exact S.same x hx h
    · rw [show BoxS.us _ = s.us from us']; exact S.kept hfl u hu
    · rw [show BoxS.us _ = s.us from us'] at hu; exact n3 u hu h
  | @exp p =>
    have us' : (s.ls.filter (fun l => !p l.uid)).map (·.uid) = s.us.filter fun u => !p u := by rw [List.filter_map]; rfl
    refine ⟨by have := S.tle; show t ≤ s.top + 1; omega, S.tp, S.inc, S.pos, fun x hx h => S.same x (List.mem_filter.mp hx).1 h, fun hfl u hu => ?_, n, n1, n2, fun u hu h => ?_⟩
    · rw [show BoxS.us _ = _ from us']
      rcases S.kept hfl u hu with h | ⟨q, hq, e, h⟩
      · cases hp : p u with
        | true => exact .inr ⟨(u, s.top + 1), List.mem_append_right _ (List.mem_map.mpr ⟨u, List.mem_filter.mpr ⟨h, hp⟩, rfl⟩), rfl, by have := S.tle; show t < s.top + 1; omega⟩
        | false => exact .inl (List.mem_filter.mpr ⟨h, by rw [hp]; rfl⟩)
      · exact .inr ⟨q, List.mem_append_left _ hq, e, h⟩
    · rw [show BoxS.us _ = _ from us'] at hu
      exact n3 u (List.mem_filter.mp hu).1 h
theorem Inv.forget {k : Nat} {s : BoxS} (i : Inv k s) (t : Int) : Inv k (s.forget t) where
  inc := i.inc
  pos := i.pos
  gnd := (List.filter_sublist.map _).nodup i.gnd
  gn := fun p hp => i.gn p (List.mem_filter.mp hp).1
  mt := i.mt
  n0 := i.n0
  n1 := i.n1
  cnt := by have := i.cnt; have := List.length_filter_le (fun p : Int × Int => decide (min t s.top < p.2)) s.gone; show s.ls.length + (s.gone.filter _).length ≤ k; omega
  fl := i.fl
  tp := i.tp
theorem Since.forget {t : Int} {C : CL} {s : BoxS} (S : Since t C s) (hf : s.floor = 0) (b : Int) : Since t C (s.forget b) where
  tle := S.tle
  tp := S.tp
  inc := S.inc
  pos := S.pos
  same := S.same
  kept := fun h u hu => by
    have tp := S.tp
    rcases S.kept (by omega) u hu with h1 | ⟨p, hp, e, h2⟩
    · exact .inl h1
    · exact .inr ⟨p, List.mem_filter.mpr ⟨hp, by have h : min b s.top ≤ t := h; rw [decide_eq_true_eq]; omega⟩, e, h2⟩
  nx := S.nx

/- P3 -/
/-! ## what is told -/
structure VOk (s : BoxS) (C : CL) (V : List Int) : Prop where
  inc : Inc V
  mem : ∀ v ∈ V, 1 ≤ v ∧ v < s.next ∧ v ∉ s.us
  all : ∀ u ∈ ck C, u ∉ s.us → u ∈ V
theorem inc_of_le {l : List Int} (h : l.Pairwise (· ≤ ·)) (n : l.Nodup) : Inc l := by
  induction l with
  | nil => exact List.Pairwise.nil
  | cons a l ih =>
    obtain ⟨h1, h2⟩ := List.pairwise_cons.mp h
    obtain ⟨n1, n2⟩ := List.nodup_cons.mp n
    refine List.pairwise_cons.mpr ⟨fun b hb => ?_, ih h2 n2⟩
    have := h1 b hb
    have : a ≠ b := fun q => n1 (q ▸ hb)
    omega
theorem found_ok {k : Nat} {s : BoxS} {t : Int} {C : CL} (i : Inv k s) (S : Since t C s) : VOk s C (foundOf s t) := by
  unfold foundOf
  by_cases hf : t < s.floor
  · rw [if_pos hf]
    refine ⟨(rng_inc _ _).filter _, fun v hv => ?_, fun u hu hn => ?_⟩
    · rw [List.mem_filter, mem_rng] at hv
      exact ⟨hv.1.1, hv.1.2, by simpa using hv.2⟩
    · obtain ⟨n, n1, n2, n3⟩ := S.nx
      rw [List.mem_filter, mem_rng]
      have := S.pos u hu
      have := n2 u hu
      exact ⟨by omega, by simpa using hn⟩
  · rw [if_neg hf]
    have hsub : ((s.gone.filter fun p => decide (t < p.2)).map (·.1)).Sublist (s.gone.map (·.1)) := List.filter_sublist.map _
    have hperm := List.mergeSort_perm ((s.gone.filter fun p => decide (t < p.2)).map (·.1)) (fun a b : Int => decide (a ≤ b))
    have hp := List.pairwise_mergeSort (le := fun a b : Int => decide (a ≤ b)) (fun a b c h1 h2 => by simp at h1 h2 ⊢; omega) (fun a b => by simp; omega) ((s.gone.filter fun p => decide (t < p.2)).map (·.1))
    refine ⟨inc_of_le (hp.imp fun h => by simpa using h) (hperm.nodup_iff.mpr (hsub.nodup i.gnd)), fun v hv => ?_, fun u hu hn => ?_⟩
    · have hv' := hsub.subset (hperm.mem_iff.mp hv)
      obtain ⟨p, hp, rfl⟩ := List.mem_map.mp hv'
      obtain ⟨a, b, c, _⟩ := i.gn p hp
      exact ⟨b, c, a⟩
    · rcases S.kept (by omega) u hu with h | ⟨p, hp, e, h⟩
      · exact absurd h hn
      · refine hperm.mem_iff.mpr (List.mem_map.mpr ⟨p, List.mem_filter.mpr ⟨hp, by rw [decide_eq_true_eq]; exact h⟩, e⟩)
theorem VOk.len {k : Nat} {s : BoxS} {C : CL} {V : List Int} (i : Inv k s) (o : VOk s C V) : V.length ≤ k := by
  have h := inc_len o.inc (rng_inc 1 s.next) fun x hx => by rw [mem_rng]; have := o.mem x hx; omega
  rw [rng_length] at h
  have := i.n1
  omega
theorem Since.len {k : Nat} {s : BoxS} {t : Int} {C : CL} (i : Inv k s) (S : Since t C s) : C.length ≤ k ∧ ((C.length : Nat) : Int) ≤ s.next - 1 := by
  obtain ⟨n, n1, n2, n3⟩ := S.nx
  have h := inc_len S.inc (rng_inc 1 s.next) fun x hx => by rw [mem_rng]; have := S.pos x hx; have := n2 x hx; omega
  rw [rng_length, List.length_map] at h
  have := i.n1
  have := i.n0
  omega

/-! ## the copy brought up to date -/
theorem rm_all : ∀ (V : List Int) (C : CL), V.foldl rmC C = C.filter fun p => decide (p.1 ∉ V)
  | [], C => by rw [List.foldl_nil]; exact (List.filter_eq_self.mpr fun p _ => by simp).symm
  | u :: V, C => by
    rw [List.foldl_cons, rm_all V, rmC, List.filter_filter]
    refine List.filter_congr fun p _ => ?_
    rw [Bool.eq_iff_iff]
    simp only [Bool.and_eq_true, decide_eq_true_eq, List.mem_cons, not_or]
    exact And.comm
theorem ck_put (C : CL) (q : Int × List Str) : ck (putC C q) = if q.1 ∈ ck C then ck C else ck C ++ [q.1] := by
  unfold putC
  split
  · show (C.map _).map (fun p : Int × List Str => p.1) = C.map (fun p : Int × List Str => p.1)
    rw [List.map_map]
    refine List.map_congr_left fun p _ => ?_
    show (if p.1 = q.1 then q else p).1 = p.1
    split
    · rename_i h; exact h.symm
    · rfl
  · simp
theorem mem_put {C : CL} {q p : Int × List Str} (h : p ∈ putC C q) : p = q ∨ (p ∈ C ∧ p.1 ≠ q.1) := by
  unfold putC at h
  split at h
  · obtain ⟨x, hx, rfl⟩ := List.mem_map.mp h
    split
    · exact .inl rfl
    · rename_i h1; exact .inr ⟨hx, h1⟩
  · rename_i h1
    rcases List.mem_append.mp h with h | h
    · exact .inr ⟨h, fun e => h1 (e ▸ List.mem_map_of_mem h)⟩
    · exact .inl (List.mem_singleton.mp h)
theorem ck_puts : ∀ (W C : CL), (ck W).Nodup → ck (W.foldl putC C) = ck C ++ (ck W).filter fun u => decide (u ∉ ck C)
  | [], C, _ => by simp
  | q :: W, C, hn => by
    obtain ⟨n1, n2⟩ := List.nodup_cons.mp (show (q.1 :: ck W).Nodup from hn)
    rw [List.foldl_cons, ck_puts W _ n2, ck_put]
    show _ = ck C ++ (q.1 :: ck W).filter _
    by_cases h : q.1 ∈ ck C
    · rw [if_pos h, List.filter_cons, if_neg (by simp only [decide_eq_true_eq]; exact fun a => a h)]
    · rw [if_neg h, List.filter_cons, if_pos (by simp only [decide_eq_true_eq]; exact h), List.append_assoc]
      congr 1
      show q.1 :: _ = _
      congr 1
      refine List.filter_congr fun u hu => ?_
      have : u ≠ q.1 := fun e => n1 (e ▸ hu)
      simp [this]
theorem mem_puts : ∀ (W : CL) {C : CL} {p : Int × List Str}, p ∈ W.foldl putC C → p ∈ W ∨ (p ∈ C ∧ p.1 ∉ ck W)
  | [], C, p, h => .inr ⟨h, by simp⟩
  | q :: W, C, p, h => by
    rw [List.foldl_cons] at h
    rcases mem_puts W h with h | ⟨h, hn⟩
    · exact .inl (List.mem_cons_of_mem _ h)
    · rcases mem_put h with rfl | ⟨h, h2⟩
      · exact .inl List.mem_cons_self
      · refine .inr ⟨h, ?_⟩
        show p.1 ∉ q.1 :: ck W
        rw [List.mem_cons, not_or]; exact ⟨h2, hn⟩
theorem pl_eq : ∀ {A B : CL}, ck A = ck B → (ck B).Nodup → (∀ p ∈ A, p ∈ B) → A = B
  | [], [], _, _, _ => rfl
  | [], _ :: _, h, _, _ => nomatch h
  | _ :: _, [], h, _, _ => nomatch h
  | a :: A, b :: B, h, hn, hm => by
    obtain ⟨e, h'⟩ := List.cons.inj (show a.1 :: ck A = b.1 :: ck B from h)
    obtain ⟨n1, n2⟩ := List.nodup_cons.mp (show (b.1 :: ck B).Nodup from hn)
    have eab : a = b := by
      rcases List.mem_cons.mp (hm a List.mem_cons_self) with q | q
      · exact q
      · exact absurd (e ▸ List.mem_map_of_mem q) n1
    subst eab
    congr 1
    refine pl_eq h' n2 fun p hp => ?_
    rcases List.mem_cons.mp (hm p (List.mem_cons_of_mem _ hp)) with q | q
    · subst q; exact absurd (h' ▸ List.mem_map_of_mem hp) n1
    · exact q
theorem key_uniq {C : CL} (hn : (ck C).Nodup) {p q : Int × List Str} (hp : p ∈ C) (hq : q ∈ C) (e : p.1 = q.1) : p = q := by
  induction C with
  | nil => exact absurd hp List.not_mem_nil
  | cons a C ih =>
    obtain ⟨n1, n2⟩ := List.nodup_cons.mp (show (a.1 :: ck C).Nodup from hn)
    rcases List.mem_cons.mp hp with e1 | hp'
    · rcases List.mem_cons.mp hq with e2 | hq'
      · rw [e1, e2]
      · exact absurd (List.mem_map.mpr ⟨q, hq', by rw [← e, e1]⟩) n1
    · rcases List.mem_cons.mp hq with e2 | hq'
      · exact absurd (List.mem_map.mpr ⟨p, hp', by rw [e, e2]⟩) n1
      · exact ih n2 hp' hq'
theorem brought_eq {k : Nat} {s : BoxS} {t : Int} {C : CL} {V : List Int} (i : Inv k s) (S : Since t C s) (o : VOk s C V) : (ansL V (chOf s t)).foldl apA C = cpOf s := by
  have e1 : (ansL V (chOf s t)).foldl apA C = ((chOf s t).map fun l => (l.uid, l.flags)).foldl putC (V.foldl rmC C) := by
    unfold ansL
    rw [List.foldl_append, List.foldl_map, List.foldl_map]
    congr 1
    split
    · rename_i h; subst h; rfl
    · rfl
  rw [e1, rm_all]
  obtain ⟨n, n1, n2, n3⟩ := S.nx
  generalize hW : ((chOf s t).map fun l => (l.uid, l.flags)) = W
  generalize hC' : (C.filter fun p => decide (p.1 ∉ V)) = C'
  have memW : ∀ p, p ∈ W ↔ ∃ l ∈ s.ls, t < l.modseq ∧ p = (l.uid, l.flags) := fun p => by
    rw [← hW, List.mem_map]
    constructor
    · rintro ⟨l, hl, rfl⟩
      rw [List.mem_filter, decide_eq_true_eq] at hl
      exact ⟨l, hl.1, hl.2, rfl⟩
    · rintro ⟨l, h1, h2, rfl⟩
      exact ⟨l, List.mem_filter.mpr ⟨h1, by rw [decide_eq_true_eq]; exact h2⟩, rfl⟩
  have kW : Inc (ck W) := by
    rw [← hW]
    show ((chOf s t).map fun l : Ltr => (l.uid, l.flags)).map (fun p : Int × List Str => p.1) |>.Pairwise (· < ·)
    rw [List.map_map]
    exact i.inc.sublist (List.filter_sublist.map _)
  have kC : ck C' = s.us.filter fun u => decide (u < n) := by
    refine inc_ext ?_ (i.inc.filter _) fun x => ?_
    · rw [← hC']; exact S.inc.sublist (List.filter_sublist.map _)
    · rw [List.mem_filter, decide_eq_true_eq, ← hC']
      constructor
      · intro h
        obtain ⟨p, hp, rfl⟩ := List.mem_map.mp h
        obtain ⟨h1, h2⟩ := List.mem_filter.mp hp
        rw [decide_eq_true_eq] at h2
        have h3 : p.1 ∈ ck C := List.mem_map_of_mem h1
        refine ⟨?_, n2 _ h3⟩
        by_cases h4 : p.1 ∈ s.us
        · exact h4
        · exact absurd (o.all _ h3 h4) h2
      · rintro ⟨h1, h2⟩
        obtain ⟨p, hp, rfl⟩ := List.mem_map.mp (n3 x h1 h2)
        exact List.mem_map.mpr ⟨p, List.mem_filter.mpr ⟨hp, by rw [decide_eq_true_eq]; exact fun h => (o.mem _ h).2.2 h1⟩, rfl⟩
  have key : ck (W.foldl putC C') = s.us := by
    rw [ck_puts W C' (Inc.nodup kW)]
    have e2 : ((ck W).filter fun u => decide (u ∉ ck C')) = s.us.filter fun u => decide (n ≤ u) := by
      refine inc_ext (kW.filter _) (i.inc.filter _) fun x => ?_
      rw [List.mem_filter, List.mem_filter, decide_eq_true_eq, decide_eq_true_eq, kC, List.mem_filter, decide_eq_true_eq]
      constructor
      · rintro ⟨h1, h2⟩
        obtain ⟨p, hp, rfl⟩ := List.mem_map.mp h1
        obtain ⟨l, hl, hm, rfl⟩ := (memW p).mp hp
        have hu : l.uid ∈ s.us := List.mem_map_of_mem hl
        refine ⟨hu, ?_⟩
        by_cases h3 : l.uid < n
        · exact absurd ⟨hu, h3⟩ h2
        · exact Int.not_lt.mp h3
      · rintro ⟨h1, h2⟩
        obtain ⟨l, hl, rfl⟩ := List.mem_map.mp h1
        refine ⟨List.mem_map.mpr ⟨(l.uid, l.flags), (memW _).mpr ⟨l, hl, ?_, rfl⟩, rfl⟩, fun h => by omega⟩
        by_cases h3 : l.modseq ≤ t
        · have := n2 _ (List.mem_map_of_mem (f := (·.1)) (S.same l hl h3)); simp only at this; omega
        · omega
    rw [e2, kC]
    refine inc_ext ?_ i.inc fun x => ?_
    · rw [Inc, List.pairwise_append]
      refine ⟨i.inc.filter _, i.inc.filter _, fun a ha b hb => ?_⟩
      rw [List.mem_filter, decide_eq_true_eq] at ha hb
      omega
    · rw [List.mem_append, List.mem_filter, List.mem_filter, decide_eq_true_eq, decide_eq_true_eq]
      constructor
      · rintro (h | h) <;> exact h.1
      · intro h
        by_cases h2 : x < n
        · exact .inl ⟨h, h2⟩
        · exact .inr ⟨h, by omega⟩
  refine pl_eq (by rw [key, ck_cpOf]) (by rw [ck_cpOf]; exact Inc.nodup i.inc) fun p hp => ?_
  rcases mem_puts W hp with h | ⟨h, hn⟩
  · obtain ⟨l, hl, _, rfl⟩ := (memW p).mp h
    exact List.mem_map_of_mem (f := fun l : Ltr => (l.uid, l.flags)) hl
  · have h1 : p ∈ C := by rw [← hC'] at h; exact (List.mem_filter.mp h).1
    have h2 : p.1 ∈ ck C' := List.mem_map_of_mem h
    rw [kC, List.mem_filter] at h2
    obtain ⟨l, hl, e⟩ := List.mem_map.mp h2.1
    have hm : l.modseq ≤ t := by
      by_cases h3 : l.modseq ≤ t
      · exact h3
      · exact absurd (List.mem_map.mpr ⟨(l.uid, l.flags), (memW _).mpr ⟨l, hl, by omega, rfl⟩, e⟩) hn
    rw [key_uniq (Inc.nodup S.inc) h1 (S.same l hl hm) e.symm]
    exact List.mem_map_of_mem (f := fun l : Ltr => (l.uid, l.flags)) hl

/- P4 -/
abbrev knC (C : CL) : Option (List (Int × Int)) := if ck C = [] then none else some (ranges (ck C))
abbrev mtC (C : CL) : Option (List (Int × Int) × List (Int × Int)) := if ck C = [] then none else some (ranges (rng 1 ((C.length : Int) + 1)), ranges (ck C))
theorem foldl_ag (s : BoxS) : ∀ (H : List (Int × Int)) (b : Int), H.foldl (agStep s) b = b ∨ ∃ p ∈ H, p.2 = H.foldl (agStep s) b ∧ posOf s.us p.2 + 1 = p.1
  | [], b => .inl rfl
  | p :: H, b => by
    rw [List.foldl_cons]
    rcases foldl_ag s H (agStep s b p) with h | ⟨q, h1, h2, h3⟩
    · rw [h]
      unfold agStep
      by_cases e : posOf s.us p.2 + 1 = p.1
      · rw [if_pos e]; exact .inr ⟨p, List.mem_cons_self, rfl, e⟩
      · rw [if_neg e]; exact .inl rfl
    · exact .inr ⟨q, List.mem_cons_of_mem _ h1, h2, h3⟩
theorem mem_take_of {U : List Int} (hi : Inc U) {j : Nat} (hj : j < U.length) {x : Int} (hx : x ∈ U) (h : x ≤ U[j]) : x ∈ U.take (j + 1) := by
  obtain ⟨i, hi', rfl⟩ := List.getElem_of_mem hx
  have : i ≤ j := by
    rcases Nat.lt_or_ge j i with q | q
    · have := List.pairwise_iff_getElem.mp hi j i hj hi' q; omega
    · exact q
  have hl : i < (U.take (j + 1)).length := by rw [List.length_take]; omega
  have e : (U.take (j + 1))[i] = U[i] := List.getElem_take
  rw [← e]; exact List.getElem_mem hl
theorem agreed_ok {k : Nat} {s : BoxS} {t : Int} {C : CL} (i : Inv k s) (S : Since t C s) {u : Int} (hu : u ∈ ck C) (hn : u ∉ s.us) : agreedOf s (ranges (rng 1 ((C.length : Int) + 1))) (ranges (ck C)) < u := by
  have hlen := (S.len i).2
  obtain ⟨n, n1, n2, n3⟩ := S.nx
  have e1 : (rng 1 (s.next - 1 + 1)).filter (inR (ranges (rng 1 ((C.length : Int) + 1)))) = rng 1 ((C.length : Int) + 1) := pick_back (rng_inc _ _) (fun v hv => (mem_rng.mp hv).1) fun v hv => by have := (mem_rng.mp hv).2; omega
  have e2 : (rng 1 (s.next - 1 + 1)).filter (inR (ranges (ck C))) = ck C := pick_back S.inc S.pos fun v hv => by have := n2 v hv; omega
  have e3 : heldOf (s.next - 1) (ranges (rng 1 ((C.length : Int) + 1))) (ranges (ck C)) = (rng 1 ((C.length : Int) + 1)).zip (ck C) := by
    unfold heldOf
    rw [e1, e2, if_pos (by rw [rng_length, List.length_map]; omega)]
  show (heldOf _ _ _).foldl (agStep s) 0 < u
  rw [e3]
  have hu1 := S.pos u hu
  rcases foldl_ag s ((rng 1 ((C.length : Int) + 1)).zip (ck C)) 0 with h | ⟨p, hp, h2, h3⟩
  · rw [h]; omega
  · rw [← h2]
    obtain ⟨j, hj, ej⟩ := List.getElem_of_mem hp
    rw [List.length_zip, rng_length, List.length_map] at hj
    have hjC : j < (ck C).length := by rw [List.length_map]; omega
    have ep1 : p.1 = 1 + (j : Int) := by rw [← ej, List.getElem_zip]; simp [rng]
    have ep2 : p.2 = (ck C)[j] := by rw [← ej, List.getElem_zip]
    rw [ep1] at h3
    have hpos : posOf s.us p.2 = j := by omega
    have hmem : p.2 ∈ s.us := by
      by_cases q : p.2 ∈ s.us
      · exact q
      · unfold posOf at hpos; rw [if_neg q] at hpos; omega
    have hidx : s.us.idxOf p.2 = j := by unfold posOf at hpos; rw [if_pos hmem] at hpos; omega
    have hju : j < s.us.length := hidx ▸ List.idxOf_lt_length_iff.mpr hmem
    have euj : s.us[j] = p.2 := by
      have : s.us[s.us.idxOf p.2]'(List.idxOf_lt_length_iff.mpr hmem) = p.2 := List.getElem_idxOf _
      simpa [hidx] using this
    by_cases hle : p.2 < u
    · exact hle
    · exfalso
      have hle' : u ≤ (ck C)[j] := by rw [← ep2]; omega
      have hut := mem_take_of S.inc hjC hu hle'
      have h4 := inc_len (A := s.us.take (j + 1)) (B := ((ck C).take (j + 1)).filter fun x => decide (x ≠ u)) (i.inc.sublist (List.take_sublist _ _)) ((S.inc.sublist (List.take_sublist _ _)).filter _) fun x hx => by
        have hxu : x ∈ s.us := List.mem_of_mem_take hx
        obtain ⟨a, ha, rfl⟩ := List.getElem_of_mem hx
        rw [List.length_take] at ha
        rw [List.getElem_take] at hxu ⊢
        have hxj : s.us[a] ≤ s.us[j] := by
          rcases Nat.lt_or_ge a j with q | q
          · have := List.pairwise_iff_getElem.mp i.inc a j (by omega) hju q; omega
          · have : a = j := by omega
            subst this; exact Int.le_refl _
        rw [euj, ep2] at hxj
        have h5 := n2 _ (List.getElem_mem hjC)
        have h6 := n3 _ hxu (by omega)
        exact List.mem_filter.mpr ⟨mem_take_of S.inc hjC h6 hxj, by rw [decide_eq_true_eq]; exact fun q => hn (q ▸ hxu)⟩
      have h7 : (((ck C).take (j + 1)).filter fun x => decide (x ≠ u)).length < ((ck C).take (j + 1)).length := by
        rw [List.length_filter_lt_length_iff_exists]
        exact ⟨u, hut, by simp⟩
      rw [List.length_take] at h4 h7
      omega
theorem sub_ok {s : BoxS} {C : CL} {V : List Int} (o : VOk s C V) (p : Int → Bool) (h : ∀ u ∈ ck C, u ∉ s.us → p u = true) : VOk s C (V.filter p) :=
  ⟨o.inc.filter _, fun v hv => o.mem v (List.mem_filter.mp hv).1, fun u hu hn => List.mem_filter.mpr ⟨o.all u hu hn, h u hu hn⟩⟩
structure Telling (s : BoxS) (t : Int) (C : CL) (kn : Option (List (Int × Int))) (mt : Option (List (Int × Int) × List (Int × Int))) : Prop where
  ok : VOk s C (vanAll s t kn mt)
  sub : ∀ v ∈ vanAll s t kn mt, v ∈ foundOf s t
  sel : kn ≠ none → ∀ v ∈ vanAll s t kn mt, v ∈ ck C
  gap : ∀ R, kn = some R → Gap R
  mat : MatchOk s mt
theorem telling {k : Nat} {s : BoxS} {t : Int} {C : CL} (i : Inv k s) (hk60 : k ≤ 60) (S : Since t C s) {kn : Option (List (Int × Int))} {mt : Option (List (Int × Int) × List (Int × Int))} (hk : kn = none ∨ kn = knC C) (hm : mt = none ∨ mt = mtC C) : Telling s t C kn mt := by
  have F := found_ok i S
  have inr := inR_ranges S.inc S.pos
  have hlenC := S.len i
  have V1 : VOk s C (vanOf s t kn) ∧ (∀ v ∈ vanOf s t kn, v ∈ foundOf s t) ∧ (kn ≠ none → ∀ v ∈ vanOf s t kn, v ∈ ck C) ∧ ∀ R, kn = some R → Gap R := by
    have hnone : VOk s C (vanOf s t none) ∧ (∀ v ∈ vanOf s t none, v ∈ foundOf s t) ∧ ((none : Option (List (Int × Int))) ≠ none → ∀ v ∈ vanOf s t none, v ∈ ck C) ∧ ∀ R, (none : Option (List (Int × Int))) = some R → Gap R := ⟨F, fun _ h => h, fun h => absurd rfl h, fun _ h => nomatch h⟩
    rcases hk with rfl | rfl
    · exact hnone
    · unfold knC
      split
      · exact hnone
      · refine ⟨sub_ok F _ fun u hu _ => by rw [inr, decide_eq_true_eq]; exact hu, fun v hv => (List.mem_filter.mp hv).1, fun _ v hv => ?_, fun R h => ?_⟩
        · have := (List.mem_filter.mp hv).2
          rwa [inr, decide_eq_true_eq] at this
        · cases h; exact (rinv S.inc S.pos).gap
  obtain ⟨a, b, c, d⟩ := V1
  rcases hm with rfl | rfl
  · exact ⟨a, b, c, d, ⟨fun _ _ h => nomatch h⟩⟩
  · unfold mtC
    split
    · exact ⟨a, b, c, d, ⟨fun _ _ h => nomatch h⟩⟩
    · rename_i hne
      have rp : ∀ v ∈ rng 1 ((C.length : Int) + 1), 1 ≤ v := fun v hv => (mem_rng.mp hv).1
      have M : MatchOk s (some (ranges (rng 1 ((C.length : Int) + 1)), ranges (ck C))) := ⟨fun R1 R2 h => by
        cases h
        obtain ⟨n, n1, n2, n3⟩ := S.nx
        obtain ⟨x, r, hx⟩ := List.exists_cons_of_ne_nil hne
        have hxm : x ∈ ck C := by rw [hx]; exact List.mem_cons_self
        have h1 := S.pos x hxm
        have h2 := n2 x hxm
        refine ⟨by omega, (rinv (rng_inc _ _) rp).gap, (rinv S.inc S.pos).gap, ?_, ?_⟩
        · have h := ranges_len (rng 1 ((C.length : Int) + 1)); rw [rng_length] at h; omega
        · have h := ranges_len (ck C); rw [List.length_map] at h; omega⟩
      by_cases hf : t < s.floor
      · have e : vanAll s t kn (some (ranges (rng 1 ((C.length : Int) + 1)), ranges (ck C))) = (vanOf s t kn).filter fun u => decide (agreedOf s (ranges (rng 1 ((C.length : Int) + 1))) (ranges (ck C)) < u) := if_pos hf
        refine ⟨?_, ?_, ?_, d, M⟩
        · rw [e]; exact sub_ok a _ fun u hu hn => by rw [decide_eq_true_eq]; exact agreed_ok i S hu hn
        · rw [e]; exact fun v hv => b v (List.mem_filter.mp hv).1
        · rw [e]; exact fun h v hv => c h v (List.mem_filter.mp hv).1
      · have e : vanAll s t kn (some (ranges (rng 1 ((C.length : Int) + 1)), ranges (ck C))) = vanOf s t kn := if_neg hf
        exact ⟨by rw [e]; exact a, by rw [e]; exact b, by rw [e]; exact c, d, M⟩
theorem goneA_eq (V : List Int) (ch : List Ltr) : goneA (ansL V ch) = V := by
  unfold goneA ansL
  have : (ch.map Ans.fet).filter isVan = [] := by
    rw [List.filter_eq_nil_iff]
    intro a ha
    obtain ⟨l, _, rfl⟩ := List.mem_map.mp ha
    simp
  rw [List.filter_append, this, List.append_nil]
  split
  · rename_i h; subst h; rfl
  · simp
theorem ch_top {k : Nat} {s : BoxS} (i : Inv k s) : chOf s s.top = [] := by
  unfold chOf
  rw [List.filter_eq_nil_iff]
  intro l hl
  have := i.mt l hl
  rw [decide_eq_true_eq]; omega
theorem ch_mono {s : BoxS} {t t' : Int} (h : t ≤ t') : (chOf s t').length ≤ (chOf s t).length := by
  have : (chOf s t').Sublist (chOf s t) := by
    have e : chOf s t' = (chOf s t).filter fun l => decide (t' < l.modseq) := by
      unfold chOf
      rw [List.filter_filter]
      refine List.filter_congr fun l _ => ?_
      rw [Bool.eq_iff_iff, Bool.and_eq_true, decide_eq_true_eq, decide_eq_true_eq]
      constructor
      · intro h1; exact ⟨h1, by omega⟩
      · exact fun h1 => h1.1
    rw [e]; exact List.filter_sublist
  exact this.length_le

/- F17 -/
theorem Run.perm {α β : Type} {c : Cx} {rel : Fz → α → β → Prop} {t : Sem α} {m : Mp} {ν ν' : Lg} {Q : β → Mp → Lg → Prop} (p : ν.Perm ν') (h : Run c rel t m ν' Q) : Run c rel t m ν Q := fun φ s o =>
  wpAny_mono (h φ s (o.perm p)) (fun _ _ f => by
    obtain ⟨h', tk, φ', m', ν₁, b, e, o', st, r, q⟩ := f
    refine ⟨h', tk, φ', m', ν₁, b, e, o', ?_, r, q⟩
    exact ⟨fun a ob e aL aN => st.keep a ob e aL fun q hq => aN q (p.mem_iff.mpr hq), st.mono, fun a ob e => by
        rcases st.newφ a ob e with x | ⟨q, hq, x⟩ | x
        · exact .inl x
        · exact .inr (.inl ⟨q, p.mem_iff.mpr hq, x⟩)
        · exact .inr (.inr x), fun q hq => by
        rcases st.newν q hq with ⟨q', hq', x⟩ | x
        · exact .inl ⟨q', p.mem_iff.mpr hq', x⟩
        · exact .inr x⟩) fun _ _ x => x
abbrev lawNs : List Str := ["script", "pen", "moments", "turn", "more", "before", "view", "seen", "last", "top", "copy", "known", "match", "told_so", "pairs", "answers"]
abbrev lawGs : List Str := ["_law_pen", "Box", "range", "_law_draw", "_law_deed", "_law_copy", "forget_gone", "View", "sorted", "ranges_of", "list", "len", "resync_answers", "_law_brought", "_law_gone"]
theorem with_body {K : Frag} {f : Addr} {name qual : Str} {params : Arguments} {body : List Stmt} {scope : Scope} {dV kV doc pm cdv ct oc : Value} {an od : Option Addr} {osl : Array (Option Value)}
    {name' qual' : Str} {params' : Arguments} {body' : List Stmt} {scope' : Scope} {dV' kV' doc' pm' cdv' ct' oc' : Value} {an' od' : Option Addr} {osl' : Array (Option Value)} (P : List Stmt → Prop)
    (ho : K.lookup f = some ⟨oc, od, .func (fnOf name qual params body scope dV kV doc pm an cdv ct), osl⟩) (ho' : K.lookup f = some ⟨oc', od', .func (fnOf name' qual' params' body' scope' dV' kV' doc' pm' an' cdv' ct'), osl'⟩) (h : P body) : P body' := by
  rw [ho] at ho'
  cases ho'
  exact h
abbrev dMo (q : Int × CL) : D := .tup [.int q.1, .map (ck q.2) (cd q.2)]
abbrev Lam (pa bd bl ma ap au ab : Addr) (p : Pen) (s : BoxS) (M : List (Int × CL)) (ou op : Option D) : Lg :=
  penE pa p :: (bd, .attrs boxKs (boxDs bl s)) :: (bl, .lst (s.ls.map dL)) :: (ma, .lst (M.map dMo)) :: (ap, .cell op) :: (au, .cell ou) :: [(ab, .cell (some (dB bd)))]
structure MomOk (k : Nat) (s : BoxS) (M : List (Int × CL)) : Prop where
  inv : Inv k s
  sin : ∀ q ∈ M, Since q.1 q.2 s
  srt : M.Pairwise fun a b => a.1 ≤ b.1
theorem MomOk.deed {k : Nat} {s s' : BoxS} {M : List (Int × CL)} (h : MomOk k s M) (d : Deed s s') : MomOk (k + 1) s' M := ⟨d.inv h.inv, fun q hq => (h.sin q hq).deed h.inv d, h.srt⟩
theorem MomOk.snoc {k : Nat} {s : BoxS} {M : List (Int × CL)} (h : MomOk k s M) : MomOk k s (M ++ [(s.top, cpOf s)]) :=
  ⟨h.inv, fun q hq => by rcases List.mem_append.mp hq with hq | hq; exact h.sin q hq; rw [List.mem_singleton] at hq; subst hq; exact Since.now h.inv,
   List.pairwise_append.mpr ⟨h.srt, List.pairwise_singleton _ _, fun a ha b hb => by rw [List.mem_singleton] at hb; subst hb; exact (h.sin a ha).tle⟩⟩
theorem MomOk.le {k j : Nat} {s : BoxS} {M : List (Int × CL)} (h : MomOk k s M) (hk : k ≤ j) : MomOk j s M := ⟨h.inv.le hk, h.sin, h.srt⟩
abbrev btL (s : BoxS) : List D := [.str "b", .int 9, .int s.next, .int s.top, .int s.floor, .tup (s.ls.map fun l => .tup [.int l.uid, .raw (.bytes #[120] l.tk), dFl l.flags, .int 5, .int l.modseq]), .tup (s.gone.map dP)]
abbrev vtL (s : BoxS) : List D := s.ls.map fun l => .tup [.int l.uid, dFl l.flags, .int l.modseq]
abbrev dLast : Option Nat → D
  | none => .none
  | some n => .int n
abbrev lawM (xs : List Int) (pa ma bd : Addr) (s : BoxS) (la : Option Nat) : Mp := [some (.lst (xs.map .int)), some (.raw (.ref pa)), some (.raw (.ref ma)), none, none, some (.tup (btL s)), some (dV bd s), some (.tup (vtL s)), some (dLast la), none, none, none, none, none, none, none]
theorem Run.same {α β : Type} {c : Cx} {rel : Fz → α → β → Prop} {t : Sem α} {m : Mp} {ν : Lg} {Q : β → Mp → Lg → Prop} (d₀ : β) (r : Run c rel t m ν fun d m₁ ν₁ => d = d₀ ∧ m = m₁ ∧ ν = ν₁) (q : Q d₀ m ν) : Run c rel t m ν Q :=
  r.mono fun b m' ν' h => by obtain ⟨rfl, rfl, rfl⟩ := h; exact q
theorem CpAll.map {α : Type} {k : Nat} {f : α → D} : ∀ (l : List α), (∀ x ∈ l, Cp k (f x)) → CpAll k (l.map f)
  | [], _ => .nil
  | x :: l, h => .cons (h x List.mem_cons_self) (CpAll.map l fun y hy => h y (List.mem_cons_of_mem _ hy))
theorem cp_fl (fs : List Str) : Cp 1 (dFl fs) := .tup (CpAll.map _ fun x _ => .str x)
theorem cp_fl2 (fs : List Str) : Cp 2 (dFl fs) := .tup (CpAll.map _ fun x _ => .str x)
theorem cp_vt (s : BoxS) : CpAll 2 (vtL s) := CpAll.map _ fun l _ => .tup (.cons (.int _) (.cons (cp_fl _) (.cons (.int _) .nil)))
theorem cp_bt (s : BoxS) : CpAll 3 (btL s) :=
  .cons (.str _) (.cons (.int _) (.cons (.int _) (.cons (.int _) (.cons (.int _) (.cons (.tup (CpAll.map _ fun l _ => .tup (.cons (.int _) (.cons (.raw _) (.cons (cp_fl _) (.cons (.int _) (.cons (.int _) .nil))))))) (.cons (.tup (CpAll.map _ fun p _ => .tup (.cons (.int _) (.cons (.int _) .nil)))) .nil))))))
theorem cp_cd (C : CL) : CpAll 1 (cd C) := CpAll.map _ fun p _ => cp_fl _
theorem van_mem {V W : List Int} {ch : List Ltr} (h : Ans.van W ∈ ansL V ch) : W = V := by
  unfold ansL at h
  rcases List.mem_append.mp h with h | h
  · split at h
    · exact absurd h List.not_mem_nil
    · rw [List.mem_singleton] at h; injection h
  · obtain ⟨l, _, e⟩ := List.mem_map.mp h; exact nomatch e
theorem fet_mem {V : List Int} {ch : List Ltr} {l : Ltr} (h : Ans.fet l ∈ ansL V ch) : l ∈ ch := by
  unfold ansL at h
  rcases List.mem_append.mp h with h | h
  · split at h
    · exact absurd h List.not_mem_nil
    · rw [List.mem_singleton] at h; exact nomatch h
  · obtain ⟨l', hl, e⟩ := List.mem_map.mp h
    injection e with e; exact e ▸ hl
theorem ansL_len (V : List Int) (ch : List Ltr) : (ansL V ch).length ≤ ch.length + 1 := by
  unfold ansL; rw [List.length_append, List.length_map]; split <;> simp <;> omega
theorem okFl_len {fs : List Str} (h : okFl fs) : fs.length ≤ 100 := by rcases h with rfl | rfl | rfl | rfl <;> decide
theorem emp_dec (l : List Int) : (!(l.map D.int).isEmpty) = decide (l ≠ []) := by cases l <;> rfl
theorem fet_filter (V : List Int) (ch : List Ltr) : (ansL V ch).filter (fun a => !isVan a) = ch.map .fet := by
  unfold ansL
  rw [List.filter_append]
  have h1 : (if V = [] then [] else [Ans.van V]).filter (fun a => !isVan a) = [] := by split <;> simp
  rw [h1, List.nil_append, List.filter_eq_self]
  intro a ha
  obtain ⟨l, _, rfl⟩ := List.mem_map.mp ha
  rfl
theorem kn_at {C : CL} {i : Nat} {d : D} (hd : ([dK (knC C), D.none] : List D)[i]? = some d) : ∃ kn, d = dK kn ∧ (kn = none ∨ kn = knC C) := by
  match i, hd with
  | 0, hd => exact ⟨knC C, by simpa using hd.symm, .inr rfl⟩
  | 1, hd => exact ⟨none, by simpa using hd.symm, .inl rfl⟩
theorem mt_at {C : CL} {i : Nat} {d : D} (hd : ([dM (mtC C), D.none] : List D)[i]? = some d) : ∃ mt, d = dM mt ∧ (mt = none ∨ mt = mtC C) := by
  match i, hd with
  | 0, hd => exact ⟨mtC C, by simpa using hd.symm, .inr rfl⟩
  | 1, hd => exact ⟨none, by simpa using hd.symm, .inl rfl⟩
abbrev lawM2 (xs : List Int) (pa ma bd : Addr) (s : BoxS) (la : Option Nat) (t : Int) (C : CL) (a b e : Option D) : Mp := [some (.lst (xs.map .int)), some (.raw (.ref pa)), some (.raw (.ref ma)), none, none, some (.tup (btL s)), some (dV bd s), some (.tup (vtL s)), some (dLast la), some (.int t), some (.map (ck C) (cd C)), some (dK (knC C)), some (dM (mtC C)), a, b, e]
theorem mem_drop_at {α : Type} {l : List α} {i : Nat} {x : α} (h : l[i]? = some x) : x ∈ l.drop i := by
  obtain ⟨hi, e⟩ := List.getElem?_eq_some_iff.mp h
  rw [List.drop_eq_getElem_cons hi, e]; exact List.mem_cons_self
theorem le_after {R : List (Int × CL)} (hS : R.Pairwise fun a b => b.1 ≤ a.1) {i : Nat} {x : Int × CL} (h : R[i]? = some x) : ∀ q ∈ R.drop (i + 1), q.1 ≤ x.1 := by
  obtain ⟨hi, e⟩ := List.getElem?_eq_some_iff.mp h
  have h2 := hS.sublist (List.drop_sublist i R)
  rw [List.drop_eq_getElem_cons hi, e] at h2
  exact (List.pairwise_cons.mp h2).1
theorem int_at {l : List Int} {i : Nat} {d : D} (hd : (l.map D.int)[i]? = some d) : ∃ z, d = .int z := by
  rw [List.getElem?_map] at hd
  cases hx : l[i]? with
  | none => rw [hx] at hd; cases hd
  | some z => rw [hx] at hd; simp only [Option.map_some, Option.some.injEq] at hd; exact ⟨z, hd.symm⟩
theorem perm4 {α : Type} {a b c d : α} {r : List α} : (a :: b :: c :: d :: r).Perm (d :: b :: c :: a :: r) := (List.perm_middle (l₁ := [a, b, c])).trans (.cons _ (List.perm_middle (l₁ := [b, c])).symm)
theorem deed_lam {c : Cx} (hK : Kx c) (ha : AOk c.A 5) {pa bd bl ma ap au ab : Addr} {p : Pen} {s : BoxS} {M : List (Int × CL)} {ou op : Option D} {k j : Nat} (hp : PenOk k p) (hk : k ≤ 90000) (hM : MomOk j s M) (hj : j ≤ 60) {m : Mp} {Q : D → Mp → Lg → Prop}
    (q : ∀ d p' bl' s', PenOk (k + 1000) p' → MomOk (j + 1) s' M → s'.floor = s.floor → Q d m (Lam pa bd bl' ma ap au ab p' s' M ou op)) : CallD c (.ref 419) [.raw (.ref pa), dB bd] m (Lam pa bd bl ma ap au ab p s M ou op) Q :=
  (law_deed_spec (νr := (ma, .lst (M.map dMo)) :: (ap, .cell op) :: (au, .cell ou) :: [(ab, .cell (some (dB bd)))]) hK ha hp hk (hM.inv.boxB hj).toBoxOk (by have := hM.inv.cnt; omega) (by have := hM.inv.cnt; omega) fun d p' bl' s' h1 h2 => q d p' bl' s' h1 (hM.deed h2) h2.floor).call
theorem draw_lam {c : Cx} (hK : Kx c) (ha : AOk c.A 1) {pa bd bl ma ap au ab : Addr} {p : Pen} {s : BoxS} {M : List (Int × CL)} {ou op : Option D} {k : Nat} {limit : Int} (hp : PenOk k p) (hk : k ≤ 100000) (h0 : 0 < limit) (h1 : limit ≤ 1000) {m : Mp} {Q : D → Mp → Lg → Prop}
    (q : ∀ d p', 0 ≤ d → d < limit → PenOk (k + 1) p' → Q (.int d) m (Lam pa bd bl ma ap au ab p' s M ou op)) : CallD c (.ref 407) [.raw (.ref pa), .int limit] m (Lam pa bd bl ma ap au ab p s M ou op) Q :=
  (law_draw_spec (νr := (bd, .attrs boxKs (boxDs bl s)) :: (bl, .lst (s.ls.map dL)) :: (ma, .lst (M.map dMo)) :: (ap, .cell op) :: (au, .cell ou) :: [(ab, .cell (some (dB bd)))]) hK ha hp hk h0 h1 q).call
theorem BoxIn.lam {pa bd bl ma ap au ab : Addr} {p : Pen} {s : BoxS} {M : List (Int × CL)} {ou op : Option D} : BoxIn (Lam pa bd bl ma ap au ab p s M ou op) bd bl s := ⟨List.mem_cons_of_mem _ List.mem_cons_self, List.mem_cons_of_mem _ (List.mem_cons_of_mem _ List.mem_cons_self)⟩
set_option maxHeartbeats 8000000 in
theorem law_walk {c : Cx} (hK : Kx c) {A' : Around} {L' : Addr} {env : Env} (hA : AOk A' 9) {name qual : Str} {params : Arguments} {body : List Stmt} {scope : Scope} {dV kV doc pm cdv ct oc : Value} {an od : Option Addr} {osl : Array (Option Value)}
    (ho : c.K.lookup 439 = some ⟨oc, od, .func (fnOf name qual params body scope dV kV doc pm an cdv ct), osl⟩) (E : EnvOk (c.in A' L' lawNs) env) (hg : GN env lawGs) {ap au ab : Addr} (hc : CS env [("plain", ap), ("uids", au), ("box", ab)]) {xs : List Int} (hl : xs.length ≤ 63) :
    Ex (c.in A' L' lawNs) env body [some (.lst (xs.map .int)), none, none, none, none, none, none, none, none, none, none, none, none, none, none, none] [(ap, .cell none), (au, .cell none), (ab, .cell none)] fun f _ _ => f = .ret (.bool true) := by
  refine with_body (f := 439) (K := c.K) (fun body => Ex (c.in A' L' lawNs) env body [some (.lst (xs.map .int)), none, none, none, none, none, none, none, none, none, none, none, none, none, none, none] [(ap, .cell none), (au, .cell none), (ab, .cell none)] fun f _ _ => f = .ret (.bool true)) (by rw [hK]; k_is) ho ?_
  repeat tb_start
  refine (law_pen_spec (c := c.in A' L' _) hK (hA.le (by decide)) (by omega) fun pa p hp => ?_).call
  repeat tb_start
  refine (box_spec (c := c.in A' L' _) hK (hA.le (by decide)) fun bd bl => ?_).call
  simp only [List.cons_append, List.nil_append]
  repeat tb_start
  refine ev_ListM ?_
  repeat tb_start
  intro ma
  refine set_ok (by tb_rel) ?_
  refine Run.perm (ν' := Lam pa bd bl ma ap au ab p ⟨1, 1, 0, [], []⟩ [] none none) ?_ ?_
  · exact perm4
  repeat tb_start
  refine loop_of (fun _ : Pen × Addr × BoxS × List (Int × CL) => [some (.lst (xs.map .int)), some (.raw (.ref pa)), some (.raw (.ref ma)), none, none, none, none, none, none, none, none, none, none, none, none, none]) (fun x => Lam pa bd x.2.1 ma ap au ab x.1 x.2.2.1 x.2.2.2 none none)
    (fun i x => PenOk (4000 * i) x.1 ∧ MomOk (3 * i) x.2.2.1 x.2.2.2 ∧ x.2.2.1.floor = 0 ∧ x.2.2.2.length = i) (p, bl, ⟨1, 1, 0, [], []⟩, []) (iter_range hA.h (small_one (by omega) (by omega) (by omega) (by omega))) ⟨hp, ⟨Inv.first, fun q h => absurd h List.not_mem_nil, List.Pairwise.nil⟩, rfl, rfl⟩ (by tb_rel) rfl (fun _ _ _ => trivial) ?_ ?_
  · rintro i ⟨p, bl, s, M⟩ d hd ⟨hp, hM, hfl, hml⟩
    dsimp only at hp hM hfl hml
    have hi : i < 3 := by
      have := (List.getElem?_eq_some_iff.mp hd).1
      rw [List.length_map, rng_length] at this; omega
    obtain ⟨i0, rfl⟩ := int_at hd
    repeat tb_start
    refine draw_lam (c := c.in A' L' _) hK (hA.le (by decide)) hp (by omega) (by decide) (by decide) fun d p1 d0 d1 hp1 => ?_
    repeat tb_start
    refine loop_of (fun _ : Pen × Addr × BoxS => [some (.lst (xs.map .int)), some (.raw (.ref pa)), some (.raw (.ref ma)), none, none, none, none, none, none, none, none, none, none, none, none, none]) (fun x => Lam pa bd x.2.1 ma ap au ab x.1 x.2.2 M none none)
      (fun j x => PenOk (4000 * i + 1 + 1000 * j) x.1 ∧ MomOk (3 * i + j) x.2.2 M ∧ x.2.2.floor = 0) (p1, bl, s) (iter_range hA.h (small_one (by omega) (by omega) (by omega) (by omega))) ⟨hp1, hM, hfl⟩ (by tb_rel) rfl (fun _ _ _ => trivial) ?_ ?_
    · rintro j ⟨p2, bl2, s2⟩ e he ⟨hp2, hM2, hf2⟩
      dsimp only at hp2 hM2 hf2
      have hj : j < 3 := by
        have := (List.getElem?_eq_some_iff.mp he).1
        rw [List.length_map, rng_length] at this; omega
      obtain ⟨j0, rfl⟩ := int_at he
      repeat tb_start
      refine deed_lam (c := c.in A' L' _) hK (hA.le (by decide)) hp2 (by omega) hM2 (by omega) fun _ p3 bl3 s3 hp3 hM3 hf3 => ?_
      repeat tb_start
      exact ⟨(p3, bl3, s3), ⟨hp3.le (by omega), hM3, by rw [hf3]; exact hf2⟩, by tb_rel, rfl⟩
    · rintro ⟨p2, bl2, s2⟩ ⟨hp2, hM2, hf2⟩
      dsimp only at hp2 hM2 hf2
      rw [List.length_map, rng_length] at hp2 hM2
      have hb2 := hM2.inv.boxB (by omega)
      repeat tb_start
      refine (law_copy_spec (c := c.in A' L' _) hK (hA.le (by decide)) hb2.toBoxOk BoxIn.lam ?_).call
      rw [← ck_cpOf, ← cd_cpOf]
      repeat tb_start
      refine ⟨(p2, bl2, s2, M ++ [(s2.top, cpOf s2)]), ⟨hp2.le (by omega), (hM2.snoc).le (by omega), hf2, by rw [List.length_append, hml]; rfl⟩, by tb_rel, ?_⟩
      show Lam pa bd bl2 ma ap au ab p2 s2 (M ++ [(s2.top, cpOf s2)]) none none = _
      unfold Lam
      rw [List.map_append]
      rfl
  · rintro ⟨p, bl, s, M⟩ ⟨hp, hM, hfl, hml⟩
    dsimp only at hp hM hfl hml
    rw [List.length_map, rng_length] at hp hM hml
    repeat tb_start
    refine draw_lam (c := c.in A' L' _) hK (hA.le (by decide)) hp (by omega) (by decide) (by decide) fun d p1 d0 d1 hp1 => ?_
    repeat tb_start
    refine loop_of (fun _ : Pen × Addr × BoxS => [some (.lst (xs.map .int)), some (.raw (.ref pa)), some (.raw (.ref ma)), none, none, none, none, none, none, none, none, none, none, none, none, none]) (fun x => Lam pa bd x.2.1 ma ap au ab x.1 x.2.2 M none none)
      (fun j x => PenOk (12001 + 1000 * j) x.1 ∧ MomOk (9 + j) x.2.2 M ∧ x.2.2.floor = 0) (p1, bl, s) (iter_range hA.h (small_one (by omega) (by omega) (by omega) (by omega))) ⟨hp1.le (by omega), hM.le (by omega), hfl⟩ (by tb_rel) rfl (fun _ _ _ => trivial) ?_ ?_
    · rintro j ⟨p2, bl2, s2⟩ e he ⟨hp2, hM2, hf2⟩
      dsimp only at hp2 hM2 hf2
      have hj : j < 3 := by
        have := (List.getElem?_eq_some_iff.mp he).1
        rw [List.length_map, rng_length] at this; omega
      obtain ⟨j0, rfl⟩ := int_at he
      repeat tb_start
      refine deed_lam (c := c.in A' L' _) hK (hA.le (by decide)) hp2 (by omega) hM2 (by omega) fun _ p3 bl3 s3 hp3 hM3 hf3 => ?_
      repeat tb_start
      exact ⟨(p3, bl3, s3), ⟨hp3.le (by omega), hM3, by rw [hf3]; exact hf2⟩, by tb_rel, rfl⟩
    · rintro ⟨p2, bl2, s2⟩ ⟨hp2, hM2, hf2⟩
      dsimp only at hp2 hM2 hf2
      rw [List.length_map, rng_length] at hp2 hM2
      have hb2 := hM2.inv.boxB (by omega)
      repeat tb_start
      refine (law_copy_spec (c := c.in A' L' _) hK (hA.le (by decide)) hb2.toBoxOk BoxIn.lam ?_).call
      rw [← ck_cpOf, ← cd_cpOf]
      tb_start
      tb_start
      tb_start
      tb_start
      tb_start
      have hM3 := hM2.snoc
      have hml3 : (M ++ [(s2.top, cpOf s2)]).length = 4 := by rw [List.length_append, hml]; rfl
      rw [show M.map dMo ++ [D.tup [.int s2.top, .map (ck (cpOf s2)) (cd (cpOf s2))]] = (M ++ [(s2.top, cpOf s2)]).map dMo by rw [List.map_append]; rfl]
      generalize M ++ [(s2.top, cpOf s2)] = M3 at hM3 hml3 ⊢
      refine ex_cons ?_
      refine Run.cut (fun f m₁ ν₁ => f = .next ∧ m₁ = [some (.lst (xs.map .int)), some (.raw (.ref pa)), some (.raw (.ref ma)), none, none, none, none, none, none, none, none, none, none, none, none, none] ∧ ∃ p' s', ν₁ = Lam pa bd bl2 ma ap au ab p' s' M3 none none ∧ MomOk 12 s' M3) ?_ ?_
      · repeat tb_start
        refine draw_lam (c := c.in A' L' _) hK (hA.le (by decide)) hp2 (by omega) (by decide) (by decide) fun d p3 d0 d1 hp3 => ?_
        repeat tb_start
        refine ite_dec (fun _ => ?_) (fun _ => ?_)
        · repeat tb_start
          refine draw_lam (c := c.in A' L' _) hK (hA.le (by decide)) hp3 (by omega) (by decide) (by decide) fun d p4 d0 d1 hp4 => ?_
          have hdl : d.toNat < M3.length := by omega
          repeat tb_start
          refine su_list (fun _ _ => rfl) (.live (by tb_rel)) d0 (by omega) (d := dMo M3[d.toNat]) (by rw [List.getElem?_map, List.getElem?_eq_getElem hdl]; rfl) ?_
          have hS := hM3.sin _ (List.getElem_mem hdl)
          have htp := hS.tp
          have htp2 := hM3.inv.tp
          repeat tb_start
          refine CodeD.call (CodeD.perm (ν' := boxL bd bl2 s2 ++ (penE pa p4 :: (ma, .lst (M3.map dMo)) :: (ap, .cell none) :: (au, .cell none) :: [(ab, .cell (some (dB bd)))])) (List.perm_middle (l₁ := [_, _])).symm (forget_gone_spec (c := c.in A' L' _) hK (hA.le (by decide)) (by have := hM3.inv.cnt; omega) (by omega) fun d => ⟨Lam pa bd bl2 ma ap au ab p4 (s2.forget _) M3 none none, List.perm_middle (l₁ := [_, _]), ?_⟩))
          repeat tb_start
          exact ⟨rfl, rfl, _, _, rfl, (hM3.inv.forget _).le (by omega), fun q hq => (hM3.sin q hq).forget hf2 _, hM3.srt⟩
        · repeat tb_start
          exact ⟨rfl, rfl, _, _, rfl, hM3.le (by omega)⟩
      clear hp2 hM2 hf2 hb2 hM3 hM hp hfl
      rintro _ _ _ ⟨rfl, rfl, p4, s4, rfl, hM4⟩
      have hb4 := hM4.inv.boxB (by omega)
      repeat tb_start
      refine (box_told_spec (c := c.in A' L' _) hK (hA.le (by decide)) BoxIn.lam hb4.toBoxOk (by have := hM4.inv.cnt; omega) ?_).call
      repeat tb_start
      refine (view_spec (c := c.in A' L' _) hK (hA.le (by decide)) hb4.toBoxOk BoxIn.lam ?_).call
      repeat tb_start
      refine (view_told_spec (c := c.in A' L' _) hK (hA.le (by decide)) hb4.toBoxOk ?_).call
      refine set_ok (by tb_rel) ?_
      refine ex_cons ?_
      refine ex_Assign E ?_ rfl
      tb_start
      refine set_ok (by tb_rel) ?_
      refine ex_cons ?_
      refine ex_For ?_ (fun _ => rfl)
      refine ev_back ?_
      repeat tb_start
      refine ⟨_, .live (by tb_rel), by rw [List.length_map]; omega, ?_⟩
      rw [← List.map_reverse]
      have hR : ∀ q ∈ M3.reverse, Since q.1 q.2 s4 := fun q hq => hM4.sin q (List.mem_reverse.mp hq)
      have hS : M3.reverse.Pairwise fun a b => b.1 ≤ a.1 := List.pairwise_reverse.mpr hM4.srt
      generalize M3.reverse = R at hR hS ⊢
      refine loop_of (fun x : Option Nat × Option D × Option D => lawM xs pa ma bd s4 x.1) (fun x => Lam pa bd bl2 ma ap au ab p4 s4 M3 x.2.1 x.2.2) (fun i x => ∀ q ∈ R.drop i, ∀ n, x.1 = some n → n ≤ (chOf s4 q.1).length) (none, none, none) (iter_lst hA.h) (fun q _ n h => nomatch h) (by tb_rel) rfl (fun _ _ _ => trivial) ?_ ?_
      · rintro i ⟨la, ou, op⟩ d hd hla
        dsimp only at hla
        rw [List.getElem?_map] at hd
        cases hf : R[i]? with
        | none => rw [hf] at hd; cases hd
        | some q =>
        rw [hf] at hd
        simp only [Option.map_some, Option.some.injEq] at hd
        subst hd
        obtain ⟨t, C⟩ := q
        have S := hR _ (List.mem_of_getElem? hf)
        dsimp only at S
        repeat tb_start
        have hCl := S.len hM4.inv
        have hchl : (chOf s4 t).length ≤ 12 := by have := List.length_filter_le (fun l : Ltr => decide (t < l.modseq)) s4.ls; have := hM4.inv.cnt; show (List.filter _ _).length ≤ _; omega
        have hfls : ∀ l ∈ s4.ls, l.flags.length ≤ 100 := fun l hl => okFl_len (hM4.inv.fl l hl)
        refine call_sorted_map hA.h .frozen (by rw [List.length_map]; omega) S.inc ?_
        refine cset_ok (by tb_rel) ?_
        refine ex_cons ?_
        refine ex_Assign E ?_ rfl
        refine Run.same (dK (knC C)) ?_ ?_
        · repeat tb_start
          refine tru_list .frozen (by rw [List.length_map, List.length_map]; omega) ?_
          rw [emp_dec]
          refine ite_dec (fun h => ?_) (fun h => ?_)
          · repeat tb_start
            refine (ranges_of_spec (c := c.in A' L' _) hK (hA.le (by decide)) (by rw [List.length_map]; omega) ?_).call
            exact ⟨by rw [show knC C = some _ from if_neg h], rfl, rfl⟩
          · repeat tb_start
            exact ⟨by rw [show knC C = none from if_pos (Classical.not_not.mp h)], rfl, rfl⟩
        refine set_ok (by tb_rel) ?_
        refine ex_cons ?_
        refine ex_Assign E ?_ rfl
        refine Run.same (dM (mtC C)) ?_ ?_
        · repeat tb_start
          refine tru_list .frozen (by rw [List.length_map, List.length_map]; omega) ?_
          rw [emp_dec]
          refine ite_dec (fun h => ?_) (fun h => ?_)
          · repeat tb_start
            refine call_len .frozen (by rw [List.length_map, List.length_map]; omega) ?_
            rw [List.length_map, List.length_map]
            repeat tb_start
            refine call_list_rng hA.h (by omega) (by omega) ?_
            repeat tb_start
            refine (ranges_of_spec (c := c.in A' L' _) hK (hA.le (by decide)) (by rw [rng_length]; omega) ?_).call
            repeat tb_start
            exact ⟨by rw [show mtC C = some _ from if_neg h, show knC C = some _ from if_neg h], rfl, rfl⟩
          · repeat tb_start
            exact ⟨by rw [show mtC C = none from if_pos (Classical.not_not.mp h)], rfl, rfl⟩
        repeat tb_start
        refine (resync_answers_spec (c := c.in A' L' _) (kn := none) (mt := none) hK (hA.le (by decide)) hb4 hfls (fun _ h => nomatch h) ⟨fun _ _ h => nomatch h⟩ BoxIn.lam ?_).call
        rw [ansOf_eq]
        have TF := telling hM4.inv (by decide) S (kn := none) (mt := none) (.inl rfl) (.inl rfl)
        have hFdef : vanAll s4 t none none = foundOf s4 t := rfl
        generalize hF : vanAll s4 t none none = F at TF hFdef ⊢
        have hFV := TF.ok
        rw [hF] at hFV
        have hFl := hFV.len hM4.inv
        repeat tb_start
        refine loop_of (fun _ : Unit => lawM2 xs pa ma bd s4 la t C none none none) (fun _ => Lam pa bd bl2 ma ap au ab p4 s4 M3 (some (.lst ((ck C).map .int))) (some (.lst ((ansL F (chOf s4 t)).map (dA s4))))) (fun _ _ => True) () (iter_tup hA.h) trivial (by tb_rel) rfl (fun _ _ _ => trivial) ?_ ?_
        · rintro i1 _ d hd1 _
          obtain ⟨kn, rfl, hkn⟩ := kn_at hd1
          repeat tb_start
          refine loop_of (fun _ : Unit => lawM2 xs pa ma bd s4 la t C (some (dK kn)) none none) (fun _ => Lam pa bd bl2 ma ap au ab p4 s4 M3 (some (.lst ((ck C).map .int))) (some (.lst ((ansL F (chOf s4 t)).map (dA s4))))) (fun _ _ => True) () (iter_tup hA.h) trivial (by tb_rel) rfl (fun _ _ _ => trivial) ?_ ?_
          · rintro i2 _ d hd2 _
            obtain ⟨mt, rfl, hmt⟩ := mt_at hd2
            have TT := telling hM4.inv (by decide) S hkn hmt
            have hVl := TT.ok.len hM4.inv
            repeat tb_start
            refine (resync_answers_spec (c := c.in A' L' _) hK (hA.le (by decide)) hb4 hfls TT.gap TT.mat BoxIn.lam ?_).call
            rw [ansOf_eq]
            have hbr := brought_eq hM4.inv S TT.ok
            have hsub := TT.sub
            have hsel := TT.sel
            have hok := TT.ok
            generalize vanAll s4 t kn mt = V at hbr hsub hsel hok hVl ⊢
            have hvV : ∀ W, Ans.van W ∈ ansL V (chOf s4 t) → Inc W ∧ (∀ v ∈ W, 1 ≤ v ∧ v ≤ s4.next) ∧ W.length < 64 := fun W h => by
              rw [van_mem h]; exact ⟨hok.inc, fun v hv => by have := hok.mem v hv; omega, by omega⟩
            have hvF : ∀ W, Ans.van W ∈ ansL F (chOf s4 t) → Inc W ∧ (∀ v ∈ W, 1 ≤ v ∧ v ≤ s4.next) ∧ W.length < 64 := fun W h => by
              rw [van_mem h]; exact ⟨hFV.inc, fun v hv => by have := hFV.mem v hv; omega, by omega⟩
            have hu : A'.units + 10 < cLine := by have := hA.units; omega
            repeat tb_start
            refine (law_brought_spec (c := c.in A' L' _) hK (hA.le (by decide)) (by omega) (by have := ansL_len V (chOf s4 t); omega) hb4 hvV (fun l h => hfls l (List.mem_filter.mp (fet_mem h)).1) BoxIn.lam ?_).call
            rw [hbr]
            repeat tb_start
            refine (law_copy_spec (c := c.in A' L' _) hK (hA.le (by decide)) hb4.toBoxOk BoxIn.lam ?_).call
            rw [← ck_cpOf, ← cd_cpOf]
            repeat tb_start
            refine cmp_ne_same_map .frozen .frozen (cp_cd _) (show A'.units + 1 + 1 < cLine by omega) ?_
            repeat tb_start
            refine ev_ListComp [("box", ab), ("plain", ap)] ["uid"] ["_law_gone"] rfl (fun p hp => hc.look p (by simp only [List.mem_cons, List.not_mem_nil, or_false] at hp; rcases hp with rfl | rfl <;> simp)) (by decide +kernel) ?_
            repeat tb_start
            refine (law_gone_spec (c := c.in A' L' _) hK (hA.le (by decide)) (by rw [goneA_eq]; omega) hb4 hvV BoxIn.lam ?_).call
            rw [goneA_eq]
            refine cj_pf [("box", ab), ("plain", ap)] ["uid"] ["_law_gone"] [none] V D.int (fun u => !decide (u ∈ F)) D.int E (by decide +kernel) (hc.sub (by simp)) rfl (nd2 (by decide +kernel)) rfl (iter_lst hA.h) trivial (by omega) (fun C' env' u hu' E' hg' hc' => ?_) ?_
            · repeat tb_start
              refine (law_gone_spec (c := (c.in A' L' _).in A' C' _) hK (hA.le (by decide)) (by rw [goneA_eq]; omega) hb4 hvF BoxIn.lam ?_).call
              rw [goneA_eq]
              repeat tb_start
              refine cmp_notin_ints .frozen ?_
              repeat tb_start
              refine turn_nd rfl (fun h => absurd (by rw [hFdef]; exact hsub u hu') h) (fun _ => ?_)
              exact ⟨rfl, rfl⟩
            rw [show V.filter (fun u => !decide (u ∈ F)) = [] from List.filter_eq_nil_iff.mpr fun u hu' => by rw [hFdef]; simpa using hsub u hu']
            repeat tb_start
            refine ev_List ?_
            repeat tb_start
            refine cmp_ne_nil (show A'.units < cLine by omega) .frozen ?_
            simp only [List.map_nil, List.isEmpty_nil, Bool.not_true]
            repeat tb_start
            cases kn with
            | none =>
              repeat tb_start
              exact ⟨(), trivial, by tb_rel, rfl⟩
            | some R1 =>
              have hsel' := hsel (by simp)
              repeat tb_start
              refine ev_ListComp [("uids", au)] ["uid"] [] rfl (fun p hp => hc.look p (by simp only [List.mem_cons, List.not_mem_nil, or_false] at hp; subst hp; simp)) (by decide +kernel) ?_
              repeat tb_start
              refine (law_gone_spec (c := c.in A' L' _) hK (hA.le (by decide)) (by rw [goneA_eq]; omega) hb4 hvV BoxIn.lam ?_).call
              rw [goneA_eq]
              refine cj_pf [("uids", au)] ["uid"] [] [none] V D.int (fun u => !decide (u ∈ ck C)) D.int E (by decide +kernel) (hc.sub (by simp)) rfl nd1 rfl (iter_lst hA.h) trivial (by omega) (fun C' env' u hu' E' hg' hc' => ?_) ?_
              · repeat tb_start
                refine cmp_notin_ints .frozen ?_
                repeat tb_start
                refine turn_nd rfl (fun h => absurd (hsel' u hu') h) (fun _ => ?_)
                exact ⟨rfl, rfl⟩
              rw [show V.filter (fun u => !decide (u ∈ ck C)) = [] from List.filter_eq_nil_iff.mpr fun u hu' => by simpa using hsel' u hu']
              repeat tb_start
              refine ev_List ?_
              repeat tb_start
              refine cmp_ne_nil (show A'.units < cLine by omega) .frozen ?_
              simp only [List.map_nil, List.isEmpty_nil, Bool.not_true]
              repeat tb_start
              exact ⟨(), trivial, by tb_rel, rfl⟩
          · intro _ _
            repeat tb_start
            exact ⟨(), trivial, by tb_rel, rfl⟩
        · intro _ _
          have hu : A'.units + 10 < cLine := by have := hA.units; omega
          refine ex_cons ?_
          refine Run.same FD.next ?_ ?_
          · cases la with
            | none =>
              repeat tb_start
              exact ⟨rfl, rfl, rfl⟩
            | some n =>
              have hn := hla _ (mem_drop_at hf) n rfl
              repeat tb_start
              refine ev_ListComp [] ["answer"] [] rfl look0 (by decide +kernel) ?_
              repeat tb_start
              refine cj_pf [] ["answer"] [] [none] (ansL F (chOf s4 t)) (dA s4) (fun a => !isVan a) (dA s4) E (by decide +kernel) .nil rfl nd0 rfl (iter_lst hA.h) trivial (by have := ansL_len F (chOf s4 t); omega) (fun C' env' a ha E' hg' hc' => ?_) ?_
              · cases a with
                | van W =>
                  repeat tb_start
                  refine turn_d (show decide (("vanished" : Str) = "fetch") = false by decide +kernel) (fun h => absurd h (by decide +kernel)) (fun _ => ?_)
                  exact ⟨rfl, rfl⟩
                | fet l =>
                  repeat tb_start
                  refine turn_d (by rfl) (fun _ => ?_) (fun h => absurd rfl h)
                  repeat tb_start
                  exact ⟨rfl, rfl, rfl⟩
              rw [fet_filter]
              repeat tb_start
              refine call_len .frozen (by rw [List.length_map, List.length_map]; omega) ?_
              rw [List.length_map, List.length_map]
              repeat tb_start
              refine ite_dec (fun h => absurd h (by dsimp only at hn; omega)) (fun _ => ?_)
              repeat tb_start
              exact ⟨rfl, rfl, rfl⟩
          refine ex_cons ?_
          refine Run.same FD.next ?_ ?_
          · repeat tb_start
            refine ite_dec (fun h => ?_) (fun _ => ?_)
            · repeat tb_start
              refine ev_ListComp [] ["answer"] [] rfl look0 (by decide +kernel) ?_
              repeat tb_start
              refine cj_pf [] ["answer"] [] [none] (ansL F (chOf s4 t)) (dA s4) (fun a => !isVan a) (dA s4) E (by decide +kernel) .nil rfl nd0 rfl (iter_lst hA.h) trivial (by have := ansL_len F (chOf s4 t); omega) (fun C' env' a ha E' hg' hc' => ?_) ?_
              · cases a with
                | van W =>
                  repeat tb_start
                  refine turn_d (show decide (("vanished" : Str) = "fetch") = false by decide +kernel) (fun h => absurd h (by decide +kernel)) (fun _ => ?_)
                  exact ⟨rfl, rfl⟩
                | fet l =>
                  repeat tb_start
                  refine turn_d (by rfl) (fun _ => ?_) (fun h => absurd rfl h)
                  repeat tb_start
                  exact ⟨rfl, rfl, rfl⟩
              rw [fet_filter]
              rw [show chOf s4 t = [] by rw [h]; exact ch_top hM4.inv]
              repeat tb_start
              refine ev_List ?_
              repeat tb_start
              refine cmp_ne_nil (show A'.units < cLine by omega) .frozen ?_
              simp only [List.map_nil, List.isEmpty_nil, Bool.not_true]
              repeat tb_start
              exact ⟨rfl, rfl, rfl⟩
            · repeat tb_start
              exact ⟨rfl, rfl, rfl⟩
          repeat tb_start
          refine ev_ListComp [] ["answer"] [] rfl look0 (by decide +kernel) ?_
          repeat tb_start
          refine cj_pf [] ["answer"] [] [none] (ansL F (chOf s4 t)) (dA s4) (fun a => !isVan a) (dA s4) E (by decide +kernel) .nil rfl nd0 rfl (iter_lst hA.h) trivial (by have := ansL_len F (chOf s4 t); omega) (fun C' env' a ha E' hg' hc' => ?_) ?_
          · cases a with
            | van W =>
              repeat tb_start
              refine turn_d (show decide (("vanished" : Str) = "fetch") = false by decide +kernel) (fun h => absurd h (by decide +kernel)) (fun _ => ?_)
              exact ⟨rfl, rfl⟩
            | fet l =>
              repeat tb_start
              refine turn_d (by rfl) (fun _ => ?_) (fun h => absurd rfl h)
              repeat tb_start
              exact ⟨rfl, rfl, rfl⟩
          rw [fet_filter]
          repeat tb_start
          refine call_len .frozen (by rw [List.length_map, List.length_map]; omega) ?_
          rw [List.length_map, List.length_map]
          repeat tb_start
          refine ⟨(some (chOf s4 t).length, _, _), fun q hq n hn => ?_, by tb_rel, rfl⟩
          injection hn with hn
          rw [← hn]
          exact ch_mono (le_after hS hf q hq)
      · rintro ⟨la, ou, op⟩ _
        repeat tb_start
        refine ev_And2 ?_
        repeat tb_start
        refine (box_told_spec (c := c.in A' L' _) hK (hA.le (by decide)) BoxIn.lam hb4.toBoxOk (by have := hM4.inv.cnt; omega) ?_).call
        repeat tb_start
        refine cmp_eq_same (cp_bt s4) (by have := hA.units; show A'.units + 3 + 1 < cLine; omega) ?_
        repeat tb_start
        refine (view_told_spec (c := c.in A' L' _) hK (hA.le (by decide)) hb4.toBoxOk ?_).call
        repeat tb_start
        refine cmp_eq_same (cp_vt s4) (by have := hA.units; show A'.units + 2 + 1 < cLine; omega) ?_
        rfl
/- F18 -/
theorem well_ints {prog : Program} {w : World} {φ : Fz} {P : Params} {h : Heap} : ∀ {xs : List Int} {vs : List Value}, WellAll P h vs (ofPys (xs.map PyData.int)) → RepAll prog w φ vs (xs.map .int)
  | [], vs, W => by cases W; exact .nil
  | x :: xs, vs, W => by
    have W' : WellAll P h vs (.int x :: ofPys (xs.map PyData.int)) := W
    cases W' with
    | cons a r => cases a; exact .cons (.int _ _) (well_ints r)
theorem law_enter {prog : Program} {w : World} {A : Around} {name lname : Str} {L fa : Addr} {cd : Value} {s₁ : Shared} {h₁ : Heap} {tk : Nat} {mv : Str → Option Value} {l : Addr} {xs : List Int} {p : Program} {loose : List Str} {mg mb : Str → Option Value} {a1 a2 a3 : Addr} {o1 o2 o3 : Obj}
    {lq : Str} {params : Arguments} {body : List Stmt} {scope : Scope} {dV kV doc pm cdv ct oc : Value} {an od : Option Addr} {osl : Array (Option Value)} {Q : Flow → Shared → Prop} {E : Value → Shared → Prop}
    (hA : AOk (A.deeper (envOfC name scope L fa cd)) 9) (KX : (t0.heap_1_1 w.params).In s₁.heap) (T : TopRead p loose mg mb s₁.heap) (W : Well w.params s₁.heap (.ref l) (ofPy (PyData.list (xs.map PyData.int)))) (hlen : xs.length ≤ 63) (F : Fr s₁.heap L h₁ mv)
    (N : News s₁.heap L h₁ [(a3, o3), (a2, o2), (a1, o1)]) (d3 : o3.data = .cell none) (d2 : o2.data = .cell none) (d1 : o1.data = .cell none) (e3 : a3 = L + 1 + 1 + 1) (e2 : a2 = L + 1 + 1) (e1 : a1 = L + 1) (hmv : mv "script" = some (.ref l))
    (ho : (t0.heap_1_1 w.params).lookup 439 = some ⟨oc, od, .func (fnOf lname lq params body scope dV kV doc pm an cdv ct), osl⟩) (hchk : fnChk scope ["script"] lawNs ["plain", "uids", "box"] lawGs = true) (hcl : ∀ k, cellsFrom k scope.names [] = ([("plain", k + 1 + 1), ("uids", k + 1), ("box", k)] : List (Str × Addr)))
    (fin : ∀ s', (∀ b o, s₁.heap.get? b = some o → s'.heap.get? b = some o) → s'.os = s₁.os → s'.gens = s₁.gens → Q (.ret (.bool true)) s') :
    wpAny (model prog w) (A.deeper (envOfC name scope L fa cd)) (execs body (envOfC name scope L fa cd)) Q E { heap := h₁, gens := s₁.gens, drawn := s₁.drawn, toks := tk, os := s₁.os } := by
  subst e3 e2 e1
  generalize henv : envOfC name scope L fa cd = env at *
  have eS : env.scope = scope := by subst henv; rfl
  have eL : env.locals = L := by subst henv; rfl
  have eC : env.cells = ([("plain", L + 1 + 1 + 1), ("uids", L + 1 + 1), ("box", L + 1)] : List (Str × Addr)) := by subst henv; exact hcl (L + 1)
  simp only [fnChk, Bool.and_eq_true, decide_eq_true_eq, List.all_eq_true, Bool.not_eq_true', Bool.or_eq_true, beq_iff_eq] at hchk
  obtain ⟨⟨⟨⟨⟨⟨⟨⟨⟨⟨⟨hps, hnsd⟩, hsn⟩, hnl⟩, hcc⟩, hgs⟩, hpc⟩, hdb⟩, hcn⟩, hk⟩, hco⟩, hgen⟩ := hchk
  let c : Cx := ⟨prog, w, t0.heap_1_1 w.params, A.deeper env, L, lawNs⟩
  have Ev : EnvOk c env := ⟨eL, by rw [eS]; exact hk, by subst henv; rfl, by subst henv; rfl, by rw [eS]; exact hsn, fun y hy => by rw [eS]; exact hnl y hy, fun p hp => by rw [eS] at hp; exact (hdb p hp).1⟩
  have hg : GN env lawGs := ⟨fun x hx => by rw [eS]; exact hgs x hx⟩
  have hc : CS env [("plain", L + 1 + 1 + 1), ("uids", L + 1 + 1), ("box", L + 1)] := ⟨fun p hp => by
    refine ⟨?_, ?_⟩
    · rw [eS]; refine hcc _ ?_
      simp only [List.mem_cons, List.not_mem_nil, or_false] at hp
      rcases hp with rfl | rfl | rfl <;> simp
    · rw [eC]; exact lookup_of_nodup (by show (["plain", "uids", "box"] : List Str).Nodup; decide +kernel) hp⟩
  have hL0 : s₁.heap.get? L = none := by
    cases q : s₁.heap.get? L with
    | none => rfl
    | some ob => exact absurd (Heap.lt_size q) (Nat.not_lt.mpr F.above)
  obtain ⟨g3, n3, f3⟩ := N (L + 1 + 1 + 1, o3) (by simp)
  obtain ⟨g2, n2, f2⟩ := N (L + 1 + 1, o2) (by simp)
  obtain ⟨g1, n1, f1⟩ := N (L + 1, o1) (by simp)
  dsimp only at g3 n3 f3 g2 n2 f2 g1 n1 f1
  have W' : Well w.params s₁.heap (.ref l) (.list (ofPys (xs.map PyData.int))) := W
  cases W' with
  | @list _ vs _ hv hws =>
  let φ : Fz := fun a o => s₁.heap.get? a = some o
  have hne : ∀ {a : Nat} {b : Nat}, a ≠ b → L + a ≠ L + b := fun h e => h (Nat.add_left_cancel e)
  have ok : Ok c φ [some (.lst (xs.map .int)), none, none, none, none, none, none, none, none, none, none, none, none, none, none, none] [(L + 1 + 1 + 1, .cell none), (L + 1 + 1, .cell none), (L + 1, .cell none)] h₁ := {
    nsd := hnsd
    ns := ⟨mv, F.ns, fun i x d hx hd' => by
      match i, hx, hd' with
      | 0, hx, hd' =>
        have ex : x = "script" := by have h := hx.symm; exact Option.some.inj h
        have ed : d = .lst (xs.map .int) := by simpa using hd'.symm
        subst ex; subst ed
        exact ⟨.ref l, hmv, .lst (n := 0) hv (well_ints hws)⟩
      | k + 1, hx, hd' =>
        exfalso
        rw [List.getElem?_cons_succ] at hd'
        have := List.mem_of_getElem? hd'
        simp at this⟩
    fz := fun a o e => F.keep a o e
    fzL := fun a o e q => by rw [q] at e; exact nomatch (hL0.symm.trans e)
    fzN := fun a o e p hp q => by
      simp only [List.mem_cons, List.not_mem_nil, or_false] at hp
      rcases hp with rfl | rfl | rfl
      · rw [show L + 1 + 1 + 1 = a from q] at f3; exact nomatch (f3.symm.trans e)
      · rw [show L + 1 + 1 = a from q] at f2; exact nomatch (f2.symm.trans e)
      · rw [show L + 1 = a from q] at f1; exact nomatch (f1.symm.trans e)
    lg := fun p hp => by
      simp only [List.mem_cons, List.not_mem_nil, or_false] at hp
      rcases hp with rfl | rfl | rfl
      · exact ⟨n3, o3, g3, .cell0 d3⟩
      · exact ⟨n2, o2, g2, .cell0 d2⟩
      · exact ⟨n1, o1, g1, .cell0 d1⟩
    nd := by
      simp only [List.map_cons, List.map_nil, List.nodup_cons, List.mem_cons, List.not_mem_nil, or_false, not_or, not_false_eq_true, List.nodup_nil, and_true]
      refine ⟨⟨fun e => ?_, fun e => ?_⟩, fun e => ?_⟩
      · exact absurd e (Nat.ne_of_gt (Nat.lt_succ_self _))
      · exact absurd e (Nat.ne_of_gt (Nat.lt_succ_of_lt (Nat.lt_succ_self _)))
      · exact absurd e (Nat.ne_of_gt (Nat.lt_succ_self _))
    gd := ⟨s₁.heap, p, loose, mg, mb, fun a o e => e, KX, T⟩ }
  have hw := law_walk (c := c) rfl (A' := A.deeper env) (L' := L) (env := env) hA ho Ev hg hc hlen
  refine (hw φ).use (s := { heap := h₁, gens := s₁.gens, drawn := s₁.drawn, toks := tk, os := s₁.os }) ok fun f fd h' tk' φ' m' ν' o' st rf q => ?_
  subst q
  cases rf with
  | ret r =>
    cases r
    exact fin _ (fun b o e => o'.fz b o (st.mono b o e)) rfl rfl

/- F19 -/
theorem good_true {cw : ClaimW} {cl : Str → Option Addr} {mean : ExcName → Option Value} {args : List WData} {s₁ s' : Shared} (hr : ∀ cls, cw.raises args cls = false) (hp : cw.post args (.bool true) args = true) (hk : ∀ b o, s₁.heap.get? b = some o → s'.heap.get? b = some o) (ho : s'.os = s₁.os) (hg : s'.gens = #[]) :
    GoodW cw cl mean args s₁ (.ok (.ret (.bool true))) s' := ⟨.inl ⟨_, .bool true, [], rfl, hr, .bool _, hp, fun _ => ⟨List.nodup_nil, fun a h => nomatch h⟩⟩, hk, ho, hg⟩
end Mine
set_option Elab.async true
theorem Mine.t1 : PySem.Challenge.rw_nz0312_01.Holds := by
  w_on; o_law; k_head; (case hw => w_witness2)
  k_go0
  refine' Mine.law_enter ?zz_hA ?zz_KX (topRead_of ?zz_T) ?zz_W ?zz_hlen ?zz_F ?zz_N ?zz_d3 ?zz_d2 ?zz_d1 rfl rfl rfl ?zz_hmv ?zz_ho ?zz_hchk ?zz_hcl ?zz_fin
  case zz_KX => exact (show (Mine.t0.heap_1_1 _).In _ from by assumption)
  case zz_T => assumption
  case zz_F => assumption
  case zz_N => assumption
  case zz_W => assumption
  case zz_hlen => omega
  case zz_hmv => rfl
  case zz_d3 => assumption
  case zz_d2 => assumption
  case zz_d1 => assumption
  case zz_ho => k_is
  case zz_hchk => decide +kernel
  case zz_hcl => intro k; rfl
  case zz_hA => exact Mine.AOk.deeper (show Mine.AOk callerA 10 from ⟨rfl, by decide +kernel, by decide +kernel⟩)
  case zz_fin =>
    intro s' hk ho hg
    refine Mine.good_true ?_ ?_ hk ho (hg.trans (by assumption))
    · intro cls; rfl
    · first | with_unfolding_all rfl | wrow_post
theorem PySem.Challenge.cw_nz0312_01_holds : PySem.Challenge.rw_nz0312_01.Holds := by
  exact Mine.t1
