import PyProof.Rows.All
import Wide.All
import OpenK.AllK
import Wide.FinOn
import Lean
import PySem.Challenge.RW_nu0133_01
open PySem PySem.W PyProof.Rows PySem.Spec PySem.Calls
set_option Elab.async false
set_option linter.all false
set_option maxRecDepth 100000
set_option maxHeartbeats 8000000
set_option genInjectivity false
set_option genSizeOf false
set_option genSizeOfSpec false
set_option genCtorIdx false
namespace Mine
def rx : OpenRow := { PySem.Challenge.rw_nu0133_01.row with args := [.int], pre := .lit (.bool true), post := .lit (.bool true), raises := [(.builtin "TypeError", .lit (.bool true))] }
theorem raisedN_flying {base h : Heap} {e : Addr} {cls : Value} {news : List (Addr × Obj)} (R : RaisedN base [] e cls news h) : Heap.Flying base [] e cls h := by
  obtain ⟨B, a0, k, -, x⟩ := R
  exact (flyingW_base k x).flying
theorem notI : typeLookup (.type "int") (Str.ofString "__len__") = pure none := by rw [typeLookup_type, builtinLookup_eq_fast]; kernel_rfl
theorem len_int_no {prog : Program} {w : World} {A : Around} {E : Value → Shared → Prop} {s : Shared} {i : Int} {t : Tok} {Q : Value → Shared → Prop} (hh : A.handled = none) (h : ∀ h' tk e, Heap.NewExc s.heap h' e "TypeError" → E (.ref e) { s with heap := h', toks := tk }) :
    wpAny (model prog w) A (call (.builtin "len") [.int i t]) Q E s := by
  refine Calls.call_function_entry kind_len plain_len entry_len (args_len1 _) ?_
  unfold Builtin.«len»
  refine wpAny_bind (m := oneArg "len" _) (wpAny_pure ?_)
  refine wpAny_bind (m := callSpecial? _ (Str.ofString "__len__")) (wpAny_callSpecial?_none (name := Str.ofString "__len__") (typeIs_int s i t) notI ?_)
  show wpAny _ _ (do
      rule "len.no-len"
      let x ← PySem.typeNameOf (Value.int i t)
      raiseErrorMade "TypeError" (toString "object of type '" ++ toString x ++ toString "' has no len()")) _ _ _
  refine wpAny_bind (wpAny_rule ?_)
  refine wpAny_bind (wpAny_typeNameOf_int ?_)
  exact wpAny_raiseTypeError hh h
theorem t1.tw14931232751893064950 : True := trivial
theorem t1.tw5895130000804357911 : True := trivial
theorem t1.tw7792043868674818013 : True := trivial
theorem t1.tw12459200238448540552 : True := trivial
theorem t1.tw16137390365285488686 : True := trivial
theorem t1.tw522641701670059501 : True := trivial
theorem t1.tw11035020170535773524 : True := trivial
theorem t1.tw6685946522553857358 : True := trivial
theorem t1.tw16051133376068610525 : True := trivial
theorem t1.tw10569822122790718955 : True := trivial
theorem t1.tw10694363740544384319 : True := trivial
theorem t1.tw6308332643104250543 : True := trivial
theorem t1.tw171079423516532066 : True := trivial
theorem t1.tw18381289069704234213 : True := trivial
theorem t1.tw5456390076364422962 : True := trivial
theorem t1.tw16178668342170241206 : True := trivial
theorem t1.tw17610133385771937739 : True := trivial
theorem t1.tw14108407972599469330 : True := trivial
theorem t1.tw17773345013633300163 : True := trivial
theorem t1.tw6608391443954064361 : True := trivial
theorem t1.tw12918768512746736669 : True := trivial
theorem t1.tw13085250131558346646 : True := trivial
theorem t1.tw3660839577246564934 : True := trivial
theorem t1.tw7106715062020662371 : True := trivial
theorem t1.tw1257423539049232887 : True := trivial
theorem t1.tw9459319160984925554 : True := trivial
theorem t1.tw13016914245957783719 : True := trivial
theorem t1.tw14135624328716900262 : True := trivial
theorem t1.tw12116470621053844630 : True := trivial
theorem t1.tw2823953845708922003 : True := trivial
theorem t1.tw12117763015049296620 : True := trivial
theorem t1.tw11675302453461115885 : True := trivial
theorem t1.tw14669725902358280348 : True := trivial
theorem t1.tw4030184811230525018 : True := trivial
theorem t1.tw14942187266470957982 : True := trivial
theorem t1.tw17306755020789112836 : True := trivial
theorem t1.tw16341410737004735624 : True := trivial
theorem t1.tw6326377241614161244 : True := trivial
theorem t1.tw1546196352219620137 : True := trivial
theorem t1.tw14499738341685030527 : True := trivial
theorem t1.tw769511141314966021 : True := trivial
theorem t1.tw8148409057135996198 : True := trivial
theorem t1.tw5676845993549014550 : True := trivial
theorem t1.tw7057625645665460989 : True := trivial
theorem t1.tw13296044487182134141 : True := trivial
theorem t1.tw13835623096819966750 : True := trivial
theorem t1.tw260008832654834610 : True := trivial
theorem t1.tw4233852410472912943 : True := trivial
theorem t1.tw4128452231370569018 : True := trivial
theorem t1.tw9902603627824721744 : True := trivial
theorem t1.tw1188113136878490899 : True := trivial
theorem t1.tw1694674627926785640 : True := trivial
theorem t1.tw3924779785879003219 : True := trivial
theorem t1.tw13599545009923146187 : True := trivial
theorem t1.tw10079291008966793812 : True := trivial
theorem t1.tw15120266449277332130 : True := trivial
theorem t1.tw663979791153597298 : True := trivial
theorem t1.tw7782264060586385607 : True := trivial
theorem t1.tw4572178566919866046 : True := trivial
theorem t1.tw1902615100776101550 : True := trivial
theorem t1.tw10703671680039771496 : True := trivial
theorem t1.tw14836084899694964779 : True := trivial
theorem t1.tw15898967422282069274 : True := trivial
theorem t1.tw7702658561470687203 : True := trivial
theorem t1.tw1965287468386651850 : True := trivial
theorem t1.tw10514663548596021645 : True := trivial
theorem t1.tw9440813786914767077 : True := trivial
theorem t1.tw15853818623486732760 : True := trivial
theorem t1.tw12413221814623981865 : True := trivial
theorem t1.tw11204404729285085151 : True := trivial
theorem t1.tw6720204139837582532 : True := trivial
theorem t1.tw4136182705078197827 : True := trivial
theorem t1.tw9626166958257003217 : True := trivial
theorem t1.tw333344195990421893 : True := trivial
theorem t1.tw1067081923063985204 : True := trivial
theorem t1.tw13731415288159455994 : True := trivial
theorem t1.tw10806423262628446863 : True := trivial
theorem t1.tw1976634987976180395 : True := trivial
theorem t1.tw8439011981217050729 : True := trivial
theorem t1.tw10376777608271369382 : True := trivial
theorem t1.tw557520450952274887 : True := trivial
theorem t1.tw4000719958150937033 : True := trivial
theorem t1.tw87337026608472373 : True := trivial
theorem t1.tw11639739781114399117 : True := trivial
theorem t1.tw6746217712427163158 : True := trivial
theorem t1.tw1175009796084442154 : True := trivial
theorem t1.tw4154182018714895544 : True := trivial
theorem t1.tw13011592076541912409 : True := trivial
theorem t1.tw13052537035746660633 : True := trivial
theorem t1.tw16224377188438681987 : True := trivial
theorem t1.tw16572119776922708357 : True := trivial
theorem t1.tw17566993723385506009 : True := trivial
theorem t1.tw528087582262596229 : True := trivial
theorem t1.tw11422799057377361509 : True := trivial
theorem t1.tw14192638330358881332 : True := trivial
theorem t1.tw2590246308702276571 : True := trivial
theorem t1.tw1244402573669395874 : True := trivial
theorem t1.tw12428554482324332961 : True := trivial
theorem t1.tw843357067276851140 : True := trivial
theorem t1.tw4223180989500588102 : True := trivial
theorem t1.tw17943080699685093003 : True := trivial
theorem t1.tw3949300745732318847 : True := trivial
theorem t1.tw15707340390773473534 : True := trivial
theorem t1.tw8201986415377028998 : True := trivial
theorem t1.tw16669613380365210671 : True := trivial
theorem t1.tw5548901494332153812 : True := trivial
theorem t1.tw10696588207690379264 : True := trivial
theorem t1.tw11948587772558819041 : True := trivial
theorem t1.tw5405199377609075367 : True := trivial
theorem t1.tw10942216097225011472 : True := trivial
theorem t1.tw17595531551050841529 : True := trivial
theorem t1.tw3571615884583466572 : True := trivial
theorem t1.tw8342622235378687959 : True := trivial
theorem t1.tw14393466113507986825 : True := trivial
theorem t1.tw12891061784360191137 : True := trivial
theorem t1.tw17257274136078505964 : True := trivial
theorem t1.tw2662957238287506442 : True := trivial
theorem t1.tw3380971352297466649 : True := trivial
theorem t1.tw5342536943218224594 : True := trivial
theorem t1.tw15991845943015503888 : True := trivial
theorem t1.tw11037732166080362817 : True := trivial
theorem t1.tw11639909294029234935 : True := trivial
theorem t1.tw15334044638153401294 : True := trivial
theorem t1.tw12973403227508360322 : True := trivial
theorem t1.tw10260142444006004129 : True := trivial
theorem t1.tw4954492438978560337 : True := trivial
theorem t1.tw1953474771474190874 : True := trivial
theorem t1.tw1844168666776599447 : True := trivial
theorem t1.tw3779868261007764347 : True := trivial
theorem t1.tw3874955018587244590 : True := trivial
theorem t1.tw11575886615930378591 : True := trivial
theorem t1.tw126096141029943380 : True := trivial
theorem t1.tw12432021633162945181 : True := trivial
theorem t1.tw7315920757183088948 : True := trivial
theorem t1.tw10745350403765558352 : True := trivial
theorem t1.tw6437994359056862957 : True := trivial
theorem t1.tw17825337664462201446 : True := trivial
theorem t1.tw17262837925213209679 : True := trivial
theorem t1.tw16926772290504072403 : True := trivial
theorem t1.tw18085279480015190705 : True := trivial
theorem t1.tw16431622025020931879 : True := trivial
theorem t1.tw11005161663892778021 : True := trivial
theorem t1.tw12960904073792995847 : True := trivial
theorem t1.tw5228869211135476918 : True := trivial
theorem t1.tw6512566711475917655 : True := trivial
theorem t1.tw5995708139065980622 : True := trivial
theorem t1.tw5232078158935546371 : True := trivial
theorem t1.tw1244765999222064185 : True := trivial
theorem t1.tw8080652529247687833 : True := trivial
theorem t1.tw13008225156986884441 : True := trivial
theorem t1.tw12129650572342228894 : True := trivial
theorem t1.tw493197438768339950 : True := trivial
theorem t1.tw2310380078143690773 : True := trivial
theorem t1.tw1124527495174880480 : True := trivial
theorem t1.tw898537441731837599 : True := trivial
theorem t1.tw5674390797629678532 : True := trivial
theorem t1.tw4171711274798427121 : True := trivial
theorem t1.tw13111125443531188696 : True := trivial
theorem t1.tw5772526114155515729 : True := trivial
theorem t1.tw1622869443025123918 : True := trivial
theorem t1.tw6349671306009105194 : True := trivial
theorem t1.tw16494702992444011340 : True := trivial
theorem t1.tw696016093718730979 : True := trivial
theorem t1.tw1718395555931995730 : True := trivial
theorem t1.tw7815777374580856054 : True := trivial
theorem t1.tw4252806823779274161 : True := trivial
theorem t1.tw15057718620287370157 : True := trivial
theorem t1.tw13748885052013866427 : True := trivial
theorem t1.tw4224448755057909512 : True := trivial
theorem t1.tw14176798534309909583 : True := trivial
theorem t1.tw4222967931092710217 : True := trivial
theorem t1.tw3535880550727890993 : True := trivial
theorem t1.tw8324995517801759265 : True := trivial
theorem t1.tw4796029875076827236 : True := trivial
theorem t1.tw14379212303355303346 : True := trivial
theorem t1.tw3670088902403903104 : True := trivial
theorem t1.tw4282119185148798394 : True := trivial
theorem t1.tw8968352604379999563 : True := trivial
theorem t1.tw7804847713313960389 : True := trivial
theorem t1.tw137131363507045095 : True := trivial
theorem t1.tw5507696568507824679 : True := trivial
theorem t1.tw10888185654459447832 : True := trivial
theorem t1.tw18348747199838816896 : True := trivial
theorem t1.tw2499489111163179865 : True := trivial
theorem t1.tw10393564111929500843 : True := trivial
theorem t1.tw848014938914761764 : True := trivial
theorem t1.tw2873021153758221737 : True := trivial
theorem t1.tw3402803642209682337 : True := trivial
theorem t1.tw17614617401417318003 : True := trivial
theorem t1.tw17906151647735730840 : True := trivial
theorem t1.tw2406679259160619020 : True := trivial
theorem t1.tw18076103899990237720 : True := trivial
theorem t1.tw6243980586408195755 : True := trivial
theorem t1.tw1357906661135769813 : True := trivial
theorem t1.tw9245390145949067437 : True := trivial
theorem t1.tw11661809597093414981 : True := trivial
theorem t1.tw6984836563060623780 : True := trivial
theorem t1.tw4536426187849231947 : True := trivial
theorem t1.tw13173013626274595613 : True := trivial
theorem t1.tw8322920867729808715 : True := trivial
theorem t1.tw3327188503389961160 : True := trivial
theorem t1.tw7590477077493205530 : True := trivial
theorem t1.tw15986602338649620339 : True := trivial
theorem t1.tw18192133646114387605 : True := trivial
theorem t1.tw10250481025123488024 : True := trivial
theorem t1.tw10047388546913821365 : True := trivial
theorem t1.tw8879676996487733489 : True := trivial
theorem t1.tw14340704743675565205 : True := trivial
theorem t1.tw8835351127566478130 : True := trivial
theorem t1.tw6407593232778176494 : True := trivial
theorem t1.tw13883300517404190371 : True := trivial
theorem t1.tw12909404331699273921 : True := trivial
theorem t1.tw13970780361184924040 : True := trivial
theorem t1.tw9657320626960764341 : True := trivial
theorem t1.tw9338007212915023580 : True := trivial
theorem t1.tw16569682331278690361 : True := trivial
theorem t1.tw11528244150288693790 : True := trivial
theorem t1.tw1573545354540511792 : True := trivial
theorem t1.tw10617280211210655476 : True := trivial
theorem t1.tw3682043009588096110 : True := trivial
theorem t1.tw9652795434734756194 : True := trivial
theorem t1.tw12526042295582480816 : True := trivial
theorem t1.tw10988743913046341605 : True := trivial
theorem t1.tw11253863190358156521 : True := trivial
theorem t1.tw10340736289216705601 : True := trivial
theorem t1.tw6416582238055701956 : True := trivial
theorem t1.tw808108982535446944 : True := trivial
theorem t1.tw13864588770640244043 : True := trivial
theorem t1.tw6756466153126139993 : True := trivial
theorem t1.tw6101668466266534175 : True := trivial
theorem t1.tw11900450522295180511 : True := trivial
theorem t1.tw3950606145323476630 : True := trivial
theorem t1.tw16125962979373314473 : True := trivial
theorem t1.tw6383207904092049395 : True := trivial
theorem t1.tw7044489683619812185 : True := trivial
theorem t1.tw6908260525197465405 : True := trivial
theorem t1.tw6165379711428717902 : True := trivial
theorem t1.tw2058530320195653909 : True := trivial
theorem t1.tw13157638967311111084 : True := trivial
theorem t1.tw14414252346819036795 : True := trivial
theorem t1.tw7255086317565993204 : True := trivial
theorem t1.tw12813170032982327536 : True := trivial
theorem t1.tw17453283974132479778 : True := trivial
theorem t1.tw5993670111939886483 : True := trivial
theorem t1.tw7172757085466584978 : True := trivial
theorem t1.tw13188810392053503896 : True := trivial
theorem t1.tw4111774540070554638 : True := trivial
theorem t1.tw7554931734461935588 : True := trivial
theorem t1.tw453813883508820558 : True := trivial
theorem t1.tw16701646195531290696 : True := trivial
theorem t1.tw4302956120471275958 : True := trivial
theorem t1.tw8295105910704068570 : True := trivial
theorem t1.tw6805297381145218686 : True := trivial
theorem t1.tw5355191721082109472 : True := trivial
theorem t1.tw7445893568731660468 : True := trivial
theorem t1.tw3244436445366258880 : True := trivial
theorem t1.tw9191048702549609394 : True := trivial
theorem t1.tw17843965400442456087 : True := trivial
theorem t1.tw18332465943524792544 : True := trivial
theorem t1.tw4143567402407517743 : True := trivial
theorem t1.tw16838593931909724948 : True := trivial
theorem t1.tw15149142381061463240 : True := trivial
theorem t1.tw16436990786748385150 : True := trivial
theorem t1.tw16515256036957226028 : True := trivial
theorem t1.tw12329703387224526340 : True := trivial
theorem t1.tw14984564454313699637 : True := trivial
theorem t1.tw241512822283653682 : True := trivial
theorem t1.tw17198187977895035556 : True := trivial
theorem t1.tw2818210057044459649 : True := trivial
theorem t1.tw403798258649173670 : True := trivial
theorem t1.tw1621477296289614543 : True := trivial
theorem t1.tw9436682596091337618 : True := trivial
theorem t1.tw15394158892064896747 : True := trivial
theorem t1.tw13407270463835942964 : True := trivial
theorem t1.tw1994004847665853020 : True := trivial
theorem t1.tw4812219968368994336 : True := trivial
theorem t1.tw5360661630728911176 : True := trivial
theorem t1.tw6839899573871660380 : True := trivial
theorem t1.tw8758175528895677745 : True := trivial
theorem t1.tw14497740063739262940 : True := trivial
theorem t1.tw5351822838291452370 : True := trivial
theorem t1.tw12824780136840111539 : True := trivial
theorem t1.tw11004019234638679112 : True := trivial
theorem t1.tw17841081131632433438 : True := trivial
theorem t1.tw17051107634651213138 : True := trivial
theorem t1.tw16527862370816479291 : True := trivial
theorem t1.tw5284327890547034044 : True := trivial
theorem t1.tw18390712646262625820 : True := trivial
theorem t1.tw17196887198227260271 : True := trivial
theorem t1.tw11486038844277219184 : True := trivial
theorem t1.tw9468935157749784736 : True := trivial
theorem t1.tw6040437321974211392 : True := trivial
theorem t1.tw14065865582110923470 : True := trivial
theorem t1.tw1787554184218120031 : True := trivial
theorem t1.tw15658055634692833716 : True := trivial
theorem t1.tw10492656404885313301 : True := trivial
theorem t1.tw3722415824024399043 : True := trivial
theorem t1.tw12978451115690021327 : True := trivial
theorem t1.tw10790199648860250940 : True := trivial
theorem t1.tw5236995895531214368 : True := trivial
theorem t1.tw6548402008103273670 : True := trivial
theorem t1.tw10469126676822722359 : True := trivial
theorem t1.tw7032899060125996284 : True := trivial
theorem t1.tw14007127494867042699 : True := trivial
theorem t1.tw5750640406697372962 : True := trivial
theorem t1.tw12592456356478793800 : True := trivial
theorem t1.tw16057593641378144798 : True := trivial
theorem t1.tw2419006676550164995 : True := trivial
theorem t1.tw13095666663902654135 : True := trivial
theorem t1.tw5227335658108902896 : True := trivial
theorem t1.tw6387864646475619498 : True := trivial
theorem t1.tw10626733328554269401 : True := trivial
theorem t1.tw14126035637448945182 : True := trivial
theorem t1.tw7131491748490803705 : True := trivial
theorem t1.tw12870421749276449524 : True := trivial
theorem t1.tw8070433079405558836 : True := trivial
theorem t1.tw1288169911994868025 : True := trivial
theorem t1.tw2114964078324635893 : True := trivial
theorem t1.tw13139602287854695806 : True := trivial
theorem t1.tw12852893223431015418 : True := trivial
theorem t1.tw7799067108937970908 : True := trivial
theorem t1.tw6602504841815042491 : True := trivial
theorem t1.tw5068834959427853634 : True := trivial
theorem t1.tw3972578487396082706 : True := trivial
theorem t1.tw9301587835675972454 : True := trivial
theorem t1.tw15064549207139655057 : True := trivial
theorem t1.tw12731012254588978692 : True := trivial
theorem t1.tw12342712790206720553 : True := trivial
theorem t1.tw4200335947731485774 : True := trivial
theorem t1.tw7124298978794725099 : True := trivial
theorem t1.tw15741853646936435993 : True := trivial
theorem t1.tw11823769477902581023 : True := trivial
theorem t1.tw12683697653404662577 : True := trivial
theorem t1.tw6762134621939636624 : True := trivial
theorem t1.tw15971765164784883454 : True := trivial
theorem t1.tw841271967983583437 : True := trivial
theorem t1.tw15126507446007531745 : True := trivial
theorem t1.tw11314621183947034934 : True := trivial
theorem t1.tw12094142719597073415 : True := trivial
theorem t1.tw2622682781992100790 : True := trivial
theorem t1.tw1400023888386416220 : True := trivial
theorem t1.tw1050524375074862379 : True := trivial
theorem t1.tw10342387782454109323 : True := trivial
theorem t1.tw10120557816226640789 : True := trivial
theorem t1.tw6235171737846759186 : True := trivial
theorem t1.tw12551523764096602032 : True := trivial
theorem t1.tw12517521702695634342 : True := trivial
theorem t1.tw11828181043836395177 : True := trivial
theorem t1.tw14209501629688473723 : True := trivial
theorem t1.tw10448220196987205063 : True := trivial
theorem t1.tw13083044174915406046 : True := trivial
theorem t1.tw6445259330517268657 : True := trivial
theorem t1.tw3447541455049536426 : True := trivial
theorem t1.tw2971437385360246200 : True := trivial
theorem t1.tw13927957101287282218 : True := trivial
theorem t1.tw5163024874860944173 : True := trivial
theorem t1.tw12007615251128448845 : True := trivial
theorem t1.tw4035921690307003451 : True := trivial
theorem t1.tw13564271564217653399 : True := trivial
theorem t1.tw8899945934532773282 : True := trivial
theorem t1.tw9263021403724418151 : True := trivial
theorem t1.tw10832986332668240355 : True := trivial
theorem t1.tw13200952679976163510 : True := trivial
theorem t1.tw2597994430284616058 : True := trivial
theorem t1.tw4892662247589430105 : True := trivial
theorem t1.tw13079674585615676275 : True := trivial
theorem t1.tw6423768597330161685 : True := trivial
theorem t1.tw12817661424051046208 : True := trivial
theorem t1.tw8948965288560320432 : True := trivial
theorem t1.tw8665681424371875792 : True := trivial
theorem t1.tw7124022524427255599 : True := trivial
theorem t1.tw2198267501377823260 : True := trivial
theorem t1.tw18431210544490455526 : True := trivial
theorem t1.tw5364435336839180723 : True := trivial
theorem t1.tw31790137869358400 : True := trivial
theorem t1.tw4007018063484094265 : True := trivial
theorem t1.tw14587439388288691895 : True := trivial
theorem t1.tw7897159294489809517 : True := trivial
theorem t1.tw3251787702437139376 : True := trivial
theorem t1.tw3450252482925742673 : True := trivial
theorem t1.tw6025451628814480154 : True := trivial
theorem t1.tw13277194951786849205 : True := trivial
theorem t1.tw647980484890074324 : True := trivial
theorem t1.tw7447305938332859418 : True := trivial
theorem t1.tw6065860955330982308 : True := trivial
theorem t1.tw4806104407418967028 : True := trivial
theorem t1.tw7493945659246378246 : True := trivial
theorem t1.tw9197415663814331021 : True := trivial
theorem t1.tw16105804962256533062 : True := trivial
theorem t1.tw14052332140127290259 : True := trivial
theorem t1.tw2692976358041536577 : True := trivial
theorem t1.tw7319204602857505404 : True := trivial
theorem t1.tw5365050082465109815 : True := trivial
theorem t1.tw4551008470036234265 : True := trivial
theorem t1.tw5702276910544350012 : True := trivial
theorem t1.tw10453687440949172279 : True := trivial
theorem t1.tw18405383796651338676 : True := trivial
theorem t1.tw9347231551904889089 : True := trivial
theorem t1.tw5946189957990452191 : True := trivial
theorem t1.tw12491268765904916663 : True := trivial
theorem t1.tw12636426310297402074 : True := trivial
theorem t1.tw694223999700774131 : True := trivial
theorem t1.tw1496459656619794076 : True := trivial
theorem t1.tw7538108930460237699 : True := trivial
theorem t1.tw6887824995185766663 : True := trivial
theorem t1.tw14478464804985787897 : True := trivial
theorem t1.tw12651032771625403279 : True := trivial
theorem t1.tw3854489625637211118 : True := trivial
theorem t1.tw12555610958060560750 : True := trivial
theorem t1.tw2371775486936096889 : True := trivial
theorem t1.tw1529766121011260469 : True := trivial
theorem t1.tw15047799355539612852 : True := trivial
theorem t1.tw18029530453448360735 : True := trivial
theorem t1.tw1457406959371923095 : True := trivial
theorem t1.tw2615704348140315770 : True := trivial
theorem t1.tw10639010548407258067 : True := trivial
theorem t1.tw7792590915028553544 : True := trivial
theorem t1.tw11220458315578523393 : True := trivial
theorem t1.tw12065969362703878395 : True := trivial
theorem t1.tw10153636538627898026 : True := trivial
theorem t1.tw14379318430429425326 : True := trivial
theorem t1.tw16671974591154744881 : True := trivial
theorem t1.tw956593816668359391 : True := trivial
theorem t1.tw16043900856099424214 : True := trivial
theorem t1.tw1579387120241818094 : True := trivial
theorem t1.tw8181237343867837768 : True := trivial
theorem t1.tw6154874660913225139 : True := trivial
theorem t1.tw12391134062628370798 : True := trivial
theorem t1.tw17363943144225631380 : True := trivial
theorem t1.tw16864447952018307237 : True := trivial
theorem t1.tw10179138945186876538 : True := trivial
theorem t1.tw14835040009798170560 : True := trivial
theorem t1.tw6174474150976123311 : True := trivial
theorem t1.tw8635313805138458316 : True := trivial
theorem t1.tw11637433068442967013 : True := trivial
theorem t1.tw9299561701215087632 : True := trivial
theorem t1.tw13645752748377110244 : True := trivial
theorem t1.tw14051573678351218011 : True := trivial
theorem t1.tw3861847282847452778 : True := trivial
theorem t1.tw9673355211145651355 : True := trivial
theorem t1.tw10583593943742127704 : True := trivial
theorem t1.tw15674919444029939634 : True := trivial
theorem t1.tw9100679327744733723 : True := trivial
theorem t1.tw59036101017540904 : True := trivial
theorem t1.tw16100289418763633672 : True := trivial
theorem t1.tw13680180342802624973 : True := trivial
theorem t1.tw4516467589582632342 : True := trivial
theorem t1.tw2817863471037788937 : True := trivial
theorem t1.tw16811398302137015410 : True := trivial
theorem t1.tw4075993802594823505 : True := trivial
theorem t1.tw9515889942734122678 : True := trivial
theorem t1.tw4584000615716807228 : True := trivial
theorem t1.tw11398695628901397397 : True := trivial
theorem t1.tw16465224996189427777 : True := trivial
theorem t1.tw12189183828293512998 : True := trivial
theorem t1.tw10178025733516650500 : True := trivial
theorem t1.tw15003184989988206776 : True := trivial
theorem t1.tw14611142806681409200 : True := trivial
theorem t1.tw1794320998397695812 : True := trivial
theorem t1.tw2186969074711464764 : True := trivial
theorem t1.tw6310385976768952905 : True := trivial
theorem t1.tw17341453184250013069 : True := trivial
theorem t1.tw8115718564868627101 : True := trivial
theorem t1.tw1925790322876323001 : True := trivial
theorem t1.tw11674838353462620728 : True := trivial
theorem t1.tw11915132480836534954 : True := trivial
theorem t1.tw14051356279641177417 : True := trivial
theorem t1.tw13630505579555637477 : True := trivial
theorem t1.tw8928899986227327764 : True := trivial
theorem t1.tw8007472811350060066 : True := trivial
theorem t1.tw749949396825501769 : True := trivial
theorem t1.tw18115366490015711570 : True := trivial
theorem t1.tw15253451755753453660 : True := trivial
theorem t1.tw471813428925323077 : True := trivial
theorem t1.tw14084348416429243629 : True := trivial
theorem t1.tw3833955527147390387 : True := trivial
theorem t1.tw9809615362487100657 : True := trivial
theorem t1.tw13143111534698702469 : True := trivial
theorem t1.tw14228675719734811289 : True := trivial
theorem t1.tw13147238566717316362 : True := trivial
theorem t1.tw10371952108174712616 : True := trivial
theorem t1.tw12272401553794082124 : True := trivial
theorem t1.tw9014540491972087938 : True := trivial
theorem t1.tw4032464702690124120 : True := trivial
theorem t1.tw2334485481447605352 : True := trivial
theorem t1.tw6698901927215126132 : True := trivial
theorem t1.tw14748733766267883672 : True := trivial
theorem t1.tw1348923566039065417 : True := trivial
theorem t1.tw2484692837811529458 : True := trivial
theorem t1.tw11817877340884174575 : True := trivial
theorem t1.tw12358266376904955825 : True := trivial
theorem t1.tw11801675563431323738 : True := trivial
theorem t1.tw10567039939565245716 : True := trivial
theorem t1.tw1327062613111616949 : True := trivial
theorem t1.tw2452027036546114040 : True := trivial
theorem t1.tw7938117298792057037 : True := trivial
theorem t1.tw3385433295716695506 : True := trivial
theorem t1.tw1066437921595634322 : True := trivial
theorem t1.tw16103079204467404836 : True := trivial
theorem t1.tw17559613066013616438 : True := trivial
theorem t1.tw5699521165526164519 : True := trivial
theorem t1.tw17811806270279519351 : True := trivial
theorem t1.tw11573572643217833148 : True := trivial
theorem t1.tw15379597270203447968 : True := trivial
theorem t1.tw17614902896161789731 : True := trivial
theorem t1.tw1173033246259583978 : True := trivial
theorem t1.tw8281064517217529702 : True := trivial
theorem t1.tw13373129313050790403 : True := trivial
theorem t1.tw17955207211771781402 : True := trivial
theorem t1.tw14511884540440524270 : True := trivial
theorem t1.tw537308439346679618 : True := trivial
theorem t1.tw943332796642744930 : True := trivial
theorem t1.tw2431012193599579484 : True := trivial
theorem t1.tw8190814446026680384 : True := trivial
theorem t1.tw2064124722952013706 : True := trivial
theorem t1.tw12199302295317293803 : True := trivial
theorem t1.tw8010778404552369023 : True := trivial
theorem t1.tw16352572436449099933 : True := trivial
theorem t1.tw4478269977033540934 : True := trivial
theorem t1.tw12570173389233325484 : True := trivial
theorem t1.tw18441757420723667005 : True := trivial
theorem t1.tw6944389163489878065 : True := trivial
theorem t1.tw12409298389242397178 : True := trivial
theorem t1.tw6571287038682388676 : True := trivial
theorem t1.tw10940190208011668255 : True := trivial
theorem t1.tw11200157810146491653 : True := trivial
theorem t1.tw5820344881515262784 : True := trivial
theorem t1.tw11895665199685142358 : True := trivial
theorem t1.tw1551626083008615817 : True := trivial
theorem t1.tw15221696548176154759 : True := trivial
theorem t1.tw5820599203998381080 : True := trivial
theorem t1.tw18356987555939764829 : True := trivial
theorem t1.tw10781673379253364118 : True := trivial
theorem t1.tw6796684550764708275 : True := trivial
theorem t1.tw17570187625939568842 : True := trivial
theorem t1.tw1204443191528514727 : True := trivial
theorem t1.tw3237059761767345063 : True := trivial
theorem t1.tw7428278825193465684 : True := trivial
theorem t1.tw16975178902074558569 : True := trivial
theorem t1.tw8802549115983535986 : True := trivial
theorem t1.tw15641727318136157856 : True := trivial
theorem t1.tw16750733058130723004 : True := trivial
theorem t1.tw12933067095984772241 : True := trivial
theorem t1.tw2029526621045962579 : True := trivial
theorem t1.tw5629037748997720385 : True := trivial
theorem t1.tw3519206623964661845 : True := trivial
theorem t1.tw10518052826937809368 : True := trivial
theorem t1.tw4325606464235582622 : True := trivial
theorem t1.tw13681489177450724244 : True := trivial
theorem t1.tw1236517749000742953 : True := trivial
theorem t1.tw3648451244610263497 : True := trivial
theorem t1.tw13434459311549987057 : True := trivial
theorem t1.tw803652614047216888 : True := trivial
theorem t1.tw8738905254403672401 : True := trivial
theorem t1.tw13353301698596499 : True := trivial
theorem t1.tw7766145522124135318 : True := trivial
theorem t1.tw14858346225142393768 : True := trivial
theorem t1.tw2466496293233315196 : True := trivial
theorem t1.tw392065239265326972 : True := trivial
theorem t1.tw11484413192504540221 : True := trivial
theorem t1.tw6592241131309156321 : True := trivial
theorem t1.tw18006782866643093600 : True := trivial
theorem t1.tw2143022573129920150 : True := trivial
theorem t1.tw10484572152652671551 : True := trivial
theorem t1.tw6564875692217896315 : True := trivial
theorem t1.tw5087290453405123388 : True := trivial
theorem t1.tw15577479938983526338 : True := trivial
theorem t1.tw15704828576085333546 : True := trivial
theorem t1.tw15221566569329837425 : True := trivial
theorem t1.tw7963330740350552234 : True := trivial
theorem t1.tw17368642262897733346 : True := trivial
theorem t1.tw17247322553893932458 : True := trivial
theorem t1.tw15975164501048522100 : True := trivial
theorem t1.tw10780367826310228562 : True := trivial
theorem t1.tw2565411194337890867 : True := trivial
theorem t1.tw2706644140649356151 : True := trivial
theorem t1.tw10789570074429822182 : True := trivial
theorem t1.tw6397963688749387128 : True := trivial
theorem t1.tw15267075261991444685 : True := trivial
theorem t1.tw12652024433452814029 : True := trivial
theorem t1.tw12739913691808945975 : True := trivial
theorem t1.tw17429679497014357049 : True := trivial
theorem t1.tw982579011721692761 : True := trivial
theorem t1.tw17954863223256495217 : True := trivial
theorem t1.tw17866365904916371619 : True := trivial
theorem t1.tw7299562386156901649 : True := trivial
theorem t1.tw17876271494110804697 : True := trivial
theorem t1.tw13803656601362217928 : True := trivial
theorem t1.tw911226106663967625 : True := trivial
theorem t1.tw17984843756552225616 : True := trivial
theorem t1.tw7448253781454615926 : True := trivial
theorem t1.tw6763313979345767717 : True := trivial
theorem t1.tw10078379061890982601 : True := trivial
theorem t1.tw17079090956653517242 : True := trivial
set_option Elab.async true in
theorem t1 : rx.Holds := by
  k_head
  (case hw => w_witness2)
  set_option Elab.async false in
  w_strict (k_go0; (all_goals try k_fold); k_steps; refine len_int_no rfl fun h9 tk9 e9 ne9 => ?_; k_steps; w_end; (show GoodW _ _ _ _ _ (.error _) _); refine goodW_flying (raisedN_flying (by assumption)) (by assumption) ?_; wrow_raised)
noncomputable def as9 : List Nat := [2, 3, 15, 17, 18, 20, 21, 29, 30, 32, 33, 35, 36, 37, 39, 40, 42, 43, 44, 46, 47, 49, 50, 51, 53, 54, 56, 57, 58, 60, 61, 63, 64, 65, 67, 68, 70, 71, 72, 73, 74, 75, 76, 86, 88, 89, 91, 92, 93, 95, 96, 98, 99, 100, 102, 103, 105, 106, 107, 109, 110, 112, 113, 114, 116, 117, 119, 120, 121, 122, 123, 124, 125, 135, 137, 138, 140, 141, 142, 144, 145, 147, 148, 149, 151, 152, 154, 155, 156, 158, 159, 161, 162, 163, 166, 167, 168, 170, 171, 173, 174, 175, 176, 177, 178, 179, 182, 184, 185, 187, 188, 189, 191, 192, 194, 195, 196, 198, 199, 201, 202, 210, 211, 213, 214, 216, 217, 218, 220, 221, 223, 224, 225, 228, 229, 230, 232, 233, 235, 236, 237, 239, 240, 242, 243, 244, 246, 247, 249, 250, 251, 253, 254, 256, 257, 258, 259, 260, 261, 262, 265, 272, 274, 275, 277, 278, 279, 280, 281, 282, 285, 292, 293, 294, 297, 304, 305, 306, 309, 311, 312, 314, 315, 316, 318, 319, 321, 322, 323, 325, 326, 328, 329, 330, 332, 333, 335, 336, 337, 339, 340, 342, 343, 344, 346, 347, 349, 350, 351, 354, 355, 356, 358, 359, 361, 362, 363, 365, 366, 368, 369, 370, 372, 373, 375, 376, 377, 379, 380, 382, 383, 384, 386, 387, 389, 390, 391, 393, 394, 396, 397, 398, 400, 401, 403, 404, 405, 407, 408, 410, 411, 412, 414, 415, 417, 418, 419, 421, 422, 424, 425, 426, 429, 430, 431, 433, 434, 436, 437, 438, 441, 442, 443, 445, 446, 448, 449, 450, 453, 454, 455, 458, 459, 460, 463, 464, 465, 467, 468, 470, 471, 472, 475, 476]
theorem hook9 : ∀ P, as9 = (t1.heap_1_1 P).map (·.1) := fun _ => rfl
local macro_rules | `(tactic| walk_at $s:str) => `(tactic| k_extra $s)
local macro_rules | `(tactic| k_all) => `(tactic| k_extra "k_all")
local macro_rules | `(tactic| k_room) => `(tactic| k_extra "k_room")
local macro_rules | `(tactic| k_mem) => `(tactic| k_extra "k_mem")
local macro_rules | `(tactic| k_updF) => `(tactic| k_extra "k_updF")
local macro_rules | `(tactic| ktr_room) => `(tactic| k_extra "ktr_room")
local macro_rules | `(tactic| ktr_units) => `(tactic| k_extra "ktr_units")
theorem rowsAll : (t1.heap_1_1, PySem.Challenge.rw_nu0133_01) = (t1.heap_1_1, PySem.Challenge.rw_nu0133_01) := by
  k_fill
  k_with "k_all" => first | assumption | exact off_ne (by assumption) | exact und_ne (by assumption) | exact und_ne (und_of (by assumption)) | exact und_ne (und_trans (by assumption) (by omega))
  k_with "k_room" => ktr_room
  k_with "subscriptTail Name Constant ref int" => (k_here; k_dflt (refine' item_made (by k_asm) (by k_mem) (by decide) (by decide) (by exact rfl) ?_; k_whole))
  k_with "k_mem" => first | with_reducible assumption | (refine List.mem_cons_of_mem _ ?_; k_mem) | exact List.mem_cons_self
  k_with "und" => first | assumption | exact und_of (by assumption) | exact und_trans (by assumption) (by omega) | exact und_trans (und_of (by assumption)) (by omega) | (refine und_trans (und_of (by assumption)) ?_; (try dsimp only); omega)
  k_with "eval Name" => (k_here; (with_reducible show wpAny _ _ (eval (PySem.Expr.Name _ _) (compEnvC _ _ _ _)) _ _ _); k_dflt (first
  | (refine' cname (by k_asm) (by k_mem) (by assumption) (by exact rfl) ?_; k_whole)
  | (refine' nameG_K (by k_asm) (by k_asm) (by k_asm) (by k_is) ?_ rfl rfl rfl (by decide); k_whole)))
  k_with "eval ListComp" => (k_here; refine comp_rule (by with_unfolding_all rfl) rfl (by decide) ?_)
  k_with "ext" => first | assumption | exact Ext.rfl | (refine Ext.cons ?_; walk_at "ext")
  k_with "hdr" => first | assumption | exact HdrIs.mono (by assumption) (by walk_at "ext") | exact ⟨_, _, by k_mem, by k_mem⟩
  k_with "sub" => first | exact List.forall_mem_nil _ | exact List.forall_mem_cons.mpr ⟨by k_mem, by walk_at "sub"⟩ | (intro _ hp_q; repeat (first | exact hp_q | apply List.mem_cons_of_mem))
  k_with "off3" => first | assumption | exact trivial | (refine And.intro ⟨by k_ne, by k_ne, by k_ne⟩ ?_; walk_at "off3")
  k_with "eval Name" => (k_here; k_dflt (refine' PyProof.Rows.ld (by k_asm) (by first | exact rfl | assumption) ?_; k_whole))
  k_with "subscriptTail" => (k_here; (with_reducible show wpAny _ _ (subscriptTail _ (Expr.Slice _ _ none _) (Value.bytes _ _) (Value.ref _)) _ _ _); (with_reducible rename Fr _ _ _ _ => F_q); (with_reducible rename News _ _ _ _ => N_q); (refine KBc.slice_K (s := ⟨_, _, _, _, _⟩) F_q N_q rfl (by constructor) (by constructor) (by rw [KBw.ints_length]; first | omega | (simp only [List.size_toArray]; omega)) ?_); intro _ _ _ _ _ _; (try k_sweep))
  k_with "call builtin:list.append" => (k_here; k_dflt (refine' append_L (by k_asm) (by k_asm) (by k_upd) (by first | assumption | omega | (simp only [List.length_append, List.length_cons, List.length_nil]; omega)) ?_; k_whole); intro _ _ _; (try k_sweep))
  k_with "call builtin:len" => (k_here; (with_reducible show wpAny _ _ (call (Value.builtin "len") [Value.ref _]) _ _ _); k_dflt (refine' len_L (by k_asm) (by k_mem) (by first | assumption | omega) ?_; k_whole); intro _ _)
  k_with "subscriptTail" => (k_here; (with_reducible show wpAny _ _ (subscriptTail _ _ (Value.ref _) (Value.int _ _)) _ _ _); k_dflt (refine' item_L (by k_asm) (by k_mem) (by omega) (by omega) (by first | assumption | omega) ?_; k_whole); intro _ _)
  k_with "k_updF" => with_reducible assumption
  k_with "call type:range" => (k_here; (with_reducible show wpAny _ _ (call (Value.type "range") [Value.int _ _]) _ _ _); k_dflt (refine' range_made (by k_asm) (by k_asm) ?_; k_whole); intro _ _ _ _ _ _ _ _; (try k_sweep); (try dsimp only))
  k_with "storeName" => (k_here; k_dflt (refine' storeLet (by k_asm) (by k_asm) ?_ (by rfl) (by rfl); k_whole; intro _ _ _ _; (try k_sweep)))
  k_with "lg" => first | (apply lgN; k_asm; first | exact rfl | assumption) | exact lgI
  k_with "ags" => first | exact agN | (apply agC; walk_at "lg"; walk_at "ags")
  k_with "eval Call Name" => (k_dflt (first | (apply call_g; k_asm; k_asm; k_asm; k_is; k_is; walk_at "ags"; exact rfl) | (apply call_b; k_asm; k_asm; k_asm; k_is; exact rfl; decide; walk_at "ags")))
  k_with "ktr_room" => first | exact lt_room1 (by assumption) (by decide) | exact lt_room2 (by assumption) (by decide) | exact lt_room0 (by assumption) | exact lt_room3 (by assumption) (by decide)
  k_with "ktr_units" => first | exact lt_room1 (by assumption) (by decide) | exact lt_room2 (by assumption) (by decide) | exact lt_room0 (by assumption) | exact lt_room3 (by assumption) (by decide)
  k_with "lroom" => first | ktr_units | units_room | assumption
  k_with "nm" => first | with_reducible assumption | ((with_reducible show NM _ _ _ = some _); first | exact nm_at rfl | exact nm_base rfl (by k_extra "nm"))
  k_with "is" => with_reducible first | exact Is.mk | exact IsI.mk | exact IsY.mk | assumption
  k_with "cp" => first | exact cp_lt | exact cp_le | exact cp_gt | exact cp_ge | exact cp_eq | exact cp_ne | exact cp_is_nn | exact cp_is_in | exact cp_is_rn | exact cp_isn_nn | exact cp_isn_in | exact cp_isn_rn
  k_with "ev" => first | ((with_reducible show EvP _ _ _ _ _ (PySem.Expr.Name _ _) _); exact ev_name (by k_extra "nm") rfl (by k_extra "is")) | ((with_reducible show EvP _ _ _ _ _ (PySem.Expr.Name _ _) _); exact ev_glob (by assumption) (by k_is) rfl (by k_extra "is")) | ((with_reducible show EvP _ _ _ _ _ (PySem.Expr.Name _ _) _); exact ev_cellL (by with_reducible assumption) (by k_extra "mm") (by with_reducible assumption) rfl (by k_extra "is")) | (with_reducible exact ev_int) | (with_reducible exact ev_none) | (with_reducible exact ev_bool) | (with_reducible exact ev_bytes) | ((with_reducible show EvP _ _ _ _ _ (PySem.Expr.Subscript _ (PySem.Expr.Constant (PySem.Const.int _) _ _) _) _); first | exact ev_itemK (by k_extra "ev") (by k_extra "mm") (by exact rfl) (by k_extra "is") | exact ev_itemT (by k_extra "ev") (by k_extra "mm") (by exact rfl) (by k_extra "is")) | ((with_reducible show EvP _ _ _ _ _ (PySem.Expr.BinOp _ PySem.Operator.Mod _ _) _); exact ev_mod (by k_extra "ev") (by k_extra "ev") (by decide)) | ((with_reducible show EvP _ _ _ _ _ (PySem.Expr.Attribute _ _ _) _); exact ev_attr (by assumption) (by k_extra "nm") rfl (by k_extra "mm") (by k_extra "mm") (by k_extra "attrin") (by k_extra "objat") (by k_extra "is")) | ((with_reducible show EvP _ _ _ _ _ (PySem.Expr.BinOp _ PySem.Operator.Add _ _) _); exact ev_add (by k_extra "ev") (by k_extra "ev")) | ((with_reducible show EvP _ _ _ _ _ (PySem.Expr.BinOp _ PySem.Operator.Sub _ _) _); exact ev_sub (by k_extra "ev") (by k_extra "ev")) | ((with_reducible show EvP _ _ _ _ _ (PySem.Expr.UnaryOp PySem.UnaryOp.USub _ _) _); exact ev_neg (by k_extra "ev")) | ((with_reducible show EvP _ _ _ _ _ (PySem.Expr.UnaryOp PySem.UnaryOp.Not _ _) _); exact ev_not (by k_extra "ev")) | ((with_reducible show EvP _ _ _ _ _ (PySem.Expr.Call (PySem.Expr.Name (PySem.Str.ofString "max") _) [_, _] [] _) _); exact ev_max (by assumption) (by k_extra "ev") (by k_extra "ev") rfl) | ((with_reducible show EvP _ _ _ _ _ (PySem.Expr.Call (PySem.Expr.Name (PySem.Str.ofString "min") _) [_, _] [] _) _); exact ev_min (by assumption) (by k_extra "ev") (by k_extra "ev") rfl) | ((with_reducible show EvP _ _ _ _ _ (PySem.Expr.Call (PySem.Expr.Name (PySem.Str.ofString "len") _) [_] [] _) _); exact ev_len (by assumption) (by k_extra "ev") rfl (by k_extra "bz")) | ((with_reducible show EvP _ _ _ _ _ (PySem.Expr.Subscript _ (PySem.Expr.Slice _ _ none _) _) _); exact ev_slice (by k_extra "ev") (by k_extra "evo") (by k_extra "evo") (by k_extra "bz"))
  k_with "evt" => first | ((with_reducible show EvT _ _ _ _ _ (PySem.Expr.Compare _ [_] [_] _) _); first | exact ev_cmp (P1 := IsI _) (P2 := IsI _) (by k_extra "ev") (by k_extra "ev") (by k_extra "cp") | exact ev_cmp (P1 := Is _) (P2 := Is _) (by k_extra "ev") (by k_extra "ev") (by k_extra "cp") | exact ev_cmp (P1 := IsY _) (P2 := IsY _) (by k_extra "ev") (by k_extra "ev") (by k_extra "cpy")) | ((with_reducible show EvT _ _ _ _ _ (PySem.Expr.BoolOp PySem.BoolOp.And [_, _] _) _); exact evt_and (by k_extra "evt") (fun _ => by k_extra "evt")) | ((with_reducible show EvT _ _ _ _ _ (PySem.Expr.BoolOp PySem.BoolOp.Or [_, _] _) _); exact evt_or (by k_extra "evt") (fun _ => by k_extra "evt")) | ((with_reducible show EvT _ _ _ _ _ (PySem.Expr.UnaryOp PySem.UnaryOp.Not _ _) _); exact evt_not (by k_extra "evt")) | exact ev_tb rfl (by k_extra "ev")
  k_with "cpy" => with_reducible first | exact cp_eqY | exact cp_neY
  k_with "sw" => with_reducible first | exact Sw.head | (apply Sw.tail; k_extra "sw") | (apply Sw.right; k_extra "sw") | (apply Sw.left; k_extra "sw")
  k_with "mm" => with_reducible first | assumption | exact mm1 _ _ _ | exact mm2 _ _ _ | exact mm3 _ _ _ | exact mm4 _ _ _ | exact mm5 _ _ _ | exact List.mem_cons_self | (apply List.mem_cons_of_mem; k_extra "mm") | (apply List.mem_append_right; k_extra "mm") | (apply List.mem_append_left; k_extra "mm")
  k_with "attrin" => with_reducible first | exact i123_rows | exact i123_most | exact i177_began | exact i177_size | exact i177_holes | exact i177_parts | exact i177_end | exact i177_ahead | exact i177_first | exact i177_most | exact i74_offset | exact i74_more | exact i74_options | exact i74_ident | exact i260_waiting | exact i260_most | exact i260_limit | exact i74_dont
  k_with "objat" => with_reducible first | exact ho_rows | exact ho_most | exact dg_began | exact dg_most | exact dg_holes | exact dg_parts | exact dg_ahead | exact dg_size | exact dg_end (by k_extra "hand") | exact dg_first (by k_extra "hand") | exact hd_offset | exact hd_more | exact hd_options | exact hd_ident | exact re_waiting | exact re_most | exact re_limit | exact hd_dont
  k_with "lz" => with_reducible first | assumption | exact lenS (by assumption)
  k_with "evo" => first | with_reducible exact evo_none | exact evo_some (by k_extra "ev")
  k_with "bz" => first | with_reducible assumption | exact Nat.le_trans (by with_reducible assumption) (by decide)
  k_with "hand" => first | with_reducible assumption | k_dflt (exact rfl)
  k_with "aft" => (intros; (try k_sweep); (try dsimp only); (try k_fold))
  k_with "sd" => first | k_asm | exact rfl | ktr_room | walk_at "hdr" | walk_at "ext" | k_mem | k_updF | decide | omega | (with_reducible intro _; walk_at "aft")
  k_with "call ref" => (k_here; plain_pass; refine stop_ ?_)
  exact rfl
section
noncomputable def nth? : List Value → Nat → Option Value
  | [], _ => none
  | x :: _, 0 => some x
  | _ :: r, n + 1 => nth? r n
theorem nth?_eq : ∀ (l : List Value) (n : Nat), nth? l n = l[n]?
  | [], _ => rfl
  | _ :: _, 0 => rfl
  | _ :: r, n + 1 => nth?_eq r n
section
variable {prog : Program} {w : World} {A : Around} {E : Value → Shared → Prop} {s : Shared} {h₀ : Heap} {L : Addr} {m : Str → Option Value} {news : List (Addr × Obj)}
theorem item_made {value slice : PySem.Expr} {l : Addr} {its : Array Value} {n : Nat} {k : Int} {u : Tok} {v : Value} {Q : Value → Shared → Prop}
    (N : News h₀ L s.heap news) (hm : (l, W.listOf its n) ∈ news) (h0 : 0 ≤ k) (hhi : k < 2 ^ 63) (hx : nth? its.toList k.toNat = some v) (h : Q v s)
    (hs : subscripted slice false (.ref l) (.int k u) = operate [.ref l, .int k u] (getItem (.ref l) (.int k u)) := by with_unfolding_all rfl) :
    wpAny (model prog w) A (subscriptTail value slice (.ref l) (.int k u)) Q E s :=
  have hl : s.heap.IsList l its := ⟨_, N.get hm, rfl, _, rfl⟩
  tail_any hl.typeIs slot_list_getitem.lookup (wpAny_getItem_list hl h0 hhi (by rw [nth?_eq] at hx; simpa using hx) h) hs
end
theorem newsSub {h₀ h : Heap} {L : Addr} {l l' : List (Addr × Obj)} (N : News h₀ L h l) (hs : ∀ p ∈ l', p ∈ l) : News h₀ L h l' := fun p hp => N p (hs p hp)
theorem upd_mem {d : Addr} {o o' : Obj} {l l' : List (Addr × Obj)} (U : Upd d o o' l l') : (d, o) ∈ l ∧ ∀ p ∈ l', p = (d, o') ∨ (p ∈ l ∧ p.1 ≠ d) := by
  induction U with
  | head hr =>
    refine ⟨.head _, fun p hp => ?_⟩
    rcases List.mem_cons.mp hp with rfl | hp
    · exact .inl rfl
    · exact .inr ⟨.tail _ hp, hr p hp⟩
  | tail hq _ ih =>
    refine ⟨.tail _ ih.1, fun p hp => ?_⟩
    rcases List.mem_cons.mp hp with rfl | hp
    · exact .inr ⟨.head _, hq⟩
    · rcases ih.2 p hp with rfl | ⟨h1, h2⟩
      · exact .inl rfl
      · exact .inr ⟨.tail _ h1, h2⟩
noncomputable def offL (d : Addr) (l : List (Addr × Obj)) : List (Addr × Obj) := l.filter fun p => decide (p.1 ≠ d)
theorem offL_ne {d : Addr} {l : List (Addr × Obj)} : ∀ p ∈ offL d l, p.1 ≠ d := fun p hp => by
  simpa [offL] using (List.mem_filter.mp hp).2
theorem newsFront {h₀ h : Heap} {L d : Addr} {o o' : Obj} {l l' : List (Addr × Obj)} (N : News h₀ L h l) (U : Upd d o o' l l') : News h₀ L h ((d, o) :: offL d l) :=
  newsSub N fun p hp => by
    rcases List.mem_cons.mp hp with rfl | hp
    · exact (upd_mem U).1
    · exact (List.mem_filter.mp hp).1
theorem newsBack {h₀ h : Heap} {L d : Addr} {o o' : Obj} {l l' : List (Addr × Obj)} (N : News h₀ L h ((d, o') :: offL d l)) (U : Upd d o o' l l') : News h₀ L h l' :=
  newsSub N fun p hp => by
    rcases (upd_mem U).2 p hp with rfl | ⟨h1, h2⟩
    · exact .head _
    · exact .tail _ (List.mem_filter.mpr ⟨h1, by simpa using h2⟩)
theorem fmod_lo {a b : Int} (hb : 0 < b) : 0 ≤ a.fmod b := Int.fmod_nonneg_of_pos a hb
theorem fmod_hi {a b : Int} (hb : 0 < b) : a.fmod b < b := Int.fmod_lt_of_pos a hb
theorem fdiv_lo {a b : Int} (ha : 0 ≤ a) (hb : 0 < b) : 0 ≤ a.fdiv b := Int.fdiv_nonneg ha (by omega)
noncomputable def SrcOk (x y : Int) : Prop := 0 ≤ x ∧ 0 ≤ y ∧ y < 2147483647
noncomputable def Und (d : Nat) (l : List (Addr × Obj)) : Prop := ∀ p ∈ l, @LT.lt Nat _ p.1 d
theorem und_of {d : Addr} {l : List (Addr × Obj)} (h : ∀ p ∈ l, p.1 < d) : Und d l := h
theorem und_ne {d : Addr} {l : List (Addr × Obj)} (h : Und d l) : ∀ p ∈ l, p.1 ≠ d := fun p hp e => Nat.lt_irrefl _ (e ▸ h p hp)
noncomputable def Off (d : Nat) (l : List (Addr × Obj)) : Prop := ∀ p ∈ l, @Ne Nat p.1 d
theorem off_cons {d : Nat} {p : Addr × Obj} {l : List (Addr × Obj)} : Off d (p :: l) ↔ @Ne Nat p.1 d ∧ Off d l := List.forall_mem_cons
section
variable {h₀ h : Heap} {L : Addr} {a b c d : Addr × Obj} {l : List (Addr × Obj)}
theorem newsDropT (N : News h₀ L h (a :: l)) : News h₀ L h l := newsSub N fun _ hp => .tail _ hp
end
section
variable {prog : Program} {w : World} {A : Around} {E : Value → Shared → Prop} {s : Shared}
theorem bytes_item {b : Array UInt8} {i k : Int} {t ui : Tok} {value slice : PySem.Expr} {Q : Value → Shared → Prop} (hfit : b.size ≤ 1099511627776) (h0 : 0 ≤ i) (h1 : i < (b.size : Int)) (e : (((b.toList.getD i.toNat 0).toNat : Nat) : Int) = k)
    (h : Q (.int k s.toks) { s with toks := s.toks + 1 })
    (hs : ∀ b : Array UInt8, subscripted slice false (.bytes b t) (.int i ui) = operate [.bytes b t, .int i ui] (getItem (.bytes b t) (.int i ui)) := by intro _; with_unfolding_all rfl)
    (ht : ∀ (b : Array UInt8) r, letTemporaryGo value (.bytes b t) r = pure () := by intro _ _; with_unfolding_all rfl) : wpAny (model prog w) A (subscriptTail value slice (.bytes b t) (.int i ui)) Q E s := by
  obtain ⟨x⟩ := b
  exact bytes_item_K (x := x) (by simpa using hfit) h0 (by simpa using h1) e h (hs _) (ht _)
end
theorem one_item {x v : Value} {i : Nat} (h : (#[x] : Array Value)[i]? = some v) : i = 0 ∧ v = x := by
  cases i with
  | zero => exact ⟨rfl, by simpa using h.symm⟩
  | succ n => simp at h
section
variable {M : Model} {A : Around} {E : Value → Shared → Prop} {s : Shared} {h₀ : Heap} {L a : Addr} {m : Str → Option Value} {cn : Str} {cs : Scope} {ccd : Value} {cl : List (Str × Addr)} {x : Str} {v : Value} {Q : Unit → Shared → Prop} {news : List (Addr × Obj)}
end
section
variable {M : Model} {A : Around} {E : Value → Shared → Prop} {s : Shared} {env : Env} {st : Stmt} {rest : List Stmt} {Q Qt : Flow → Shared → Prop} {v : Value}
end
end
section
section
variable {M : Model} {A : Around} {E : Value → Shared → Prop} {s s₁ s' : Shared} {env : Env} {h₀ : Heap} {L a : Addr} {m : Str → Option Value} {cn : Str} {cs : Scope} {ccd : Value} {cl : List (Str × Addr)} {x : Str} {v : Value} {pos xp : Pos} {e : PySem.Expr} {es : List PySem.Expr} {vs : List Value} {Q : Value → Shared → Prop}
variable {K : Frag} {p : Program} {loose : List Str} {mean : ExcName → Option Value} {mg mb : Str → Option Value} {f : Value} {id : String}
end
end
section
open LCg
inductive TurnN (h₀ : Heap) (L it : Addr) (io : Obj) (J : (Str → Option Value) → List (Addr × Obj) → Prop) (s s' : Shared) : Prop
  | mk (m' : Str → Option Value) (nx : List (Addr × Obj)) (h' : Heap) (tk' : Nat) (e : s' = { s with heap := h', toks := tk' }) (F : Fr h₀ L h' m') (N : News h₀ L h' ((it, io) :: nx)) (off : Off it nx) (hJ : J m' nx)
inductive ForI (h₀ : Heap) (L it : Addr) (n : Nat) (St : Nat → Heap → Prop) (J : Nat → (Str → Option Value) → List (Addr × Obj) → Prop) (s : Shared) (k : Nat) (s' : Shared) : Prop
  | mk (i : Nat) (m' : Str → Option Value) (nx : List (Addr × Obj)) (h : Heap) (tk : Nat) (e : s' = { s with heap := h, toks := tk }) (hi : i ≤ n) (hk : k = n - i) (hS : St i h) (F : Fr h₀ L h m') (N : News h₀ L h nx) (off : Off it nx) (hJ : J i m' nx)
noncomputable def TurnEnd (h₀ : Heap) (L it : Addr) (io : Obj) (J : (Str → Option Value) → List (Addr × Obj) → Prop) (s : Shared) (Q : Flow → Shared → Prop) (f : Flow) (s' : Shared) : Prop :=
  match f with
  | .ret v => Q (.ret v) s'
  | .brk => Q .next s'
  | _ => TurnN h₀ L it io J s s'
noncomputable def ForAt (prog : Program) (w : World) (A : Around) (env : Env) (target : PySem.Expr) (body : List Stmt) (Q : Flow → Shared → Prop) (it : Value) (s : Shared) : Prop :=
  codeAny (model prog w) A (.forLoop target it body [] env) (fun r s' => match r with | .ok f => Q f s' | .error _ => False) s
section
variable {prog : Program} {w : World} {A : Around} {E : Value → Shared → Prop} {s : Shared} {env : Env} {h₀ : Heap} {L : Addr} {m : Str → Option Value} {news : List (Addr × Obj)} {target : PySem.Expr} {body : List Stmt}
theorem for_rule {iter : PySem.Expr} {pos : Pos} {Q : Flow → Shared → Prop}
    (h : wpAny (model prog w) A (eval iter env) (fun x s₁ => wpAny (model prog w) A (pyIter x) (ForAt prog w A env target body Q) (fun _ _ => False) s₁) (fun _ _ => False) s)
    (hs : ∀ x, foldedSetIterable iter env x = pure x := by intro _; rfl) :
    wpAny (model prog w) A (exec (.For target iter body [] pos) env) Q E s := by
  refine wpAny_mono (wpAny_For (E := fun _ _ => False) (wpAny_mono h (fun x s₁ h₁ => wpAny_mono h₁ (fun it s₂ h₂ => codeAny_mono h₂ fun r s' hr => ?_) fun _ _ e => e.elim) fun _ _ e => e.elim) hs) (fun _ _ x => x) fun _ _ x => x.elim
  cases r with
  | ok f => exact hr
  | error e => exact hr.elim
theorem for_walks {Q : Flow → Shared → Prop} {it : Addr} {fp : List Addr} {n : Nat} {P : Nat → Value → Prop} {St : Nat → Heap → Prop} (W : Walks prog w A it fp [it] n P St)
    (J : Nat → (Str → Option Value) → List (Addr × Obj) → Prop)
    (go : ∀ i v (s : Shared) (Q : Unit → Shared → Prop) (E : Value → Shared → Prop), St i s.heap → Q () s → wpAny (model prog w) A (letOwnedTupleGo target (.ref it) v) Q E s)
    (hSt : ∀ i (h h' : Heap) m nx o, St i h → h.get? it = some o → h'.get? it = some o → (∀ b o, h₀.get? b = some o → h'.get? b = some o) → News h₀ L h' nx → J i m nx → St i h')
    (hIo : ∀ i h, St i h → ∃ o, h.get? it = some o)
    (hst : St 0 s.heap) (F : Fr h₀ L s.heap m) (N : News h₀ L s.heap news) (hL : it ≠ L) (h0it : h₀.get? it = none) (off : Off it news) (h0 : J 0 m news)
    (turn : ∀ i v m₁ nx io h tk, i < n → P i v → J i m₁ nx → Off it nx → Fr h₀ L h m₁ → News h₀ L h ((it, io) :: nx) →
      wpAny (model prog w) A (assign target env v) (fun _ s₂ => wpAny (model prog w) A (execs body env) (TurnEnd h₀ L it io (J (i + 1)) { s with heap := h, toks := tk } Q) (fun _ _ => False) s₂) (fun _ _ => False) { s with heap := h, toks := tk })
    (done : ∀ m₁ nx h tk, J n m₁ nx → Fr h₀ L h m₁ → News h₀ L h nx → Q .next { s with heap := h, toks := tk }) :
    ForAt prog w A env target body Q (.ref it) s := by
  have others : ∀ {h h' : Heap} {m' nx}, (∀ b o, b ∉ [it] → h.get? b = some o → h'.get? b = some o) → Fr h₀ L h m' → News h₀ L h nx → Off it nx → Fr h₀ L h' m' ∧ News h₀ L h' nx := by
    intro h h' m' nx hk F' N' o'
    exact ⟨fr_but F' hk (Ne.symm hL) h0it, news_but N' hk o'⟩
  refine codeAny_forLoop_any (ForI h₀ L it n St J s) ?_ n
    ⟨0, m, news, s.heap, s.toks, rfl, Nat.zero_le _, rfl, hst, F, N, off, h0⟩
  rintro k s' ⟨i, m', nx, h, tk, rfl, hi, rfl, hst', F', N', off', hJ⟩
  by_cases hlt : i < n
  · refine W.item i _ _ _ hlt hst' fun v h' tk' hP hS hk => ?_
    obtain ⟨F₁, N₁⟩ := others hk F' N' off'
    obtain ⟨io, hio⟩ := hIo _ _ hS
    have N₂ : News h₀ L h' ((it, io) :: nx) := fun p hp => by
      rcases List.mem_cons.mp hp with rfl | hp
      · exact ⟨hio, hL, h0it⟩
      · exact N₁ p hp
    refine go (i + 1) v _ _ _ hS ?_
    refine wpAny_mono (turn i v m' nx io h' tk' hlt hP hJ off' F₁ N₂) (fun _ s₂ h₂ => wpAny_mono h₂ (fun f s₃ h₃ => ?_) fun _ _ e => e.elim) fun _ _ e => e.elim
    have nxt : TurnN h₀ L it io (J (i + 1)) { s with heap := h', toks := tk' } s₃ → ∃ k, k < n - i ∧ ForI h₀ L it n St J s k s₃ := by
      rintro ⟨m₃, nx₃, g₃, tk₃, rfl, F₃, N₃, off₃, hJ₃⟩
      refine ⟨n - (i + 1), by omega, i + 1, m₃, nx₃, g₃, tk₃, rfl, hlt, rfl, ?_, F₃, newsDropT N₃, off₃, hJ₃⟩
      exact hSt _ _ _ _ _ _ hS hio (N₃ _ (.head _)).1 F₃.keep (newsDropT N₃) hJ₃
    cases f with
    | next => exact nxt h₃
    | cont => exact nxt h₃
    | brk => exact h₃
    | ret v => exact h₃
  · obtain rfl : i = n := by omega
    refine W.done _ _ _ hst' fun h' tk' hk => ?_
    obtain ⟨F₁, N₁⟩ := others hk F' N' off'
    exact wpAny_execs_nil (done m' nx h' tk' hJ F₁ N₁)
theorem go_any {it : Addr} {v : Value} {T : String} {vs : Array Value} {Q : Unit → Shared → Prop} {o : Obj} (ho : s.heap.get? it = some o) (hc : o.cls = .type T) (hd : o.data = .fields vs)
    (hT : ["enumerate", "zip", "dict_itemiterator", "dict_reverseitemiterator", "odict_iterator", "itertools.zip_longest", "itertools.pairwise"].contains T = false) (hQ : Q () s) :
    wpAny (model prog w) A (letOwnedTupleGo target (.ref it) v) Q E s := by
  unfold letOwnedTupleGo
  split
  all_goals first
    | exact wpAny_pure hQ
    | (split
       · rename_i e
         cases e
         refine wpAny_bind (wpAny_load ho ?_)
         rw [hc, hd]
         dsimp only
         rw [hT, Bool.false_and, if_neg (by decide)]
         exact wpAny_pure hQ
       · exact wpAny_pure hQ)
theorem for_list {Q : Flow → Shared → Prop} {l : Addr} {its : Array Value} {nn : Nat} (J : Nat → (Str → Option Value) → List (Addr × Obj) → Prop)
    (hh : A.handled = none) (F : Fr h₀ L s.heap m) (N : News h₀ L s.heap news) (hJ : ∀ i m nx, J i m nx → (l, W.listOf its nn) ∈ nx) (h0 : J 0 m news)
    (turn : ∀ i v m₁ nx it io h tk, its[i]? = some v → J i m₁ nx → Off it nx → Fr h₀ L h m₁ → News h₀ L h ((it, io) :: nx) →
      wpAny (model prog w) A (assign target env v) (fun _ s₂ => wpAny (model prog w) A (execs body env) (TurnEnd h₀ L it io (J (i + 1)) { s with heap := h, toks := tk } Q) (fun _ _ => False) s₂) (fun _ _ => False) { s with heap := h, toks := tk })
    (done : ∀ m₁ nx h tk, J its.size m₁ nx → Fr h₀ L h m₁ → News h₀ L h nx → Q .next { s with heap := h, toks := tk }) :
    wpAny (model prog w) A (pyIter (.ref l)) (ForAt prog w A env target body Q) (fun _ _ => False) s := by
  have hl : s.heap.IsList l its := ⟨_, N.get (hJ 0 m news h0), rfl, _, rfl⟩
  have hlt : l < s.heap.objs.size := Heap.lt_size (N.get (hJ 0 m news h0))
  have up : ∀ b o, s.heap.get? b = some o → (s.heap.push { cls := .type "list_iterator", data := .fields #[.ref l, .int 0 0] }).get? b = some o := fun b o e => Heap.get?_push_of_some _ e
  refine wpAny_pyIter_list hl ?_
  refine for_walks (Walks.list hh s.heap.objs.size l (Nat.ne_of_lt hlt) its) J ?_ ?_ ?_ ⟨⟨_, Heap.get?_push_size _ rfl, rfl, rfl⟩, hl.push _⟩ (F.keeps up) (fun p hp => ⟨up _ _ (N p hp).1, (N p hp).2⟩)
    (Nat.ne_of_gt F.ns.lt) (next_is_new F) (fun p hp => Nat.ne_of_lt (Heap.lt_size (N p hp).1)) h0 ?_ done
  · rintro i v s Q E ⟨⟨o, ho, hc, hd⟩, _⟩ hQ
    exact go_any ho hc hd (by decide) hQ
  · rintro i h h' m nx o ⟨⟨oi, hi, hc, hd⟩, _⟩ e1 e2 _ N' hj
    rw [e1] at hi
    obtain rfl := Option.some.inj hi
    exact ⟨⟨_, e2, hc, hd⟩, ⟨_, N'.get (hJ i m nx hj), rfl, _, rfl⟩⟩
  · rintro i h ⟨⟨oi, hi, _⟩, _⟩
    exact ⟨oi, hi⟩
  · intro i v m₁ nx io h tk _ hP hj ho F' N'
    exact turn i v m₁ nx _ io h tk hP hj ho F' N'
noncomputable abbrev rangeObj (n : Int) (t0 t1 t2 : Tok) : Obj := { cls := .type "range", data := .fields #[.int 0 t0, .int n t1, .int 1 t2] }
theorem range_made {n : Int} {t : Tok} {Q : Value → Shared → Prop} (F : Fr h₀ L s.heap m) (N : News h₀ L s.heap news)
    (h : ∀ r t0 t2 h' tk', Und r news → Fr h₀ L h' m → News h₀ L h' ((r, rangeObj n t0 t t2) :: news) → Q (.ref r) { s with heap := h', toks := tk' }) :
    wpAny (model prog w) A (call (.type "range") [.int n t]) Q E s :=
  call_range_1 (h _ _ _ _ _ (fun p hp => Heap.lt_size (N p hp).1) (F.push _) (N.push F _))
theorem for_range {Q : Flow → Shared → Prop} {r : Addr} {n : Nat} {t0 t1 t2 : Tok} (J : Nat → (Str → Option Value) → List (Addr × Obj) → Prop)
    (hh : A.handled = none) (F : Fr h₀ L s.heap m) (N : News h₀ L s.heap news) (hm : (r, rangeObj (n : Int) t0 t1 t2) ∈ news) (hn : n < 2 ^ 30) (h0 : J 0 m news)
    (turn : ∀ i t m₁ nx it io h tk, i < n → J i m₁ nx → Off it nx → Fr h₀ L h m₁ → News h₀ L h ((it, io) :: nx) →
      wpAny (model prog w) A (assign target env (.int (i : Int) t)) (fun _ s₂ => wpAny (model prog w) A (execs body env) (TurnEnd h₀ L it io (J (i + 1)) { s with heap := h, toks := tk } Q) (fun _ _ => False) s₂) (fun _ _ => False) { s with heap := h, toks := tk })
    (done : ∀ m₁ nx h tk, J n m₁ nx → Fr h₀ L h m₁ → News h₀ L h nx → Q .next { s with heap := h, toks := tk }) :
    wpAny (model prog w) A (pyIter (.ref r)) (ForAt prog w A env target body Q) (fun _ _ => False) s := by
  have hr : IsRange s.heap r 0 (n : Int) 1 t0 t1 t2 := N.get hm
  have up : ∀ o b q, s.heap.get? b = some q → (s.heap.push o).get? b = some q := fun o b q e => Heap.get?_push_of_some _ e
  have hs : Builtin.Range.rangeSize 0 (n : Int) 1 = (n : Int) := by rw [rangeSize_nat]; omega
  refine wpAny_pyIter_range hr (small_one (by decide) (by decide) (by omega) (by omega)) ?_
  rw [hs]
  refine for_walks (range_walks hh (I := s.heap.objs.size) 0 n) J ?_ ?_ ?_ ?_ (F.keeps (up _)) (fun p hp => ⟨up _ _ _ (N p hp).1, (N p hp).2⟩)
    (Nat.ne_of_gt F.ns.lt) (next_is_new F) (fun p hp => Nat.ne_of_lt (Heap.lt_size (N p hp).1)) h0 ?_ done
  · intro i v s Q E hS hQ
    exact go_any (show s.heap.get? _ = some _ from hS) rfl rfl (by decide) hQ
  · intro i h h' m nx o hS e1 e2 _ _ _
    have hS' : h.get? _ = some _ := hS
    rw [e1] at hS'
    show h'.get? _ = some _
    rw [e2]; exact hS'
  · intro i h hS
    exact ⟨_, hS⟩
  · show IsRangeIter _ _ _ _ _
    simpa using Heap.get?_push_size _ rfl
  · rintro i v m₁ nx io h tk hi ⟨t, rfl⟩ hj ho F' N'
    rw [Int.zero_add]
    exact turn i t m₁ nx _ io h tk hi hj ho F' N'
end
section
variable {h₀ h' : Heap} {L it : Addr} {io : Obj} {m' : Str → Option Value} {nx : List (Addr × Obj)} {a b : Addr × Obj} {J : (Str → Option Value) → List (Addr × Obj) → Prop} {s : Shared} {Q : Flow → Shared → Prop} {tk : Nat}
end
inductive WTurnN (h₀ : Heap) (L : Addr) (J : Nat → (Str → Option Value) → List (Addr × Obj) → Prop) (n : Nat) (s s' : Shared) : Prop
  | mk (n' : Nat) (m' : Str → Option Value) (nx : List (Addr × Obj)) (h' : Heap) (tk' : Nat) (e : s' = { s with heap := h', toks := tk' }) (hn : n' < n) (F : Fr h₀ L h' m') (N : News h₀ L h' nx) (hJ : J n' m' nx)
inductive WhI (h₀ : Heap) (L : Addr) (J : Nat → (Str → Option Value) → List (Addr × Obj) → Prop) (s : Shared) (n : Nat) (s' : Shared) : Prop
  | mk (m' : Str → Option Value) (nx : List (Addr × Obj)) (h : Heap) (tk : Nat) (e : s' = { s with heap := h, toks := tk }) (hJ : J n m' nx) (F : Fr h₀ L h m') (N : News h₀ L h nx)
noncomputable def WTurn (h₀ : Heap) (L : Addr) (J : Nat → (Str → Option Value) → List (Addr × Obj) → Prop) (n : Nat) (s : Shared) (Q : Flow → Shared → Prop) (f : Flow) (s' : Shared) : Prop :=
  match f with
  | .ret v => Q (.ret v) s'
  | .brk => Q .next s'
  | _ => WTurnN h₀ L J n s s'
section
variable {prog : Program} {w : World} {A : Around} {E : Value → Shared → Prop} {s : Shared} {env : Env} {h₀ : Heap} {L : Addr} {m : Str → Option Value} {news : List (Addr × Obj)}
theorem while_rule {test : PySem.Expr} {body : List Stmt} {pos : Pos} {Q : Flow → Shared → Prop} (J : Nat → (Str → Option Value) → List (Addr × Obj) → Prop) (n₀ : Nat)
    (F : Fr h₀ L s.heap m) (N : News h₀ L s.heap news) (h0 : J n₀ m news)
    (turn : ∀ n m₁ nx h tk, J n m₁ nx → Fr h₀ L h m₁ → News h₀ L h nx →
      wpAny (model prog w) A (isTrue test env (eval test env)) (fun b s₂ =>
        if b = true then wpAny (model prog w) A (execs body env) (WTurn h₀ L J n { s with heap := h, toks := tk } Q) (fun _ _ => False) s₂ else Q .next s₂) (fun _ _ => False) { s with heap := h, toks := tk }) :
    wpAny (model prog w) A (exec (.While test body [] pos) env) Q E s := by
  refine wpAny_mono (E := fun _ _ => False) (wpAny_While (codeAny_whileLoop (WhI h₀ L J s) ?_ n₀ ⟨m, news, s.heap, s.toks, rfl, h0, F, N⟩)) (fun _ _ x => x) (fun _ _ x => x.elim)
  rintro n s' ⟨m₁, nx, h, tk, rfl, hJ, F₁, N₁⟩
  refine wpAny_mono (turn n m₁ nx h tk hJ F₁ N₁) (fun b s₂ h₂ => ?_) fun _ _ e => e.elim
  cases b with
  | false =>
    simp only [Bool.false_eq_true, if_false] at h₂ ⊢
    exact wpAny_execs_nil h₂
  | true =>
    simp only [if_true] at h₂ ⊢
    refine wpAny_mono h₂ (fun f s₃ h₃ => ?_) fun _ _ e => e.elim
    have nxt : WTurnN h₀ L J n { s with heap := h, toks := tk } s₃ → ∃ k, k < n ∧ WhI h₀ L J s k s₃ := by
      rintro ⟨n', m', nx, h', tk', rfl, hn, F, N, hJ⟩
      exact ⟨n', hn, m', nx, h', tk', rfl, hJ, F, N⟩
    cases f with
    | next => exact nxt h₃
    | cont => exact nxt h₃
    | brk => exact h₃
    | ret v => exact h₃
end
section
variable {h₀ h' : Heap} {L : Addr} {m' : Str → Option Value} {nx : List (Addr × Obj)} {J : Nat → (Str → Option Value) → List (Addr × Obj) → Prop} {s : Shared} {Q : Flow → Shared → Prop} {tk n : Nat}
end
section
variable {prog : Program} {w : World} {A : Around} {E : Value → Shared → Prop} {s : Shared} {h₀ : Heap} {L : Addr} {m : Str → Option Value} {news news' : List (Addr × Obj)}
theorem append_L {D : Addr} {vs : List Value} {n : Nat} {x : Value} {Q : Value → Shared → Prop} (F : Fr h₀ L s.heap m) (N : News h₀ L s.heap news) (U : Upd D (W.listOf vs.toArray n) (W.listOf (vs ++ [x]).toArray (n + 1)) news news') (hz : vs.length ≤ 1000000)
    (h : ∀ h', Fr h₀ L h' m → News h₀ L h' news' → Q .none { s with heap := h' }) : wpAny (model prog w) A (call (.builtin "list.append") [.ref D, x]) Q E s := by
  refine W.append_K (its := vs.toArray) (n := n) F N ?_ h ?_
  · rw [List.push_toArray]; exact U
  · rw [List.size_toArray, sizeLine_eq]; omega
end
section
variable {prog : Program} {w : World} {A : Around} {E : Value → Shared → Prop} {s : Shared} {h₀ : Heap} {L : Addr} {m : Str → Option Value} {news news' : List (Addr × Obj)}
theorem len_L {l : Addr} {vs : List Value} {n : Nat} {Q : Value → Shared → Prop} (N : News h₀ L s.heap news) (hm : (l, W.listOf vs.toArray n) ∈ news) (hz : vs.length ≤ 1000000)
    (h : ∀ t tk', Q (.int (vs.length : Int) t) { s with toks := tk' }) : wpAny (model prog w) A (call (.builtin "len") [.ref l]) Q E s :=
  PyProof.Rows.len_list (items := vs.toArray) ⟨_, N.get hm, rfl, _, rfl⟩ (by rw [List.size_toArray]; omega) (by rw [List.size_toArray]; exact h _ _)
end
noncomputable def Out (Q Qt : Flow → Shared → Prop) : Prop := ∀ s', (∀ v, Q (.ret v) s' → Qt (.ret v) s') ∧ (Q .next s' → Qt .brk s')
noncomputable def Nxt (h₀ : Heap) (L it : Addr) (io : Obj) (J : (Str → Option Value) → List (Addr × Obj) → Prop) (s : Shared) (Qt : Flow → Shared → Prop) : Prop :=
  ∀ m' nx h' tk', Fr h₀ L h' m' → News h₀ L h' ((it, io) :: nx) → Off it nx → J m' nx → Qt .next { s with heap := h', toks := tk' } ∧ Qt .cont { s with heap := h', toks := tk' }
section
variable {prog : Program} {w : World} {A : Around} {E : Value → Shared → Prop} {s : Shared} {env : Env} {h₀ : Heap} {L : Addr} {m : Str → Option Value} {news : List (Addr × Obj)} {target : PySem.Expr} {body : List Stmt}
theorem nxt_of {J : (Str → Option Value) → List (Addr × Obj) → Prop} {Q : Flow → Shared → Prop} {it : Addr} {io : Obj} : Nxt h₀ L it io J s (TurnEnd h₀ L it io J s Q) :=
  fun m' nx h' tk' F N o j => ⟨⟨m', nx, h', tk', rfl, F, N, o, j⟩, ⟨m', nx, h', tk', rfl, F, N, o, j⟩⟩
theorem for_list2 {Q : Flow → Shared → Prop} {l : Addr} {its : Array Value} {nn : Nat} (J : Nat → (Str → Option Value) → List (Addr × Obj) → Prop)
    (hh : A.handled = none) (F : Fr h₀ L s.heap m) (N : News h₀ L s.heap news) (hJ : ∀ i m nx, J i m nx → (l, W.listOf its nn) ∈ nx) (h0 : J 0 m news)
    (turn : ∀ i v m₁ nx it io h tk Qt, its[i]? = some v → J i m₁ nx → Off it nx → Fr h₀ L h m₁ → News h₀ L h ((it, io) :: nx) → Nxt h₀ L it io (J (i + 1)) { s with heap := h, toks := tk } Qt → Out Q Qt →
      wpAny (model prog w) A (assign target env v) (fun _ s₂ => wpAny (model prog w) A (execs body env) Qt (fun _ _ => False) s₂) (fun _ _ => False) { s with heap := h, toks := tk })
    (done : ∀ m₁ nx h tk, J its.size m₁ nx → Fr h₀ L h m₁ → News h₀ L h nx → Q .next { s with heap := h, toks := tk }) :
    wpAny (model prog w) A (pyIter (.ref l)) (ForAt prog w A env target body Q) (fun _ _ => False) s :=
  for_list J hh F N hJ h0 (fun i v m₁ nx it io h tk e j o F' N' => turn i v m₁ nx it io h tk _ e j o F' N' nxt_of fun _ => ⟨fun _ x => x, fun x => x⟩) done
theorem for_range2 {Q : Flow → Shared → Prop} {r : Addr} {n : Nat} {t0 t1 t2 : Tok} (J : Nat → (Str → Option Value) → List (Addr × Obj) → Prop)
    (hh : A.handled = none) (F : Fr h₀ L s.heap m) (N : News h₀ L s.heap news) (hm : (r, rangeObj (n : Int) t0 t1 t2) ∈ news) (hn : n < 2 ^ 30) (h0 : J 0 m news)
    (turn : ∀ i t m₁ nx it io h tk Qt, i < n → J i m₁ nx → Off it nx → Fr h₀ L h m₁ → News h₀ L h ((it, io) :: nx) → Nxt h₀ L it io (J (i + 1)) { s with heap := h, toks := tk } Qt → Out Q Qt →
      wpAny (model prog w) A (assign target env (.int (i : Int) t)) (fun _ s₂ => wpAny (model prog w) A (execs body env) Qt (fun _ _ => False) s₂) (fun _ _ => False) { s with heap := h, toks := tk })
    (done : ∀ m₁ nx h tk, J n m₁ nx → Fr h₀ L h m₁ → News h₀ L h nx → Q .next { s with heap := h, toks := tk }) :
    wpAny (model prog w) A (pyIter (.ref r)) (ForAt prog w A env target body Q) (fun _ _ => False) s :=
  for_range J hh F N hm hn h0 (fun i t m₁ nx it io h tk e j o F' N' => turn i t m₁ nx it io h tk _ e j o F' N' nxt_of fun _ => ⟨fun _ x => x, fun x => x⟩) done
noncomputable def WNxt (h₀ : Heap) (L : Addr) (J : Nat → (Str → Option Value) → List (Addr × Obj) → Prop) (n : Nat) (s : Shared) (Qt : Flow → Shared → Prop) : Prop :=
  ∀ n' m' nx h' tk', n' < n → Fr h₀ L h' m' → News h₀ L h' nx → J n' m' nx → Qt .next { s with heap := h', toks := tk' } ∧ Qt .cont { s with heap := h', toks := tk' }
theorem while2 {test : PySem.Expr} {body : List Stmt} {pos : Pos} {Q : Flow → Shared → Prop} (J : Nat → (Str → Option Value) → List (Addr × Obj) → Prop) (n₀ : Nat)
    (F : Fr h₀ L s.heap m) (N : News h₀ L s.heap news) (h0 : J n₀ m news)
    (turn : ∀ n m₁ nx h tk Qt, J n m₁ nx → Fr h₀ L h m₁ → News h₀ L h nx → WNxt h₀ L J n { s with heap := h, toks := tk } Qt → (∀ v s', Q (.ret v) s' → Qt (.ret v) s') →
      wpAny (model prog w) A (isTrue test env (eval test env)) (fun b s₂ =>
        if b = true then wpAny (model prog w) A (execs body env) Qt (fun _ _ => False) s₂ else Q .next s₂) (fun _ _ => False) { s with heap := h, toks := tk }) :
    wpAny (model prog w) A (exec (.While test body [] pos) env) Q E s :=
  while_rule J n₀ F N h0 fun n m₁ nx h tk j F' N' => turn n m₁ nx h tk _ j F' N' (fun n' m' nx' h' tk' hn F'' N'' j' => ⟨⟨n', m', nx', h', tk', rfl, hn, F'', N'', j'⟩, ⟨n', m', nx', h', tk', rfl, hn, F'', N'', j'⟩⟩) fun _ _ x => x
end
end
section
structure All3 (a b c : Prop) : Prop where
  h1 : a
  h2 : b
  h3 : c
structure All4 (a b c d : Prop) : Prop where
  h1 : a
  h2 : b
  h3 : c
  h4 : d
structure All5 (a b c d e : Prop) : Prop where
  h1 : a
  h2 : b
  h3 : c
  h4 : d
  h5 : e
structure All6 (a b c d e f : Prop) : Prop where
  h1 : a
  h2 : b
  h3 : c
  h4 : d
  h5 : e
  h6 : f
structure All7 (a b c d e f g : Prop) : Prop where
  h1 : a
  h2 : b
  h3 : c
  h4 : d
  h5 : e
  h6 : f
  h7 : g
structure All8 (a b c d e f g h : Prop) : Prop where
  h1 : a
  h2 : b
  h3 : c
  h4 : d
  h5 : e
  h6 : f
  h7 : g
  h8 : h
structure All9 (a b c d e f g h i : Prop) : Prop where
  h1 : a
  h2 : b
  h3 : c
  h4 : d
  h5 : e
  h6 : f
  h7 : g
  h8 : h
  h9 : i
section
variable {α β γ δ : Type} {prog : Program} {w : World} {A : Around} {E : Value → Shared → Prop} {s : Shared} {env : Env} {h₀ : Heap} {L : Addr} {m : Str → Option Value} {target : PySem.Expr} {body : List Stmt}
end
theorem lt_room1 {d b c R : Nat} (h : d + c < R) (k : b ≤ c) : d + b < R := Nat.lt_of_le_of_lt (Nat.add_le_add_left k d) h
theorem lt_room2 {d a b c R : Nat} (h : d + c < R) (k : a + b ≤ c) : d + a + b < R := by rw [Nat.add_assoc]; exact lt_room1 h k
theorem lt_room0 {d c R : Nat} (h : d + c < R) : d < R := Nat.lt_of_le_of_lt (Nat.le_add_right d c) h
theorem lt_room3 {d a b e c R : Nat} (h : d + c < R) (k : a + b + e ≤ c) : d + a + b + e < R := by rw [Nat.add_assoc, Nat.add_assoc, ← Nat.add_assoc a]; exact lt_room1 h k
end
section
section
variable {prog : Program} {w : World} {A : Around} {E : Value → Shared → Prop} {s : Shared} {a b : Int} {t u : Tok} {x y : Array UInt8} {Q : Value → Shared → Prop}
end
section
variable {prog : Program} {w : World} {A : Around} {E : Value → Shared → Prop} {s : Shared} {a b : Int} {t u : Tok} {x y : Array UInt8} {Q : Value → Shared → Prop}
theorem beqB (h : Q (.bool (decide (x = y))) s) : wpAny (model prog w) A (compareOp .Eq (.bytes x t) (.bytes y u)) Q E s := by
  refine eq_bytes ?_
  have e : (x.toList == y.toList) = decide (x = y) := by
    rw [Bool.eq_iff_iff, beq_iff_eq, decide_eq_true_iff, Array.toList_inj]
  rw [e]; exact h
theorem bneB (h : Q (.bool (!decide (x = y))) s) : wpAny (model prog w) A (compareOp .NotEq (.bytes x t) (.bytes y u)) Q E s := by
  refine ne_bytes ?_
  have e : (x.toList != y.toList) = !decide (x = y) := by
    show (!(x.toList == y.toList)) = _
    congr 1
    rw [Bool.eq_iff_iff, beq_iff_eq, decide_eq_true_iff, Array.toList_inj]
  rw [e]; exact h
theorem size_ne_nil {x : Array UInt8} (h : x.size ≠ 0) : x ≠ #[] := fun e => h (by rw [e]; rfl)
end
end
section
noncomputable def hdrEs (P : Params) (t0 t1 t2 t3 t4 t5 t6 t7 t8 t9 : Tok) (v0 v1 v2 v3 v4 v5 v6 v7 v8 v9 : Value) : List DictEntry := [⟨PyData.keyHash P (Str.ofString "source"), .str (Str.ofString "source") t0, v0⟩, ⟨PyData.keyHash P (Str.ofString "target"), .str (Str.ofString "target") t1, v1⟩, ⟨PyData.keyHash P (Str.ofString "protocol"), .str (Str.ofString "protocol") t2, v2⟩, ⟨PyData.keyHash P (Str.ofString "ident"), .str (Str.ofString "ident") t3, v3⟩, ⟨PyData.keyHash P (Str.ofString "ttl"), .str (Str.ofString "ttl") t4, v4⟩, ⟨PyData.keyHash P (Str.ofString "tos"), .str (Str.ofString "tos") t5, v5⟩, ⟨PyData.keyHash P (Str.ofString "dont"), .str (Str.ofString "dont") t6, v6⟩, ⟨PyData.keyHash P (Str.ofString "more"), .str (Str.ofString "more") t7, v7⟩, ⟨PyData.keyHash P (Str.ofString "offset"), .str (Str.ofString "offset") t8, v8⟩, ⟨PyData.keyHash P (Str.ofString "options"), .str (Str.ofString "options") t9, v9⟩]
noncomputable abbrev hdrObj (P : Params) (T : Nat → Tok) (i : Int) (mo : Bool) (o : Int) (b : Array UInt8) : Obj :=
  dictOf (hdrEs P (T 0) (T 1) (T 2) (T 3) (T 4) (T 5) (T 6) (T 7) (T 8) (T 9) (.int 10 (T 10)) (.int 20 (T 11)) (.int 17 (T 12)) (.int i (T 13)) (.int 64 (T 14)) (.int 0 (T 15)) (.bool false) (.bool mo) (.int o (T 16)) (.bytes b (T 17))) 10
noncomputable def HdrIs (P : Params) (led : List (Addr × Obj)) (x : Addr) (i : Int) (mo : Bool) (o : Int) (b : Array UInt8) : Prop :=
  ∃ (dx : Addr) (T : Nat → Tok), (x, instObj 74 dx) ∈ led ∧ (dx, hdrObj P T i mo o b) ∈ led
theorem HdrIs.mono {P : Params} {led led' : List (Addr × Obj)} {x : Addr} {i : Int} {mo : Bool} {o : Int} {b : Array UInt8} (H : HdrIs P led x i mo o b) (hs : ∀ p ∈ led, p ∈ led') : HdrIs P led' x i mo o b := by
  obtain ⟨dx, T, h1, h2⟩ := H
  exact ⟨dx, T, hs _ h1, hs _ h2⟩
noncomputable abbrev tupOf (its : Array Value) (n : Nat) : Obj := { cls := .type "tuple", data := .seq its n }
noncomputable abbrev toldObj (T : Nat → Tok) (n : Nat) (i : Int) (mo : Bool) (o : Int) (b : Array UInt8) : Obj := tupOf #[.int 10 (T 0), .int 20 (T 1), .int 17 (T 2), .int i (T 3), .int 64 (T 4), .int 0 (T 5), .bool false, .bool mo, .int o (T 6), .bytes b (T 7)] n
noncomputable abbrev keyObj (T : Nat → Tok) (n : Nat) (i : Int) : Obj := tupOf #[.int 10 (T 0), .int 20 (T 1), .int 17 (T 2), .int i (T 3)] n
noncomputable def Ext (a b : List (Addr × Obj)) : Prop := ∀ p ∈ a, p ∈ b
theorem Ext.rfl {a : List (Addr × Obj)} : Ext a a := fun _ h => h
theorem Ext.cons {a b : List (Addr × Obj)} {q : Addr × Obj} (x : Ext a b) : Ext a (q :: b) := fun p h => .tail _ (x p h)
theorem Ext.app {a b c : List (Addr × Obj)} (x : Ext a b) : Ext a (c ++ b) := fun p h => List.mem_append_right _ (x p h)
structure Spec where
  more : Bool
  off : Int
  opt : Array UInt8
  pl : Array UInt8
noncomputable def PieceIs (P : Params) (led : List (Addr × Obj)) (v : Value) (i : Int) (sp : Spec) : Prop :=
  ∃ (t x : Addr) (n : Nat) (u : Tok), v = .ref t ∧ (t, tupOf #[.ref x, .bytes sp.pl u] n) ∈ led ∧ HdrIs P led x i sp.more sp.off sp.opt
theorem PieceIs.mono {P : Params} {led led' : List (Addr × Obj)} {v : Value} {i : Int} {sp : Spec} (H : PieceIs P led v i sp) (hs : Ext led led') : PieceIs P led' v i sp := by
  obtain ⟨t, x, n, u, e, h1, h2⟩ := H
  exact ⟨t, x, n, u, e, hs _ h1, h2.mono hs⟩
noncomputable def PiecesAre (P : Params) (led : List (Addr × Obj)) (i : Int) : List Value → List Spec → Prop
  | [], [] => True
  | v :: vs, s :: ss => PieceIs P led v i s ∧ PiecesAre P led i vs ss
  | _, _ => False
theorem PiecesAre.mono {P : Params} {led led' : List (Addr × Obj)} {i : Int} (hs : Ext led led') : ∀ {vs : List Value} {ss : List Spec}, PiecesAre P led i vs ss → PiecesAre P led' i vs ss
  | [], [], _ => trivial
  | _ :: _, _ :: _, h => ⟨h.1.mono hs, h.2.mono hs⟩
  | [], _ :: _, h => h
  | _ :: _, [], h => h
theorem PiecesAre.snoc {P : Params} {led : List (Addr × Obj)} {i : Int} {v : Value} {s : Spec} (hv : PieceIs P led v i s) : ∀ {vs : List Value} {ss : List Spec}, PiecesAre P led i vs ss → PiecesAre P led i (vs ++ [v]) (ss ++ [s])
  | [], [], _ => ⟨hv, trivial⟩
  | _ :: _, _ :: _, h => ⟨h.1, h.2.snoc hv⟩
  | [], _ :: _, h => h.elim
  | _ :: _, [], h => h.elim
theorem PiecesAre.len {P : Params} {led : List (Addr × Obj)} {i : Int} : ∀ {vs : List Value} {ss : List Spec}, PiecesAre P led i vs ss → vs.length = ss.length
  | [], [], _ => rfl
  | _ :: _, _ :: _, h => congrArg (· + 1) h.2.len
  | [], _ :: _, h => h.elim
  | _ :: _, [], h => h.elim
theorem PiecesAre.at {P : Params} {led : List (Addr × Obj)} {i : Int} : ∀ {vs : List Value} {ss : List Spec}, PiecesAre P led i vs ss → ∀ {k : Nat} {v : Value}, vs[k]? = some v → ∃ s, ss[k]? = some s ∧ PieceIs P led v i s
  | [], [], _, k, v, h => by simp at h
  | w :: vs, s :: ss, h, 0, v, e => ⟨s, by simp, by simp at e; exact e ▸ h.1⟩
  | w :: vs, s :: ss, h, k + 1, v, e => by
    obtain ⟨s', e', h'⟩ := h.2.at (k := k) (v := v) (by simpa using e)
    exact ⟨s', by simpa using e', h'⟩
  | [], _ :: _, h, _, _, _ => h.elim
  | _ :: _, [], h, _, _, _ => h.elim
section
variable {C : Prop} {h₀ h : Heap} {L a b c : Addr} {o o' o'' : Obj} {r : List (Addr × Obj)}
end
section
variable {h₀ h : Heap} {L : Addr} {a b c d e f g k : Addr × Obj} {r : List (Addr × Obj)}
end
theorem PieceIs.of {P : Params} {led : List (Addr × Obj)} {i : Int} {vs : List Value} {ss : List Spec} (h : PiecesAre P led i vs ss) {k : Nat} {v : Value} (e : vs[k]? = some v) : ∃ s, ss[k]? = some s ∧ ∃ (t x : Addr) (n : Nat) (u : Tok), v = .ref t ∧ (t, tupOf #[.ref x, .bytes s.pl u] n) ∈ led ∧ HdrIs P led x i s.more s.off s.opt := h.at e
section
variable {h₀ h : Heap} {L : Addr} {a b m1 m2 m3 m4 m5 m6 : Addr × Obj} {r : List (Addr × Obj)}
end
end
section
section
variable {prog : Program} {w : World} {A : Around} {E : Value → Shared → Prop} {s : Shared} {h₀ : Heap} {L a b : Addr} {m : Str → Option Value} {news news' : List (Addr × Obj)} {vs ws : List Value} {n k : Nat} {Q : Value → Shared → Prop}
theorem isListL (N : News h₀ L s.heap news) (ha : (a, W.listOf vs.toArray n) ∈ news) : s.heap.IsList a vs.toArray := ⟨_, N.get ha, rfl, _, rfl⟩
theorem eqNil (N : News h₀ L s.heap news) (ha : (a, W.listOf vs.toArray n) ∈ news) (hb : (b, W.listOf #[] k) ∈ news) (hu : A.units < cLine)
    (h : Q (.bool (decide (vs.length = 0))) s) : wpAny (model prog w) A (compareOp .Eq (.ref a) (.ref b)) Q E s := by
  have hb' : s.heap.IsList b (#[] : Array Value) := ⟨_, N.get hb, rfl, _, rfl⟩
  cases vs with
  | nil => exact SeqAt.RcAt.lists (e := fun _ => true) (isListL N ha) hb' rfl hu (fun j h1 _ => absurd h1 (Nat.not_lt_zero _)) _ _ _ _ h
  | cons v r => exact SeqAt.RcAt.lists_lengths (isListL N ha) hb' (by simp) hu _ _ _ _ (by simpa using h)
theorem neNil (N : News h₀ L s.heap news) (ha : (a, W.listOf vs.toArray n) ∈ news) (hb : (b, W.listOf #[] k) ∈ news) (hu : A.units < cLine)
    (h : Q (.bool (!decide (vs.length = 0))) s) : wpAny (model prog w) A (compareOp .NotEq (.ref a) (.ref b)) Q E s := by
  have hb' : s.heap.IsList b (#[] : Array Value) := ⟨_, N.get hb, rfl, _, rfl⟩
  cases vs with
  | nil => exact SeqAt.RcNeAt.lists (e := fun _ => true) (isListL N ha) hb' rfl hu (fun j h1 _ => absurd h1 (Nat.not_lt_zero _)) _ _ _ _ h
  | cons v r => exact SeqAt.RcNeAt.lists_lengths (isListL N ha) hb' (by simp) hu _ _ _ _ (by simpa using h)
theorem catL (F : Fr h₀ L s.heap m) (N : News h₀ L s.heap news) (ha : (a, W.listOf vs.toArray n) ∈ news) (hb : (b, W.listOf ws.toArray k) ∈ news) (hz : vs.length + ws.length ≤ 1000000)
    (h : ∀ D h', Und D news → Fr h₀ L h' m → News h₀ L h' ((D, W.listOf (vs ++ ws).toArray 0) :: news) → Q (.ref D) { s with heap := h' }) :
    wpAny (model prog w) A (binaryOp .Add (.ref a) (.ref b)) Q E s :=
  W.kmk_add_lit F N (isListL N ha) (isListL N hb) rfl (fun D h' F' N' l => h D h' l F' N') (by show vs.length + ws.length ≤ _; rw [sizeLine_eq]; omega)
theorem popL {D : Addr} {i : Nat} {u : Tok} {x : Value} {news' : List (Addr × Obj)} (F : Fr h₀ L s.heap m) (N : News h₀ L s.heap news) (hx : vs[i]? = some x) (U : Upd D (W.listOf vs.toArray n) (W.listOf (vs.eraseIdx i).toArray (n + 1)) news news')
    (hz : vs.length ≤ 1000000) (h : ∀ h', Fr h₀ L h' m → News h₀ L h' news' → Q x { s with heap := h' }) : wpAny (model prog w) A (call (.builtin "list.pop") [.ref D, .int (i : Int) u]) Q E s := by
  have hi : i < vs.length := by
    rcases Nat.lt_or_ge i vs.length with h | h
    · exact h
    · rw [List.getElem?_eq_none h] at hx; cases hx
  have hx' : vs[i] = x := by rw [List.getElem?_eq_getElem hi] at hx; exact Option.some.inj hx
  have hcut : ∀ (l : List Value) (i : Nat) (x : Value), l[i]? = some x → W.kl_cut l i = some (l.take i, x, l.drop (i + 1)) := by
    intro l
    induction l with
    | nil => intro i x e; simp at e
    | cons y r ih =>
      intro i x e
      cases i with
      | zero => simp at e; subst e; rfl
      | succ i =>
        have := ih i x (by simpa using e)
        show (match W.kl_cut r i with | some (p, y', q) => some (y :: p, y', q) | none => none) = _
        rw [this]
        rfl
  have he : vs.eraseIdx i = vs.take i ++ vs.drop (i + 1) := List.eraseIdx_eq_take_drop_succ ..
  rw [he] at U
  refine W.kl_popAt (k := i) (p := vs.take i) (q := vs.drop (i + 1)) (y := x) F N ?_ ?_ (hcut _ _ _ hx) U (by show vs.length ≤ _; rw [sizeLine_eq]; omega) h
  · unfold Builtin.List.listFitsIndex
    simp only [Bool.and_eq_true, decide_eq_true_eq]
    exact ⟨by omega, by have : (i : Int) ≤ 1000000 := by omega
                        exact Int.lt_of_le_of_lt this (by decide)⟩
  · unfold seqIndex?
    simp only [List.size_toArray]
    rw [if_neg (show ¬ ((i : Int) < 0) by omega), if_pos (by simp only [Bool.and_eq_true, decide_eq_true_eq]; omega)]
    simp
end
end
section
open LCg
noncomputable def compTests (ifs : List PySem.Expr) (env : Env) : Sem Bool := forIn ifs true fun c r => if r = true then do let ok ← isTrue c env (eval c env); pure (ForInStep.yield ok) else pure (ForInStep.yield r)
section
variable {prog : Program} {w : World} {A : Around} {E : Value → Shared → Prop} {s : Shared} {env : Env} {h₀ : Heap} {L : Addr} {m : Str → Option Value} {news : List (Addr × Obj)} {target elt iter : PySem.Expr} {ifs : List PySem.Expr} {scope : Scope} {cl : List (Str × Addr)} {pos : Pos}
theorem compTests_nil {env : Env} {Q : Bool → Shared → Prop} (h : Q true s) : wpAny (model prog w) A (compTests [] env) Q E s := wpAny_tests_nil h
theorem compTests_one {env : Env} {c : PySem.Expr} {Q : Bool → Shared → Prop} (h : wpAny (model prog w) A (isTrue c env (eval c env)) Q E s) : wpAny (model prog w) A (compTests [c] env) Q E s := wpAny_tests_one h
theorem comp_loop {it acc : Value} {env : Env} {R : Result → Shared → Prop} (I : Nat → Shared → Prop)
    (turn : ∀ n s, I n s → wpAny (model prog w) A (pyNext it) (fun r s₁ => match r with
      | none => R (.ok .next) s₁
      | some v => wpAny (model prog w) A (letOwnedTupleGo target it v) (fun _ s₂ => wpAny (model prog w) A (assign target env v) (fun _ s₃ => wpAny (model prog w) A (compTests ifs env) (fun ok s₄ =>
          if ok = true then wpAny (model prog w) A (eval elt env) (fun x s₅ => wpAny (model prog w) A (call (.builtin "list.append") [acc, x]) (fun _ s₆ => ∃ k, k < n ∧ I k s₆) (fun _ _ => False) s₅) (fun _ _ => False) s₄
          else ∃ k, k < n ∧ I k s₄) (fun _ _ => False) s₃) (fun _ _ => False) s₂) (fun _ _ => False) s₁) (fun _ _ => False) s)
    (n : Nat) (h : I n s) : codeAny (model prog w) A (.compLoop (.ListComp elt [⟨target, iter, ifs, 0⟩] scope pos) 0 it acc env) R s := by
  refine codeAny_loop rfl I (fun n s hI => ?_) n h
  show wpAny _ A ((compTurn (.ListComp elt [⟨target, iter, ifs, 0⟩] scope pos) 0 it acc env).onRaise (fun x => do noteFrame x env; theTreesLotGoes x)) _ _ s
  refine wpAny_noted ?_
  rw [compTurn_list]
  have no : ∀ (e : Value) (s' : Shared), False → notedBy (model prog w) A env (fun e s' => R (.error e) s') e s' := fun _ _ f => f.elim
  refine wpAny_bind (wpAny_standAt (wpAny_bind (wpAny_mono (turn n s hI) (fun r s₁ h₁ => ?_) no)))
  cases r with
  | none => exact wpAny_pure h₁
  | some v =>
    refine wpAny_bind (wpAny_mono h₁ (fun _ s₂ h₂ => wpAny_bind (wpAny_mono h₂ (fun _ s₃ h₃ => wpAny_bind (wpAny_mono (show wpAny _ _ (compTests ifs env) _ _ _ from h₃) (fun ok s₄ h₄ => ?_) no)) no)) no)
    cases ok with
    | true =>
      simp only [if_true] at h₄ ⊢
      exact wpAny_bind (wpAny_bind (wpAny_mono h₄ (fun x s₅ h₅ => wpAny_bind (wpAny_mono h₅ (fun _ s₆ h₆ => wpAny_pure (wpAny_pure ⟨rfl, h₆⟩)) no)) no))
    | false =>
      simp only [Bool.false_eq_true, if_false] at h₄ ⊢
      exact wpAny_bind (wpAny_pure (wpAny_pure ⟨rfl, h₄⟩))
inductive CompTurn (h₀ : Heap) (L : Addr) (m : Str → Option Value) (s : Shared) (I : Addr) (oI : Obj) (C D : Addr) (ys : List Value) (J : List (Addr × Obj) → Prop) (s' : Shared) : Prop
  | mk (h' : Heap) (tk' : Nat) (oC : Obj) (mC : Str → Option Value) (nx : List (Addr × Obj)) (e : s' = { s with heap := h', toks := tk' }) (F : Fr h₀ L h' m) (N : News h₀ L h' ((I, oI) :: (C, oC) :: (D, lst ys) :: nx)) (hn : NsObj oC mC) (off : Off3 I C D nx) (hJ : J nx)
inductive CompI (h₀ : Heap) (L : Addr) (m : Str → Option Value) (s : Shared) (I C D : Addr) (n : Nat) (St : Nat → Heap → Prop) (J : Nat → List Value → List (Addr × Obj) → Prop) (k : Nat) (s' : Shared) : Prop
  | mk (i : Nat) (ys : List Value) (mC : Str → Option Value) (nx : List (Addr × Obj)) (h : Heap) (tk : Nat) (e : s' = { s with heap := h, toks := tk }) (hi : i ≤ n) (hk : k = n - i) (hys : ys.length ≤ i) (hS : St i h) (F : Fr h₀ L h m) (hns : h.Ns C mC) (N : News h₀ L h ((D, lst ys) :: nx)) (off : Off3 I C D nx) (hJ : J i ys nx)
theorem comp_walks {RR : Value → Addr → Result → Shared → Prop} {I : Addr} {fp : List Addr} {n : Nat} {P : Nat → Value → Prop} {St : Nat → Heap → Prop} (W : Walks prog w A I fp [I] n P St) (hsz : n ≤ sizeLine)
    (J : Nat → List Value → List (Addr × Obj) → Prop)
    (go : ∀ i v (s : Shared) (Q : Unit → Shared → Prop) (E : Value → Shared → Prop), St i s.heap → Q () s → wpAny (model prog w) A (letOwnedTupleGo target (.ref I) v) Q E s)
    (hSt : ∀ i (h h' : Heap) ys nx o, St i h → h.get? I = some o → h'.get? I = some o → (∀ b o, h₀.get? b = some o → h'.get? b = some o) → News h₀ L h' nx → J i ys nx → St i h')
    (hIo : ∀ i h, St i h → ∃ o, h.get? I = some o)
    (hcell : ∀ y ∈ scope.names, y.2 ≠ .cell) (hkind : scope.kind = .function) (hst : St 0 s.heap) (hfp : ∀ b ∈ fp, b < s.heap.objs.size)
    (F : Fr h₀ L s.heap m) (N : News h₀ L s.heap news) (hIL : I ≠ L) (hI₀ : h₀.get? I = none) (off : Off I news) (h0 : J 0 [] news)
    (turn : ∀ i v ys nx oI oC C D mC h tk, i < n → P i v → J i ys nx → NsObj oC mC → Fr h₀ L h m → News h₀ L h ((I, oI) :: (C, oC) :: (D, lst ys) :: nx) → Off3 I C D nx → ((@Ne Nat I C) ∧ (@Ne Nat I D) ∧ (@Ne Nat C D)) →
      wpAny (model prog w) A (assign target (compEnvC scope cl C env) v) (fun _ s₃ => wpAny (model prog w) A (compTests ifs (compEnvC scope cl C env)) (fun ok s₄ =>
        if ok = true then wpAny (model prog w) A (eval elt (compEnvC scope cl C env)) (fun y s₅ => CompTurn h₀ L m { s with heap := h, toks := tk } I oI C D ys (J (i + 1) (ys ++ [y])) s₅) (fun _ _ => False) s₄
        else CompTurn h₀ L m { s with heap := h, toks := tk } I oI C D ys (J (i + 1) ys) s₄) (fun _ _ => False) s₃) (fun _ _ => False) { s with heap := h, toks := tk })
    (hRR : ∀ D C h tk mC ys nx, J n ys nx → Fr h₀ L h m → News h₀ L h ((D, lst ys) :: nx) → Off D nx → h.Ns C mC → h₀.get? C = none → C ≠ L → C ≠ D → Off C nx → RR (.ref D) C (.ok .next) { s with heap := h, toks := tk }) :
    wpAny (model prog w) A (newList []) (fun acc s₃ => wpAny (model prog w) A (newFunctionEnv scope env.globals cl [] env.qual none .none (some env)) (fun cenv s₄ =>
      codeAny (model prog w) A (.compStart (.ListComp elt [⟨target, iter, ifs, 0⟩] scope pos) 0 (.ref I) acc { cenv with scope := relabel scope env }) (RR acc cenv.locals) s₄) E s₃) E s := by
  refine wpAny_newObj_type (wpAny_newFunctionEnv hcell (by intro y hy; simp at hy) (fun h₁ hns₁ hsb₁ => ?_) hkind)
  dsimp only at hns₁ hsb₁ ⊢
  have hpl : (s.heap.push { cls := .type "list", dict := none, data := .seq ([] : List Value).toArray }).objs.size = s.heap.objs.size + 1 := Heap.size_push _ _
  generalize hG : s.heap.push { cls := .type "list", dict := none, data := .seq ([] : List Value).toArray } = G at hns₁ hsb₁ hpl ⊢
  generalize hCe : G.objs.size = C at hns₁ hsb₁ hpl ⊢
  generalize hDe : s.heap.objs.size = D at hpl hfp ⊢
  have hpl : @Eq Nat C (D + 1) := hpl
  have hfp : ∀ b ∈ fp, @LT.lt Nat _ b D := hfp
  have lt : ∀ {b o}, s.heap.get? b = some o → @LT.lt Nat _ b D := fun e => hDe ▸ Heap.lt_size e
  have hDC : @Ne Nat D C := by omega
  have old : ∀ b o, s.heap.get? b = some o → h₁.get? b = some o := fun b o e => hsb₁.extBut b o (show @Ne Nat b C by have := lt e; omega) (Heap.get?_push_of_some _ (hG ▸ Heap.get?_push_of_some _ e))
  have hacc : h₁.get? D = some (lst []) := hsb₁.extBut _ _ hDC (Heap.get?_push_of_some _ (by rw [← hG, ← hDe]; exact Heap.get?_push_size _ rfl))
  have new₀ : ∀ a, @LE.le Nat _ D a → h₀.get? a = none := fun a ha => by
    cases e : h₀.get? a with
    | none => rfl
    | some o' => exact absurd (lt (F.keep a o' e)) (by omega)
  have hL : @LT.lt Nat _ L D := hDe ▸ F.ns.lt
  obtain ⟨oI₀, hoI₀⟩ := hIo _ _ hst
  have hI : @LT.lt Nat _ I D := lt hoI₀
  have hCf : C ∉ fp := fun hm => by have h9 := hfp _ hm; omega
  have hDf : D ∉ fp := fun hm => by have h9 := hfp _ hm; omega
  have hD₀ := new₀ D (Nat.le_refl _)
  have hC₀ := new₀ C (by omega)
  have hDL : @Ne Nat D L := by omega
  have hCL : @Ne Nat C L := by omega
  have hIC : @Ne Nat I C := by omega
  have hID : @Ne Nat I D := by omega
  have off₀ : Off3 I C D news := Off3.of fun p hp => ⟨off p hp, show @Ne Nat p.1 C by have := lt (N p hp).1; omega, show @Ne Nat p.1 D by have := lt (N p hp).1; omega⟩
  have loop : ∀ s₃ : Shared, s₃ = { s with heap := h₁, toks := s.toks + ([] : List (Str × Value)).length } →
      codeAny (model prog w) A (.compLoop (.ListComp elt [⟨target, iter, ifs, 0⟩] scope pos) 0 (.ref I) (.ref D) (compEnvC scope cl C env)) (RR (.ref D) C) s₃ := by
    rintro s₃ rfl
    refine comp_loop (CompI h₀ L m s I C D n St J) ?_ n
      ⟨0, [], _, news, h₁, _, rfl, Nat.zero_le _, rfl, Nat.le_refl _, W.frame _ _ _ hst fun b _ o e => old b o e, F.keeps old, hns₁, ?_, off₀, h0⟩
    · rintro k s' ⟨i, ys, mC, nx, h, tk, rfl, hi, rfl, hys, hS, F₁, hns, N₁, off₁, hJ⟩
      have o3 := off₁.mem
      have offI : Off I ((D, lst ys) :: nx) := off_cons.mpr ⟨Ne.symm hID, fun p hp => (o3 p hp).1⟩
      by_cases hlt : i < n
      · refine W.item i _ _ _ hlt hS fun v h' tk' hP hS' hk => ?_
        have F₂ := fr_but F₁ hk (Ne.symm hIL) hI₀
        have N₂ := news_but N₁ hk offI
        have hns₂ : h'.Ns C mC := hns.at' fun o e => hk _ o (by simpa using Ne.symm hIC) e
        obtain ⟨oI, hoI⟩ := hIo _ _ hS'
        obtain ⟨oC, hoC, hoN⟩ := ns_obj hns₂
        have N₃ : News h₀ L h' ((I, oI) :: (C, oC) :: (D, lst ys) :: nx) := fun p hp => by
          rcases List.mem_cons.mp hp with rfl | hp
          · exact ⟨hoI, hIL, hI₀⟩
          · rcases List.mem_cons.mp hp with rfl | hp
            · exact ⟨hoC, hCL, hC₀⟩
            · exact N₂ p hp
        have fin : ∀ ys' s', ys'.length ≤ i + 1 → CompTurn h₀ L m { s with heap := h', toks := tk' } I oI C D ys' (J (i + 1) ys') s' →
            ∃ k, k < n - i ∧ CompI h₀ L m s I C D n St J k s' := by
          rintro ys' s' hl ⟨g, tg, oC', mC', nx', rfl, F', N', hC', off', hJ'⟩
          have N'' : News h₀ L g ((D, lst ys') :: nx') := newsDropT (newsDropT N')
          exact ⟨n - (i + 1), by omega, i + 1, ys', mC', nx', g, tg, rfl, hlt, rfl, hl, hSt _ _ _ _ _ _ hS' hoI (N' _ (.head _)).1 F'.keep (newsDropT N'') hJ', F', hC'.ns (N' _ (.tail _ (.head _))).1, N'', off', hJ'⟩
        refine go (i + 1) v _ _ _ hS' ?_
        refine wpAny_mono (turn i v ys nx oI oC C D mC h' tk' hlt hP hJ hoN F₂ N₃ off₁ ⟨hIC, hID, Ne.symm hDC⟩) (fun _ s₃ h₃ => wpAny_mono h₃ (fun ok s₄ h₄ => ?_) fun _ _ e => e) fun _ _ e => e
        cases ok with
        | false =>
          simp only [Bool.false_eq_true, if_false] at h₄ ⊢
          exact fin ys s₄ (by omega) h₄
        | true =>
          simp only [if_true] at h₄ ⊢
          refine wpAny_mono h₄ (fun y s₅ h₅ => ?_) fun _ _ e => e
          obtain ⟨g, tg, oC', mC', nx', rfl, F', N', hC', off', hJ'⟩ := h₅
          refine append_at (hsz := by show ys.toArray.size ≤ sizeLine; rw [List.size_toArray]; omega) (N' _ (.tail _ (.tail _ (.head _)))).1 fun g' hs' hD' => ?_
          have o4 := off'.mem
          refine fin (ys ++ [y]) _ (by rw [List.length_append, List.length_singleton]; omega) ⟨g', tg, oC', mC', nx', rfl, F'.change hs' hDL hD₀, fun p hp => ?_, hC', off', hJ'⟩
          rcases List.mem_cons.mp hp with rfl | hp
          · exact ⟨hs'.extBut _ _ hID (N' _ (.head _)).1, hIL, hI₀⟩
          · rcases List.mem_cons.mp hp with rfl | hp
            · exact ⟨hs'.extBut _ _ (Ne.symm hDC) (N' _ (.tail _ (.head _))).1, hCL, hC₀⟩
            · rcases List.mem_cons.mp hp with rfl | hp
              · exact ⟨hD'.trans (congrArg some (lst_snoc ys y)), hDL, hD₀⟩
              · exact ⟨hs'.extBut _ _ (o4 p hp).2.2 (N' p (.tail _ (.tail _ (.tail _ hp)))).1, (N' p (.tail _ (.tail _ (.tail _ hp)))).2⟩
      · obtain rfl : i = n := by omega
        refine W.done _ _ _ hS fun h' tk' hk => ?_
        exact hRR D C h' tk' mC ys nx hJ (fr_but F₁ hk (Ne.symm hIL) hI₀) (news_but N₁ hk offI) (fun p hp => (o3 p hp).2.2) (hns.at' fun o e => hk _ o (by simpa using Ne.symm hIC) e) hC₀ hCL (Ne.symm hDC) fun p hp => (o3 p hp).2.1
    · intro p hp
      rcases List.mem_cons.mp hp with rfl | hp
      · exact ⟨hacc, hDL, hD₀⟩
      · exact ⟨old _ _ (N p hp).1, (N p hp).2⟩
  exact codeAny_compStart_list (loop _ rfl) (W.self 0 _ _ _ (W.frame _ _ _ hst fun b _ o e => old b o e) (loop _ rfl))
end
end
section
open LCg
section
variable {prog : Program} {w : World} {A : Around} {E : Value → Shared → Prop} {s : Shared} {env : Env} {h₀ : Heap} {L : Addr} {m : Str → Option Value} {news : List (Addr × Obj)} {target elt iter : PySem.Expr} {ifs : List PySem.Expr} {scope : Scope} {cl : List (Str × Addr)} {pos : Pos}
noncomputable def CompAt (prog : Program) (w : World) (A : Around) (env : Env) (target elt iter : PySem.Expr) (ifs : List PySem.Expr) (scope : Scope) (cl : List (Str × Addr)) (pos : Pos) (use : Option (Value → Sem Unit)) (Q : Value → Shared → Prop) (E : Value → Shared → Prop) (it : Value) (s : Shared) : Prop :=
  wpAny (model prog w) A (newList []) (fun acc s₃ => wpAny (model prog w) A (newFunctionEnv scope env.globals cl [] env.qual none .none (some env)) (fun cenv s₄ =>
    codeAny (model prog w) A (.compStart (.ListComp elt [⟨target, iter, ifs, 0⟩] scope pos) 0 it acc { cenv with scope := relabel scope env }) (compPost (model prog w) A E use Q acc cenv.locals) s₄) E s₃) E s
theorem comp_rule {Q : Value → Shared → Prop} (hclos : closureFor scope env = pure cl) (hkind : scope.kind = .function)
    (hnames : ∀ y ∈ scope.names, y.2 = .local → scope.names.lookup y.1 = some .local)
    (h : wpAny (model prog w) A (eval iter env) (fun x s₁ => wpAny (model prog w) A (pyIter x) (CompAt prog w A env target elt iter ifs scope cl pos none Q E) E s₁) E s)
    (hs : ∀ x, foldedSetIterable iter env x = pure x := by intro _; rfl) :
    wpAny (model prog w) A (eval (.ListComp elt [⟨target, iter, ifs, 0⟩] scope pos) env) Q E s := by
  rw [eval_ListComp]
  exact wpAny_comprehension_free (use := none) rfl hs hclos hkind hnames h
noncomputable abbrev CompStep (prog : Program) (w : World) (A : Around) (env : Env) (target elt : PySem.Expr) (ifs : List PySem.Expr) (scope : Scope) (cl : List (Str × Addr)) (h₀ : Heap) (L : Addr) (m : Str → Option Value) (s : Shared) (J : Nat → List Value → List (Addr × Obj) → Prop) (i : Nat) (v : Value) : Prop :=
  ∀ ys nx I oI oC C D mC h tk, J i ys nx → NsObj oC mC → Fr h₀ L h m → News h₀ L h ((I, oI) :: (C, oC) :: (D, lst ys) :: nx) → Off3 I C D nx → ((@Ne Nat I C) ∧ (@Ne Nat I D) ∧ (@Ne Nat C D)) →
      wpAny (model prog w) A (assign target (compEnvC scope cl C env) v) (fun _ s₃ => wpAny (model prog w) A (compTests ifs (compEnvC scope cl C env)) (fun ok s₄ =>
        if ok = true then wpAny (model prog w) A (eval elt (compEnvC scope cl C env)) (fun y s₅ => CompTurn h₀ L m { s with heap := h, toks := tk } I oI C D ys (J (i + 1) (ys ++ [y])) s₅) (fun _ _ => False) s₄
        else CompTurn h₀ L m { s with heap := h, toks := tk } I oI C D ys (J (i + 1) ys) s₄) (fun _ _ => False) s₃) (fun _ _ => False) { s with heap := h, toks := tk }
theorem comp_post {Q : Value → Shared → Prop} {D C : Addr} {h : Heap} {tk : Nat} {mC : Str → Option Value} {ys : List Value} {nx : List (Addr × Obj)}
    (F : Fr h₀ L h m) (N : News h₀ L h ((D, lst ys) :: nx)) (hns : h.Ns C mC) (hC₀ : h₀.get? C = none) (hCL : C ≠ L) (hCD : C ≠ D) (offC : Off C nx)
    (done : ∀ h' tk', Fr h₀ L h' m → News h₀ L h' ((D, lst ys) :: nx) → Q (.ref D) { s with heap := h', toks := tk' }) :
    compPost (model prog w) A E none Q (.ref D) C (.ok .next) { s with heap := h, toks := tk } := by
  refine ⟨mC, hns, fun h' hs => done h' tk (F.change hs hCL hC₀) fun p hp => ⟨hs.extBut _ _ ?_ (N p hp).1, (N p hp).2⟩⟩
  rcases List.mem_cons.mp hp with rfl | hp
  · exact Ne.symm hCD
  · exact offC p hp
theorem comp_list {Q : Value → Shared → Prop} {l : Addr} {its : Array Value} {nn : Nat} (J : Nat → List Value → List (Addr × Obj) → Prop)
    (hh : A.handled = none) (F : Fr h₀ L s.heap m) (N : News h₀ L s.heap news) (hJ : ∀ i ys nx, J i ys nx → (l, W.listOf its nn) ∈ nx) (h0 : J 0 [] news) (hsz : its.size ≤ sizeLine)
    (hcell : ∀ y ∈ scope.names, y.2 ≠ .cell) (hkind : scope.kind = .function)
    (turn : ∀ i v, its[i]? = some v → CompStep prog w A env target elt ifs scope cl h₀ L m s J i v)
    (done : ∀ D h tk ys nx, J its.size ys nx → Fr h₀ L h m → News h₀ L h ((D, lst ys) :: nx) → Off D nx → Q (.ref D) { s with heap := h, toks := tk }) :
    wpAny (model prog w) A (pyIter (.ref l)) (CompAt prog w A env target elt iter ifs scope cl pos none Q E) E s := by
  have hl : s.heap.IsList l its := ⟨_, N.get (hJ 0 _ news h0), rfl, _, rfl⟩
  have hlt : @LT.lt Nat _ l s.heap.objs.size := Heap.lt_size (N.get (hJ 0 _ news h0))
  have up : ∀ b o, s.heap.get? b = some o → (s.heap.push { cls := .type "list_iterator", data := .fields #[.ref l, .int 0 0] }).get? b = some o := fun b o e => Heap.get?_push_of_some _ e
  refine wpAny_pyIter_list hl ?_
  refine comp_walks (Walks.list hh s.heap.objs.size l (Nat.ne_of_lt hlt) its) hsz J ?_ ?_ ?_ hcell hkind ⟨⟨_, Heap.get?_push_size _ rfl, rfl, rfl⟩, hl.push _⟩ ?_ (F.keeps up) (fun p hp => ⟨up _ _ (N p hp).1, (N p hp).2⟩)
    (Nat.ne_of_gt F.ns.lt) (next_is_new F) (fun p hp => Nat.ne_of_lt (Heap.lt_size (N p hp).1)) h0 ?_ ?_
  · rintro i v s Q E ⟨⟨o, ho, hc, hd⟩, _⟩ hQ
    exact go_any ho hc hd (by decide) hQ
  · rintro i h h' ys nx o ⟨⟨oi, hi, hc, hd⟩, _⟩ e1 e2 _ N' hj
    rw [e1] at hi
    obtain rfl := Option.some.inj hi
    exact ⟨⟨_, e2, hc, hd⟩, ⟨_, N'.get (hJ i ys nx hj), rfl, _, rfl⟩⟩
  · rintro i h ⟨⟨oi, hi, _⟩, _⟩
    exact ⟨oi, hi⟩
  · intro b hb
    show b < (s.heap.push _).objs.size
    rw [Heap.size_push]
    rcases List.mem_cons.mp hb with rfl | hb
    · exact Nat.lt_succ_self _
    · rw [List.mem_singleton.mp hb]; exact Nat.lt_succ_of_lt hlt
  · intro i v ys nx oI oC C D mC h tk _ hP hj hn F' N' o3 ne
    exact turn i v hP ys nx _ oI oC C D mC h tk hj hn F' N' o3 ne
  · intro D C h tk mC ys nx hj F' N' oD hns hC₀ hCL hCD oC
    exact comp_post (s := s) F' N' hns hC₀ hCL hCD oC fun h' tk' F'' N'' => done D h' tk' ys nx hj F'' N'' oD
theorem comp_range {Q : Value → Shared → Prop} {r : Addr} {n : Nat} {t0 t1 t2 : Tok} (J : Nat → List Value → List (Addr × Obj) → Prop)
    (hh : A.handled = none) (F : Fr h₀ L s.heap m) (N : News h₀ L s.heap news) (hm : (r, rangeObj (n : Int) t0 t1 t2) ∈ news) (h0 : J 0 [] news) (hn : n ≤ 1000000)
    (hcell : ∀ y ∈ scope.names, y.2 ≠ .cell) (hkind : scope.kind = .function)
    (turn : ∀ i t, i < n → CompStep prog w A env target elt ifs scope cl h₀ L m s J i (.int (i : Int) t))
    (done : ∀ D h tk ys nx, J n ys nx → Fr h₀ L h m → News h₀ L h ((D, lst ys) :: nx) → Off D nx → Q (.ref D) { s with heap := h, toks := tk }) :
    wpAny (model prog w) A (pyIter (.ref r)) (CompAt prog w A env target elt iter ifs scope cl pos none Q E) E s := by
  have hr : IsRange s.heap r 0 (n : Int) 1 t0 t1 t2 := N.get hm
  have up : ∀ o b q, s.heap.get? b = some q → (s.heap.push o).get? b = some q := fun o b q e => Heap.get?_push_of_some _ e
  have hs : Builtin.Range.rangeSize 0 (n : Int) 1 = (n : Int) := by rw [rangeSize_nat]; omega
  refine wpAny_pyIter_range hr (small_one (by decide) (by decide) (by omega) (by omega)) ?_
  rw [hs]
  refine comp_walks (range_walks hh (I := s.heap.objs.size) 0 n) (by rw [sizeLine_eq]; omega) J ?_ ?_ ?_ hcell hkind ?_ ?_ (F.keeps (up _)) (fun p hp => ⟨up _ _ _ (N p hp).1, (N p hp).2⟩)
    (Nat.ne_of_gt F.ns.lt) (next_is_new F) (fun p hp => Nat.ne_of_lt (Heap.lt_size (N p hp).1)) h0 ?_ ?_
  · intro i v s Q E hS hQ
    exact go_any (show s.heap.get? _ = some _ from hS) rfl rfl (by decide) hQ
  · intro i h h' m nx o hS e1 e2 _ _ _
    have hS' : h.get? _ = some _ := hS
    rw [e1] at hS'
    show h'.get? _ = some _
    rw [e2]; exact hS'
  · intro i h hS
    exact ⟨_, hS⟩
  · show IsRangeIter _ _ _ _ _
    simpa using Heap.get?_push_size _ rfl
  · intro b hb
    show b < (s.heap.push _).objs.size
    rw [Heap.size_push, List.mem_singleton.mp hb]
    exact Nat.lt_succ_self _
  · rintro i v ys nx oI oC C D mC h tk hi ⟨t, rfl⟩ hj hn F' N' o3 ne
    rw [Int.zero_add]
    exact turn i t hi ys nx _ oI oC C D mC h tk hj hn F' N' o3 ne
  · intro D C h tk mC ys nx hj F' N' oD hns hC₀ hCL hCD oC
    exact comp_post (s := s) F' N' hns hC₀ hCL hCD oC fun h' tk' F'' N'' => done D h' tk' ys nx hj F'' N'' oD
theorem cname {x : Str} {px : Pos} {v : Value} {Q : Value → Shared → Prop} {C : Addr} {oC : Obj} {mC : Str → Option Value} {led : List (Addr × Obj)} (N : News h₀ L s.heap led) (hm : (C, oC) ∈ led) (hn : NsObj oC mC) (hv : mC x = some v) (h : Q v s)
    (hk : scope.kind = .function := by rfl) (hl : scope.names.lookup x = some .local := by rfl) (hd : (x == ("__debug__" : Str)) = false := by decide) :
    wpAny (model prog w) A (eval (.Name x px) (compEnvC scope cl C env)) Q E s :=
  wpAny_Name (wpAny_loadName_local (by simp [compEnvC, relabel, hk]) (lookup_relabel_local hl) (hn.ns (N.get hm)) hv h) hd
theorem cstore {x : Str} {px : Pos} {v : Value} {Q : Unit → Shared → Prop} {I C D : Addr} {oI oC oD : Obj} {mC : Str → Option Value} {nx : List (Addr × Obj)} (F : Fr h₀ L s.heap m) (N : News h₀ L s.heap ((I, oI) :: (C, oC) :: (D, oD) :: nx)) (hn : NsObj oC mC)
    (off : Off3 I C D nx) (ne : (@Ne Nat I C) ∧ (@Ne Nat I D) ∧ (@Ne Nat C D))
    (h : ∀ h' oC' tk, Fr h₀ L h' m → News h₀ L h' ((I, oI) :: (C, oC') :: (D, oD) :: nx) → NsObj oC' (fun y => if y = x then some v else mC y) → Q () { s with heap := h', toks := tk })
    (hk : scope.kind = .function := by rfl) (hl : scope.names.lookup x = some .local := by rfl) :
    wpAny (model prog w) A (assign (.Name x px) (compEnvC scope cl C env) v) Q E s := by
  have zC := N (C, oC) (.tail _ (.head _))
  refine wpAny_assign_Name (wpAny_storeName_local (lookup_relabel_local hl) (hn.ns zC.1) (fun h' hn' hs => ?_) (by simp [compEnvC, relabel, hk]))
  obtain ⟨oC', hoC, hN⟩ := ns_obj hn'
  refine h h' oC' _ (F.change hs zC.2.1 zC.2.2) (fun p hp => ?_) hN
  have o3 := off.mem
  rcases List.mem_cons.mp hp with rfl | hp
  · exact ⟨hs.extBut _ _ ne.1 (N _ (.head _)).1, (N _ (.head _)).2⟩
  · rcases List.mem_cons.mp hp with rfl | hp
    · exact ⟨hoC, zC.2⟩
    · have z := N p (.tail _ (.tail _ hp))
      refine ⟨hs.extBut _ _ ?_ z.1, z.2⟩
      rcases List.mem_cons.mp hp with rfl | hp
      · exact Ne.symm ne.2.2
      · exact (o3 p hp).2.1
theorem cstore2 {x y : Str} {px py tp : Pos} {tk9} {t : Addr} {v₁ v₂ : Value} {tn : Nat} {Q : Unit → Shared → Prop} {I C D : Addr} {oI oC oD : Obj} {mC : Str → Option Value} {nx : List (Addr × Obj)} (hh : A.handled = none) (F : Fr h₀ L s.heap m) (N : News h₀ L s.heap ((I, oI) :: (C, oC) :: (D, oD) :: nx)) (hn : NsObj oC mC)
    (off : Off3 I C D nx) (ne : (@Ne Nat I C) ∧ (@Ne Nat I D) ∧ (@Ne Nat C D)) (ht : (t, ({ cls := .type "tuple", data := .seq #[v₁, v₂] tn } : Obj)) ∈ nx)
    (h : ∀ h' oC' tk, Fr h₀ L h' m → News h₀ L h' ((I, oI) :: (C, oC') :: (D, oD) :: nx) → NsObj oC' (fun z => if z = y then some v₂ else if z = x then some v₁ else mC z) → Q () { s with heap := h', toks := tk })
    (hk : scope.kind = .function := by rfl) (hl : scope.names.lookup x = some .local := by rfl) (hl2 : scope.names.lookup y = some .local := by rfl) :
    wpAny (model prog w) A (assign (.Tuple [.Name x px, .Name y py] tk9 tp) (compEnvC scope cl C env) (.ref t)) Q E s := by
  have hT : IsTup s.heap t #[v₁, v₂] := ⟨_, (N _ (.tail _ (.tail _ (.tail _ ht)))).1, rfl, tn, rfl⟩
  refine assign_Tuple_tuple hh hT rfl rfl fun g he => ?_
  have he' : ∀ b o, s.heap.get? b = some o → g.get? b = some o := fun b o e => he b o (Nat.ne_of_lt (Heap.lt_size e)) e
  refine assignInOrder_cons (cstore (s := { s with heap := g }) (F.keeps he') (fun p hp => ⟨he' _ _ (N p hp).1, (N p hp).2⟩) hn off ne (fun h₁ oC₁ tk₁ F₁ N₁ hn₁ => ?_) hk hl)
  refine assignInOrder_cons (cstore (s := { s with heap := h₁, toks := tk₁ }) F₁ N₁ hn₁ off ne (fun h₂ oC₂ tk₂ F₂ N₂ hn₂ => ?_) hk hl2)
  exact assignInOrder_nil (h h₂ oC₂ tk₂ F₂ N₂ hn₂)
end
section
variable {h₀ h' : Heap} {L I C D : Addr} {m mC : Str → Option Value} {s : Shared} {oI oC : Obj} {ys : List Value} {J : List (Addr × Obj) → Prop} {all : List (Addr × Obj)} {tk : Nat}
end
section
variable {h₀ h' : Heap} {L I C D : Addr} {m mC : Str → Option Value} {s : Shared} {oI oC : Obj} {ys : List Value} {J : List (Addr × Obj) → Prop} {nx : List (Addr × Obj)} {a b : Addr × Obj} {tk : Nat}
theorem compTurn_0 (F : Fr h₀ L h' m) (N : News h₀ L h' ((I, oI) :: (C, oC) :: (D, lst ys) :: nx)) (hn : NsObj oC mC) (off : Off3 I C D nx) (hJ : J nx) :
    CompTurn h₀ L m s I oI C D ys J { s with heap := h', toks := tk } := ⟨h', tk, oC, mC, nx, rfl, F, N, hn, off, hJ⟩
end
end
section
open LCg
section
variable {prog : Program} {w : World} {A : Around} {E : Value → Shared → Prop} {s : Shared} {env : Env} {h₀ : Heap} {m : Str → Option Value} {news : List (Addr × Obj)} {target elt iter : PySem.Expr} {ifs : List PySem.Expr} {scope : Scope} {cl : List (Str × Addr)} {pos py spos : Pos} {y : Str}
theorem comp_ruleU {Q : Flow → Shared → Prop} (hsw : swapsWith (.ListComp elt [⟨target, iter, ifs, 0⟩] scope pos) (some (.Name y py)) spos.line env = pure true) (hclos : closureFor scope env = pure cl) (hkind : scope.kind = .function)
    (hnames : ∀ y ∈ scope.names, y.2 = .local → scope.names.lookup y.1 = some .local)
    (h : wpAny (model prog w) A (eval iter env) (fun x s₁ => wpAny (model prog w) A (pyIter x) (CompAt prog w A env target elt iter ifs scope cl pos (some (assign (.Name y py) env)) (fun _ s' => Q .next s') E) E s₁) E s)
    (hs : ∀ x, foldedSetIterable iter env x = pure x := by intro _; rfl) :
    wpAny (model prog w) A (exec (.Assign [.Name y py] (.ListComp elt [⟨target, iter, ifs, 0⟩] scope pos) spos) env) Q E s := by
  rw [exec_Assign_Name_used _ _ _ _ hsw]
  refine wpAny_bind (wpAny_standAt (wpAny_bind ?_))
  exact wpAny_bind (wpAny_mono (wpAny_comprehension_free (use := some (assign (.Name y py) env)) (Q := fun _ s' => Q .next s') rfl hs hclos hkind hnames h) (fun _ s' hq => wpAny_pure (wpAny_pure hq)) fun _ _ e => e)
theorem comp_listU {Q : Flow → Shared → Prop} {l L : Addr} {its : Array Value} {nn : Nat} (J : Nat → List Value → List (Addr × Obj) → Prop)
    (hh : A.handled = none) (F : Fr h₀ L s.heap m) (N : News h₀ L s.heap news) (hL : env.locals = L) (hJ : ∀ i ys nx, J i ys nx → (l, W.listOf its nn) ∈ nx) (h0 : J 0 [] news) (hsz : its.size ≤ sizeLine)
    (hcell : ∀ y ∈ scope.names, y.2 ≠ .cell) (hkind : scope.kind = .function) (hy : env.kindOf y = some .local) (hp : (env.scope.kind == .class || (env.scope.kind == .module && env.locals != env.globals)) = false)
    (turn : ∀ i v, its[i]? = some v → CompStep prog w A env target elt ifs scope cl h₀ L m s J i v)
    (done : ∀ D h tk ys nx, J its.size ys nx → Fr h₀ L h (fun z => if z = y then some (.ref D) else m z) → News h₀ L h ((D, lst ys) :: nx) → Off D nx → Q .next { s with heap := h, toks := tk }) :
    wpAny (model prog w) A (pyIter (.ref l)) (CompAt prog w A env target elt iter ifs scope cl pos (some (assign (.Name y py) env)) (fun _ s' => Q .next s') E) E s := by
  subst hL
  have hl : s.heap.IsList l its := ⟨_, N.get (hJ 0 _ news h0), rfl, _, rfl⟩
  have hlt : @LT.lt Nat _ l s.heap.objs.size := Heap.lt_size (N.get (hJ 0 _ news h0))
  have up : ∀ b o, s.heap.get? b = some o → (s.heap.push { cls := .type "list_iterator", data := .fields #[.ref l, .int 0 0] }).get? b = some o := fun b o e => Heap.get?_push_of_some _ e
  refine wpAny_pyIter_list hl ?_
  refine comp_walks (Walks.list hh s.heap.objs.size l (Nat.ne_of_lt hlt) its) hsz J ?_ ?_ ?_ hcell hkind ⟨⟨_, Heap.get?_push_size _ rfl, rfl, rfl⟩, hl.push _⟩ ?_ (F.keeps up) (fun p hp => ⟨up _ _ (N p hp).1, (N p hp).2⟩)
    (Nat.ne_of_gt F.ns.lt) (next_is_new F) (fun p hp => Nat.ne_of_lt (Heap.lt_size (N p hp).1)) h0 ?_ ?_
  · rintro i v s Q E ⟨⟨o, ho, hc, hd⟩, _⟩ hQ
    exact go_any ho hc hd (by decide) hQ
  · rintro i h h' ys nx o ⟨⟨oi, hi, hc, hd⟩, _⟩ e1 e2 _ N' hj
    rw [e1] at hi
    obtain rfl := Option.some.inj hi
    exact ⟨⟨_, e2, hc, hd⟩, ⟨_, N'.get (hJ i ys nx hj), rfl, _, rfl⟩⟩
  · rintro i h ⟨⟨oi, hi, _⟩, _⟩
    exact ⟨oi, hi⟩
  · intro b hb
    show b < (s.heap.push _).objs.size
    rw [Heap.size_push]
    rcases List.mem_cons.mp hb with rfl | hb
    · exact Nat.lt_succ_self _
    · rw [List.mem_singleton.mp hb]; exact Nat.lt_succ_of_lt hlt
  · intro i v ys nx oI oC C D mC h tk _ hP hj hn F' N' o3 ne
    exact turn i v hP ys nx _ oI oC C D mC h tk hj hn F' N' o3 ne
  · intro D C h tk mC ys nx hj F' N' oD hns hC₀ hCL hCD oC
    show wpAny _ A (assign (.Name y py) env (.ref D)) _ _ _
    refine wpAny_assign_Name (wpAny_storeName_local hy F'.ns (fun h₂ hn₂ hs₂ => ?_) hp)
    have hL₀ : h₀.get? env.locals = none := Heap.get?_none_of_le F'.above
    have F₂ : Fr h₀ env.locals h₂ (fun z => if z = y then some (.ref D) else m z) := ⟨hn₂, fun b o e => hs₂.extBut b o (fun q => by rw [q, hL₀] at e; cases e) (F'.keep b o e), F'.above⟩
    refine ⟨mC, hns.sameBut hs₂ hCL, fun h'' hs'' => done D h'' _ ys nx hj (F₂.change hs'' hCL hC₀) (fun p hp => ?_) oD⟩
    have z : h₂.get? p.1 = some p.2 := hs₂.extBut _ _ (N' p hp).2.1 (N' p hp).1
    refine ⟨hs''.extBut _ _ ?_ z, (N' p hp).2⟩
    rcases List.mem_cons.mp hp with rfl | hp
    · exact Ne.symm hCD
    · exact oC p hp
end
end
section
theorem byteArr_octs : ∀ (l : List UInt8), byteArr (l.map fun b => ((b.toNat : Nat) : Int)) = l.toArray := fun l => by
  unfold byteArr
  rw [List.map_map]
  congr 1
  exact (List.map_congr_left (g := _root_.id) fun b _ => by simp).trans (List.map_id _)
theorem bytes_octs {prog : Program} {w : World} {A : Around} {E : Value → Shared → Prop} {s : Shared} {h₀ : Heap} {L D : Addr} {m : PySem.Str → Option Value} {news : List (Addr × Obj)} {vs : List Value} {n : Nat} {l : List UInt8} {Q : Value → Shared → Prop}
    (hh : A.handled = none) (F : Fr h₀ L s.heap m) (N : News h₀ L s.heap news) (hm : (D, W.listOf vs.toArray n) ∈ news) (hi : IntsAre vs (l.map fun b => ((b.toNat : Nat) : Int))) (hz : l.length ≤ 1000000)
    (h : ∀ h' t k, Fr h₀ L h' m → News h₀ L h' news → Q (.bytes l.toArray t) { s with heap := h', toks := k }) : wpAny (model prog w) A (call (.type "bytes") [.ref D]) Q E s := by
  have hl : s.heap.IsList D vs.toArray := ⟨_, N.get hm, rfl, _, rfl⟩
  refine call_bytes_ints hl hi ?_ (by rw [hi.length, List.length_map, sizeLine_eq]; omega) hh fun h' t k hk => ?_
  · intro n hn
    obtain ⟨b, -, rfl⟩ := List.mem_map.mp hn
    have := UInt8.toNat_lt b
    omega
  · rw [byteArr_octs]
    exact h h' t k (F.keptAll hk) (N.grown hk)
theorem tup_made {prog : Program} {w : World} {A : Around} {E : Value → Shared → Prop} {s : Shared} {h₀ : Heap} {L l : Addr} {news : List (Addr × Obj)} {value slice : PySem.Expr} {its : Array Value} {n : Nat} {k : Int} {u : Tok} {v : Value} {Q : Value → Shared → Prop}
    (N : News h₀ L s.heap news) (hm : (l, tupOf its n) ∈ news) (h0 : 0 ≤ k) (hhi : k < 2 ^ 63) (hx : nth? its.toList k.toNat = some v) (h : Q v s)
    (hs : subscripted slice false (.ref l) (.int k u) = operate [.ref l, .int k u] (getItem (.ref l) (.int k u)) := by with_unfolding_all rfl) (hg : ∀ r, letTemporaryGo value (.ref l) r = pure () := by intro _; with_unfolding_all rfl) :
    wpAny (model prog w) A (subscriptTail value slice (.ref l) (.int k u)) Q E s := by
  have ht : IsTup s.heap l its := ⟨_, N.get hm, rfl, _, rfl⟩
  rw [nth?_eq] at hx
  have hlt : k.toNat < its.size := by
    have := (List.getElem?_eq_some_iff.mp hx).1
    simpa using this
  refine item_tuple ht (by omega) hhi (j := k.toNat) ?_ (by simpa using hx) h hs hg
  have hn : ¬ k < 0 := Int.not_lt.mpr h0
  have hs : k < (its.size : Int) := by omega
  unfold seqIndex?
  simp only [hn, if_false, h0, hs, decide_true, Bool.and_self, if_true]
theorem sum_made {prog : Program} {w : World} {A : Around} {E : Value → Shared → Prop} {s : Shared} {h₀ : Heap} {L l : Addr} {m : PySem.Str → Option Value} {news : List (Addr × Obj)} {vs : List Value} {n : Nat} {ns : List Int} {Q : Value → Shared → Prop}
    (hh : A.handled = none) (F : Fr h₀ L s.heap m) (N : News h₀ L s.heap news) (hm : (l, W.listOf vs.toArray n) ∈ news) (hi : IntsAre vs ns)
    (h : ∀ h' tk t', Fr h₀ L h' m → News h₀ L h' news → Q (.int ns.sum t') { s with heap := h', toks := tk }) : wpAny (model prog w) A (call (.builtin "sum") [.ref l]) Q E s :=
  sumK hh F N ⟨_, N.get hm, rfl, _, rfl⟩ hi h
end
section
open PySem.F PySem.Builtin
theorem bj_slot : Slot "bytes" "join" "bytes.join" :=
  .of (owner := "bytes") (n := "join") (by rw [typeLookup_type, builtinLookup_eq_fast]; kernel_rfl) (by decide +kernel) (by decide +kernel) (by decide +kernel)
    (by first | exact .inl (by decide +kernel) | exact .inr (by decide +kernel)) (by rw [isSubtype_type]; kernel_rfl)
theorem bj_type : typeOf (.builtin "bytes.join") = pure (.type "method_descriptor") := by show builtinType _ = _; rw [builtinType_eq_fast]; kernel_rfl
theorem bj_entry : entryFor table "bytes.join" = some Builtin.«bytes.join» := entryFor_of_tree (by kernel_rfl)
theorem bj_args (a b : Value) : argsOk "bytes.join" ⟨[a, b], []⟩ := by
  unfold argsOk; rw [signature?_of (id := "bytes.join") (n := ['n', 'i', 'o', 'j']) (o := ['s', 'e', 't', 'y', 'b']) (by kernel_rfl) FB.owner_bytes]; kernel_rfl
section
variable {b : Array UInt8} {t : Tok}
theorem bj_take {id : String} : Bytes.takeBuffer? id (.bytes b t) 0 = pure (some (b, none)) := by
  unfold Bytes.takeBuffer?
  have hf : ((0 : Int) == Bytes.fullReadOnly) = false := by decide
  rw [KBy.special_eq KBy.look_buffer, KBy.own_buffer]
  simp only [hf, KBy.buffer_eq]
  kernel_rfl
theorem bj_quiet {id : String} : Bytes.takeBufferQuiet? id (.bytes b t) 0 = pure (some (b, none)) := by
  unfold Bytes.takeBufferQuiet?
  rw [bj_take]
  rfl
end
inductive BytesAre : List Value → List (Array UInt8) → Prop
  | nil : BytesAre [] []
  | cons (b : Array UInt8) (t : Tok) {vs : List Value} {bs : List (Array UInt8)} : BytesAre vs bs → BytesAre (.bytes b t :: vs) (b :: bs)
theorem BytesAre.snoc {v : Value} {b : Array UInt8} {t : Tok} (hv : v = .bytes b t) : ∀ {vs : List Value} {bs : List (Array UInt8)}, BytesAre vs bs → BytesAre (vs ++ [v]) (bs ++ [b])
  | _, _, .nil => hv ▸ .cons b t .nil
  | _, _, .cons c u h => .cons c u (h.snoc hv)
theorem BytesAre.len : ∀ {vs : List Value} {bs : List (Array UInt8)}, BytesAre vs bs → vs.length = bs.length
  | _, _, .nil => rfl
  | _, _, .cons _ _ h => congrArg (· + 1) h.len
theorem BytesAre.at : ∀ {vs : List Value} {bs : List (Array UInt8)}, BytesAre vs bs → ∀ {i : Nat}, i < vs.length → ∃ b t, vs[i]? = some (.bytes b t) ∧ bs[i]? = some b
  | _, _, .nil, i, h => absurd h (Nat.not_lt_zero _)
  | _, _, .cons b t h, 0, _ => ⟨b, t, rfl, rfl⟩
  | _, _, .cons _ _ h, i + 1, hi => by
    obtain ⟨b, t, e1, e2⟩ := h.at (i := i) (by simpa using hi)
    exact ⟨b, t, by simpa using e1, by simpa using e2⟩
section
variable {prog : Program} {w : World} {A : Around} {E : Value → Shared → Prop} {s : Shared} {h₀ : Heap} {L : Addr} {m : Str → Option Value} {news : List (Addr × Obj)}
theorem bj_method {M : Model} {b : Array UInt8} {t : Tok} {pl : Sem Bool} {Q : Value × List Value → Shared → Prop} (h : Q (.builtin "bytes.join", [.bytes b t]) s) : wpAny M A (getMethod (.bytes b t) "join" pl) Q E s := by
  with_reducible exact KBd.method_of (.bytes b t) (typeIs_bytes _ _ _) bj_slot bj_type KBd.noRef h
theorem bj_letGo {M : Model} {keep : List Value} {Q : Unit → Shared → Prop} (h : Q () s) : ∀ (l : List (Value × Option Value)), (∀ p ∈ l, p.2 = none) → wpAny M A (Bytes.joinLetGo l keep) Q E s
  | [], _ => by unfold Bytes.joinLetGo; exact wpAny_pure h
  | (x, w) :: r, hn => by
    have hw : w = none := hn _ (.head _)
    subst hw
    unfold Bytes.joinLetGo
    exact wpAny_bind (wpAny_letGo (bj_letGo h r fun p hp => hn p (.tail _ hp)))
theorem bj_zip (bs : List (Array UInt8)) : ∀ (k : Nat) (out : Array UInt8), (bs.zipIdx k).foldl (fun out (x : Array UInt8 × Nat) => (if x.2 > 0 then out ++ #[] else out) ++ x.1) out = out ++ (bs.map (·.toList)).flatten.toArray := by
  induction bs with
  | nil => intro k out; simp
  | cons b bs ih =>
    intro k out
    rw [List.zipIdx_cons, List.foldl_cons, ih]
    have : (if k > 0 then out ++ #[] else out) = out := by split <;> simp
    dsimp only
    rw [this]
    apply Array.toList_inj.mp
    simp
theorem bj_joined (bs : List (Array UInt8)) : Bytes.joined #[] bs = (bs.map (·.toList)).flatten.toArray := by
  unfold Bytes.joined
  have := bj_zip bs 0 #[]
  simpa using this
theorem bj_sum (bs : List (Array UInt8)) : ∀ k : Nat, bs.toArray.foldl (fun n (b : Array UInt8) => n + b.size) k = k + (bs.map (·.size)).sum := by
  intro k
  rw [List.foldl_toArray']
  · induction bs generalizing k with
    | nil => simp
    | cons b bs ih => rw [List.foldl_cons, ih]; simp; omega
  · simp
theorem bj_flat (bs : List (Array UInt8)) : ((bs.map (·.toList)).flatten.toArray).size = (bs.map (·.size)).sum := by
  simp [List.length_flatten, Function.comp_def]
theorem bj_meets {t : Tok} {l : Addr} {vs : List Value} {bs : List (Array UInt8)} (hb : BytesAre vs bs) (hsz : (bs.map (·.size)).sum ≤ 1000000) :
    Meets («bytes.join» ⟨[.bytes #[] t, .ref l], []⟩) (fun _ R s => s.heap.IsList l vs.toArray ∧ ∀ t' k, R (.ok (.ret (.bytes (bs.map (·.toList)).flatten.toArray t'))) { s with toks := k }) := by
  refine .of_wp fun prog w A R s hS => ?_
  obtain ⟨hl, h⟩ := hS
  have hT := hl.typeIs
  obtain ⟨o, ho, hc, n, hdata⟩ := hl
  unfold «bytes.join» Bytes.joinM
  refine wpAny_bind (wpAny_of_eq (a := (.bytes #[] t, .ref l)) rfl ?_)
  dsimp only
  refine wpAny_bind ?_
  refine wpAny_bind (wpAny_typeOf hT (wpAny_pure ?_))
  refine wpAny_bind (wpAny_seqItems ho hdata ?_)
  dsimp only
  refine bm_if_true rfl ?_
  have loop : ∀ {E₀ : Value → Shared → Prop} {Q : Array (Array UInt8) × List (Value × Option Value) → Shared → Prop} {body : Nat → Array (Array UInt8) × List (Value × Option Value) → Sem (ForInStep (Array (Array UInt8) × List (Value × Option Value)))}
      (hbody : ∀ i b u st, i < vs.length → vs[i]? = some (.bytes b u) → (∀ p ∈ st.2, p.2 = none ∧ p.1.onHeap = false) → ∀ Q : ForInStep (Array (Array UInt8) × List (Value × Option Value)) → Shared → Prop, Q (.yield (st.1.push b, st.2 ++ [(.bytes b u, none)])) s → wpAny (model prog w) A.in1 (body i st) Q E₀ s)
      (hK : ∀ tk, (∀ p ∈ tk, p.2 = none) → Q (bs.toArray, tk) s),
      wpAny (model prog w) A.in1 (forIn [:vs.toArray.size] ((#[] : Array (Array UInt8)), ([] : List (Value × Option Value))) body) Q E₀ s := by
    intro E₀ Q body hbody hK
    rw [Std.Legacy.Range.forIn_eq_forIn_range']
    refine wpAny_forIn_list _ (fun rest st s' => s' = s ∧ (∃ i, rest = List.range' i (vs.length - i) ∧ i ≤ vs.length ∧ st.1 = (bs.take i).toArray) ∧ ∀ p ∈ st.2, p.2 = none ∧ p.1.onHeap = false) _ ?_ ?_ _ _ ⟨rfl, ⟨0, by simp [Std.Legacy.Range.size], Nat.zero_le _, by simp⟩, fun _ h => nomatch h⟩
    · rintro x rest st _ ⟨rfl, ⟨i, hr, hi, hst⟩, hn⟩
      have hlt : i < vs.length := by
        rcases Nat.lt_or_ge i vs.length with h | h
        · exact h
        · rw [show vs.length - i = 0 by omega] at hr; cases hr
      rw [show vs.length - i = (vs.length - (i + 1)) + 1 by omega, List.range'_succ] at hr
      obtain ⟨rfl, rfl⟩ := List.cons.inj hr
      obtain ⟨b, u, e1, e2⟩ := hb.at hlt
      refine hbody _ b u st hlt e1 hn _ ⟨rfl, ⟨x + 1, rfl, hlt, ?_⟩, ?_⟩
      · dsimp only
        rw [hst, List.take_add_one, e2]
        simp
      · intro p hp
        rcases List.mem_append.mp hp with hp | hp
        · exact hn p hp
        · rcases List.mem_singleton.mp hp with rfl
          exact ⟨rfl, rfl⟩
    · rintro ⟨a, tk⟩ _ ⟨rfl, ⟨i, hr, hi, hst⟩, hn⟩
      have hi2 : vs.length ≤ i := by
        rcases Nat.lt_or_ge i vs.length with h | h
        · rw [show vs.length - i = (vs.length - (i + 1)) + 1 by omega, List.range'_succ] at hr; cases hr
        · exact h
      dsimp only at hst
      rw [hst, List.take_of_length_le (by rw [← hb.len]; exact hi2)]
      exact hK tk fun p hp => (hn p hp).1
  have go : ∀ i b u (st : Array (Array UInt8) × List (Value × Option Value)), i < vs.length → vs[i]? = some (.bytes b u) → vs.toArray.getD i .none = .bytes b u := by
    intro i b u st hi e
    rw [Array.getD_eq_getD_getElem?]
    simp [e]
  have fin : ∀ tk : List (Value × Option Value), (∀ p ∈ tk, p.2 = none) → wpAny (model prog w) A.in1 (do
      let sep ← Bytes.payload (.bytes #[] t)
      if Bytes.tooLong (bs.toArray.foldl (fun n (b : Array UInt8) => n + b.size) (sep.size * (bs.toArray.size - 1))) then unsupported s!"{s!"{Bytes.Kind.bytes.name}.join"}:memory"
      let result ← Bytes.Kind.bytes.new (Bytes.joined sep bs.toArray.toList)
      holding (result :: tk.flatMap fun (y, u) => y :: u.toList) point
      Bytes.joinLetGo tk [result]
      ret result) (fun fin s' => ∃ v, fin = .done (.ret v) ∧ R (.ok (.ret v)) s') (fun e s' => R (.error e) s') s := by
    intro tk htk
    refine wpAny_bind (wpAny_of_eq (a := #[]) rfl ?_)
    refine bm_if_false ?_ ?_
    · rw [bj_sum]
      exact KBy.tooLong_not (by simp; omega)
    have hbs := bj_flat bs
    refine wpAny_bind ?_
    rw [List.toList_toArray, bj_joined]
    refine wpAny_mkBytes ?_ (by rw [hbs, sizeLine_eq]; omega)
    refine wpAny_bind (wpAny_holding (wpAny_point ?_))
    refine wpAny_bind (bj_letGo ?_ tk htk)
    exact wpAny_pure ⟨_, rfl, h _ _⟩
  rcases vs with _ | ⟨v, _ | ⟨v2, r⟩⟩
  · show wpAny _ _ (forIn _ _ _ >>= _) _ _ _
    refine wpAny_bind ?_
    refine loop ?_ ?_
    · intro i b u st hi e hn Q hQ
      exact absurd hi (Nat.not_lt_zero _)
    · intro tk htk
      exact fin tk htk
  · cases hb with
    | cons b u hb' =>
      cases hb'
      refine wpAny_bind (wpAny_typeOf (typeIs_bytes _ _ _) ?_)
      refine bm_if_true (by decide) ?_
      refine wpAny_bind (wpAny_rule ?_)
      refine wpAny_pure ⟨_, rfl, ?_⟩
      have e := h u s.toks
      rw [show ([b].map (·.toList)).flatten.toArray = b by simp] at e
      exact e
  · show wpAny _ _ (forIn _ _ _ >>= _) _ _ _
    refine wpAny_bind ?_
    refine loop ?_ ?_
    · intro i b u st hi e hn Q hQ
      refine wpAny_bind (wpAny_seqItems ho hdata ?_)
      dsimp only
      rw [go i b u st hi e]
      refine bm_if_false ?_ ?_
      · rw [Bool.or_eq_false_iff]
        exact ⟨rfl, List.any_eq_false.mpr fun p hp => by rw [(hn p hp).2]; decide⟩
      refine wpAny_bind (wpAny_holding ?_)
      refine wpAny_of_eq bj_quiet ?_
      refine wpAny_bind (wpAny_seqItems ho hdata ?_)
      dsimp only
      refine bm_if_false (by simp) ?_
      exact wpAny_pure hQ
    · intro tk htk
      exact fin tk htk
theorem bytes_join {t : Tok} {l : Addr} {vs : List Value} {n : Nat} {bs : List (Array UInt8)} {Q : Value → Shared → Prop} (N : News h₀ L s.heap news) (hm : (l, W.listOf vs.toArray n) ∈ news) (hb : BytesAre vs bs) (hsz : (bs.map (·.size)).sum ≤ 1000000)
    (h : ∀ t' k, Q (.bytes (bs.map (·.toList)).flatten.toArray t') { s with toks := k }) : wpAny (model prog w) A (call (.builtin "bytes.join") [.bytes #[] t, .ref l]) Q E s :=
  call_meets bj_slot (typeIs_bytes _ _ _) bj_entry (bj_args _ _) (bj_meets hb hsz) ⟨⟨_, N.get hm, rfl, _, rfl⟩, h⟩
end
end
section
section
variable {prog : Program} {w : World} {A : Around} {E : Value → Shared → Prop} {s : Shared} {h₀ : Heap} {L : Addr} {m : Str → Option Value} {news : List (Addr × Obj)}
theorem adjust_to (a n : Nat) (ha : a ≤ n) : Builtin.Slice.sliceAdjust none (some (a : Int)) 1 (n : Int) = (0, (a : Int)) := by
  unfold Builtin.Slice.sliceAdjust
  have h1 : ¬ ((1 : Int) < 0) := by omega
  have h2 : ¬ ((a : Int) < 0) := by omega
  simp only [h1, h2, if_false]
  congr 1
  omega
theorem places_to (a : Nat) : Builtin.Slice.slicePlaces 0 (a : Int) 1 = a := by
  unfold Builtin.Slice.slicePlaces
  have h1 : (1 : Int) > 0 := by omega
  simp only [h1, if_true, Int.ediv_one]
  split <;> omega
theorem sliceApplied_to {sl : Addr} {a n : Nat} {u : Tok} {Q : Int × Int × Nat → Shared → Prop} (hs : s.heap.IsSliceOf sl .none (.int a u) .none) (ha : a ≤ n) (h : Q (0, 1, a) s) :
    wpAny (model prog w) A (Builtin.Slice.sliceApplied (.ref sl) (pure (n : Int))) Q E s := by
  obtain ⟨os, hos, hcs, hds⟩ := id hs
  unfold Builtin.Slice.sliceApplied Builtin.Slice.sliceFields
  refine wpAny_bind (wpAny_bind (wpAny_field hos hds (x := .none) rfl (wpAny_bind (wpAny_field hos hds (x := .int a u) rfl (wpAny_bind (wpAny_field hos hds (x := .none) rfl (wpAny_pure ?_)))))))
  refine wpAny_bind (slicePart_none ?_)
  show wpAny _ _ (if ((1 : Int) == 0) = true then _ else _) _ _ s
  rw [if_neg (by decide)]
  refine wpAny_bind (slicePart_none (wpAny_bind (slicePart_int (wpAny_bind (wpAny_pure ?_)))))
  show wpAny _ _ (match Builtin.Slice.sliceAdjust none (some (a : Int)) 1 (n : Int) with | (lo, hi) => pure (lo, (1 : Int), Builtin.Slice.slicePlaces lo hi 1)) _ _ s
  rw [adjust_to a n ha]
  show wpAny _ _ (pure ((0 : Int), (1 : Int), Builtin.Slice.slicePlaces 0 (a : Int) 1)) _ _ s
  rw [places_to a]
  exact wpAny_pure h
theorem pick_to (xs : Array Value) (a : Nat) : ((List.range a).filterMap fun (k : Nat) => xs[((0 : Int) + (k : Int) * 1).toNat]?).toArray = (xs.toList.take a).toArray := by
  have e : (fun (k : Nat) => xs[((0 : Int) + (k : Int) * 1).toNat]?) = fun k => xs[0 + k]? := by
    funext k
    have : ((0 : Int) + (k : Int) * 1).toNat = 0 + k := by omega
    rw [this]
  rw [e]
  have := pick_run xs 0 a
  rw [List.filterMap_map] at this
  have e2 : ((fun x => xs[x]?) ∘ fun x => 0 + x) = fun k => xs[0 + k]? := rfl
  rw [e2] at this
  rw [this, List.drop_zero]
theorem slice_tuple_to {value slice : PySem.Expr} {t : Addr} {items : List Value} {n a : Nat} {u : Tok} {Q : Value → Shared → Prop}
    (F : Fr h₀ L s.heap m) (N : News h₀ L s.heap news) (hm : (t, tupOf items.toArray n) ∈ news) (ha : a < items.length) (hz : items.length ≤ 1000)
    (h : ∀ D n' h', Und D news → Fr h₀ L h' m → News h₀ L h' ((D, tupOf (items.take a).toArray n') :: news) → Q (.ref D) { s with heap := h' })
    (hs : subscripted slice false (.ref t) (.ref s.heap.objs.size) = operate [.ref s.heap.objs.size, .ref t] (getItem (.ref t) (.ref s.heap.objs.size)) := by with_unfolding_all rfl)
    (hg : ∀ r, letTemporaryGo value (.ref t) r = pure () := by intro _; with_unfolding_all rfl) :
    wpAny (model prog w) A (subscriptTail value slice (.ref t) (.ref s.heap.objs.size)) Q E { s with heap := s.heap.push { cls := .type "slice", data := .fields #[.none, .int a u, .none] } } := by
  have ht : IsTup s.heap t items.toArray := ⟨_, N.get hm, rfl, _, rfl⟩
  have ht' : IsTup (s.heap.push { cls := .type "slice", data := .fields #[.none, .int a u, .none] }) t items.toArray := ht.keeps fun _ _ e => Heap.get?_push_of_some _ e
  have hs' : (s.heap.push { cls := .type "slice", data := .fields #[.none, .int a u, .none] }).IsSliceOf s.heap.objs.size .none (.int a u) .none := Heap.IsSliceOf.new ..
  obtain ⟨os, hos, hcs, hds⟩ := id hs'
  have hTs : ({ s with heap := s.heap.push { cls := .type "slice", data := .fields #[.none, .int a u, .none] } } : Shared).TypeIs (.ref s.heap.objs.size) "slice" := ⟨os, hos, hcs⟩
  refine subscriptTail_ops (s := { s with heap := s.heap.push { cls := .type "slice", data := .fields #[.none, .int a u, .none] } }) ht'.typeIs slot_tuple_getitem.lookup ?_ hs hg
  have N1 := News.push (F.push { cls := .type "slice", data := .fields #[.none, .int a u, .none] }) (N.grown fun _ _ e => Heap.get?_push_of_some _ e) { cls := .type "tuple", data := .seq (items.take a).toArray }
  have hU : Und (s.heap.push { cls := .type "slice", data := .fields #[.none, .int a u, .none] }).objs.size news := fun p hp => Heap.lt_size (Heap.get?_push_of_some _ (N p hp).1)
  have hdrop : sizeOk (.seq (items.take a).toArray) := by
    show (items.take a).toArray.size ≤ sizeLine
    rw [List.size_toArray, List.length_take, sizeLine_eq]
    omega
  have H := h _ _ _ hU ((F.push _).push _) N1
  unfold getItem
  try with_reducible refine wpAny_holding ?_
  first | refine wpAny_bind (wpAny_pure ?_) | skip
  refine wpAny_bind (wpAny_sequenceKey ht'.typeIs (by decide) ?_)
  refine wpAny_bind (wpAny_callSpecial?_slot (name := Str.ofString "__getitem__") ht'.typeIs slot_tuple_getitem
    (wpAny_call_entry slot_tuple_getitem ht'.typeIs entry_tuple_getitem ?_ (args_tuple_getitem _ _)))
  show wpAny _ _ (Builtin.Tuple.tupleItemsOf (.ref t) >>= _) _ _ _
  refine wpAny_bind (tupleItemsOf_ ht' ?_)
  refine wpAny_bind (wpAny_typeOf hTs ?_)
  rw [if_pos (by decide)]
  refine wpAny_bind (sliceApplied_to hs' (by rw [List.size_toArray]; omega) ?_)
  have hno : ¬ (((0 : Int) == 0 && (1 : Int) == 1 && a == items.toArray.size) = true) := by
    have : (a == items.toArray.size) = false := by rw [beq_eq_false_iff_ne, List.size_toArray]; omega
    rw [this]; simp
  show wpAny _ _ (if ((0 : Int) == 0 && (1 : Int) == 1 && a == items.toArray.size) = true then _ else _) _ _ _
  rw [if_neg hno, pick_to items.toArray a]
  first
    | exact wpAny_bind (m := Builtin.Tuple.tupleExact _) (wpAny_newObj_type (wpAny_pure ⟨_, rfl, wpAny_pure H⟩) hdrop)
    | exact wpAny_bind (m := Builtin.Tuple.tupleExact _) (wpAny_newObj_type (wpAny_bind (wpAny_pure (wpAny_pure ⟨_, rfl, wpAny_pure H⟩))) hdrop)
    | exact wpAny_bind (wpAny_bind (m := Builtin.Tuple.tupleExact _) (wpAny_newObj_type (wpAny_pure (wpAny_pure ⟨_, rfl, wpAny_pure H⟩)) hdrop))
    | exact wpAny_bind (wpAny_bind (m := Builtin.Tuple.tupleExact _) (wpAny_newObj_type (wpAny_pure ⟨_, rfl, wpAny_pure H⟩) hdrop))
theorem slice_tuple_I {value slice : PySem.Expr} {t : Addr} {items out : List Value} {n : Nat} {k : Int} {u : Tok} {Q : Value → Shared → Prop}
    (F : Fr h₀ L s.heap m) (N : News h₀ L s.heap news) (hm : (t, tupOf items.toArray n) ∈ news) (h0 : 0 ≤ k) (ha : k < (items.length : Int)) (hz : items.length ≤ 1000) (ho : items.take k.toNat = out)
    (h : ∀ D n' h', Und D news → Fr h₀ L h' m → News h₀ L h' ((D, tupOf out.toArray n') :: news) → Q (.ref D) { s with heap := h' })
    (hs : subscripted slice false (.ref t) (.ref s.heap.objs.size) = operate [.ref s.heap.objs.size, .ref t] (getItem (.ref t) (.ref s.heap.objs.size)) := by with_unfolding_all rfl)
    (hg : ∀ r, letTemporaryGo value (.ref t) r = pure () := by intro _; with_unfolding_all rfl) :
    wpAny (model prog w) A (subscriptTail value slice (.ref t) (.ref s.heap.objs.size)) Q E { s with heap := s.heap.push { cls := .type "slice", data := .fields #[.none, .int k u, .none] } } := by
  obtain ⟨a, rfl⟩ := Int.eq_ofNat_of_zero_le h0
  subst ho
  exact slice_tuple_to F N hm (by omega) hz h hs hg
theorem slice_told {value slice : PySem.Expr} {t : Addr} {T : Nat → Tok} {n : Nat} {i o : Int} {mo : Bool} {b : Array UInt8} {u : Tok} {Q : Value → Shared → Prop}
    (F : Fr h₀ L s.heap m) (N : News h₀ L s.heap news) (hm : (t, toldObj T n i mo o b) ∈ news)
    (h : ∀ D n' h', Und D news → Fr h₀ L h' m → News h₀ L h' ((D, tupOf #[.int 10 (T 0), .int 20 (T 1), .int 17 (T 2), .int i (T 3), .int 64 (T 4), .int 0 (T 5), .bool false] n') :: news) → Q (.ref D) { s with heap := h' })
    (hs : subscripted slice false (.ref t) (.ref s.heap.objs.size) = operate [.ref s.heap.objs.size, .ref t] (getItem (.ref t) (.ref s.heap.objs.size)) := by with_unfolding_all rfl)
    (hg : ∀ r, letTemporaryGo value (.ref t) r = pure () := by intro _; with_unfolding_all rfl) :
    wpAny (model prog w) A (subscriptTail value slice (.ref t) (.ref s.heap.objs.size)) Q E { s with heap := s.heap.push { cls := .type "slice", data := .fields #[.none, .int 7 u, .none] } } :=
  slice_tuple_I (items := [.int 10 (T 0), .int 20 (T 1), .int 17 (T 2), .int i (T 3), .int 64 (T 4), .int 0 (T 5), .bool false, .bool mo, .int o (T 6), .bytes b (T 7)]) F N hm (by decide) (by simp) (by simp) rfl h hs hg
end
end
section
open LCg
structure Cx where
  dp : Nat
  un : Nat
  gd : Option (List Code)
  cn : Str
  L : Addr
  a : Addr
  ccd : Value
  cl : List (Str × Addr)
  outer : List Env
  h₀ : Heap
noncomputable abbrev Led := List (Addr × Obj)
noncomputable abbrev Nms := Str → Option Value
noncomputable abbrev PR : Program := PySem.Challenge.rw_nu0133_01.row.prog
noncomputable abbrev Cx.en (c : Cx) (sc : Scope) : Env := envX c.cn sc c.L c.a c.ccd c.cl
noncomputable abbrev Cx.ar (c : Cx) (sc : Scope) : Around := ktrTop c.dp c.un c.gd c.cn sc c.L c.a c.ccd c.cl c.outer
structure LedOk (c : Cx) (h : Heap) (n : Led) : Prop where
  N : News c.h₀ c.L h n
  D : (n.map (·.1)).Nodup
noncomputable def GE {α : Type} (w : World) (c : Cx) (sc : Scope) (m : Nms) (t : Sem α) (n : Led) (P : α → Led → Prop) : Prop :=
  ∀ (s : Shared) (Q : α → Shared → Prop) (E : Value → Shared → Prop), Fr c.h₀ c.L s.heap m → LedOk c s.heap n →
    (∀ a n' h' tk', P a n' → Fr c.h₀ c.L h' m → LedOk c h' n' → Q a { s with heap := h', toks := tk' }) → wpAny (model PR w) (c.ar sc) t Q E s
noncomputable def GS (w : World) (c : Cx) (sc : Scope) (m : Nms) (t : Sem Flow) (n : Led) (R : Flow → Nms → Led → Prop) : Prop :=
  ∀ (s : Shared) (Q : Flow → Shared → Prop) (E : Value → Shared → Prop), Fr c.h₀ c.L s.heap m → LedOk c s.heap n →
    (∀ f m' n' h' tk', R f m' n' → Fr c.h₀ c.L h' m' → LedOk c h' n' → Q f { s with heap := h', toks := tk' }) → wpAny (model PR w) (c.ar sc) t Q E s
noncomputable def EvP (w : World) (c : Cx) (sc : Scope) (m : Nms) (n : Led) (e : PySem.Expr) (P : Value → Prop) : Prop :=
  ∀ (s : Shared) (Q : Value → Shared → Prop) (E : Value → Shared → Prop), Fr c.h₀ c.L s.heap m → LedOk c s.heap n →
    (∀ v h' tk', P v → Fr c.h₀ c.L h' m → LedOk c h' n → Q v { s with heap := h', toks := tk' }) → wpAny (model PR w) (c.ar sc) (eval e (c.en sc)) Q E s
noncomputable def EvT (w : World) (c : Cx) (sc : Scope) (m : Nms) (n : Led) (e : PySem.Expr) (b : Bool) : Prop :=
  ∀ (s : Shared) (Q : Bool → Shared → Prop) (E : Value → Shared → Prop), Fr c.h₀ c.L s.heap m → LedOk c s.heap n →
    (∀ h' tk', Fr c.h₀ c.L h' m → LedOk c h' n → Q b { s with heap := h', toks := tk' }) → wpAny (model PR w) (c.ar sc) (isTrue e (c.en sc) (eval e (c.en sc))) Q E s
noncomputable def Is (v : Value) (u : Value) : Prop := u = v
noncomputable def IsI (i : Int) (u : Value) : Prop := ∃ t, u = .int i t
noncomputable def IsY (b : Array UInt8) (u : Value) : Prop := ∃ t, u = .bytes b t
theorem Is.mk {v : Value} : Is v v := rfl
theorem IsI.mk {i : Int} {t : Tok} : IsI i (.int i t) := ⟨t, rfl⟩
theorem IsY.mk {b : Array UInt8} {t : Tok} : IsY b (.bytes b t) := ⟨t, rfl⟩
theorem IsI.to {i j : Int} {u : Value} (h : IsI i u) (e : i = j) : IsI j u := e ▸ h
inductive CxOk (w : World) (c : Cx) (sc : Scope) (d u : Nat) : Prop
  | mk {A₀ : Around} {base : Heap} {p : Program} {loose : List Str} {mean : ExcName → Option Value} {mg mb : Str → Option Value} (B : Below A₀ base c.outer c.h₀) (X : (t1.heap_1_1 w.params).In c.h₀) (T : Top p loose mean mg mb c.h₀)
      (hk : sc.kind = .function) (hdp : c.dp + d < recursionLimit) (hun : c.un + u < cLine) : CxOk w c sc d u
theorem CxOk.le {w : World} {c : Cx} {sc : Scope} {d u d' u' : Nat} (h : CxOk w c sc d u) (h1 : Nat.ble d' d = true) (h2 : Nat.ble u' u = true) : CxOk w c sc d' u' := by
  obtain ⟨B, X, T, hk, hd, hu⟩ := h
  exact ⟨B, X, T, hk, Nat.lt_of_le_of_lt (Nat.add_le_add_left (Nat.le_of_ble_eq_true h1) _) hd, Nat.lt_of_le_of_lt (Nat.add_le_add_left (Nat.le_of_ble_eq_true h2) _) hu⟩
noncomputable def NM (b : Nms) (l : List (Str × Value)) : Nms := fun y => match l.lookup y with | some v => some v | none => b y
noncomputable def nm0 : Nms := fun _ => none
theorem nm_at {b : Nms} {l : List (Str × Value)} {x : Str} {v : Value} (h : l.lookup x = some v) : NM b l x = some v := by unfold NM; rw [h]
theorem nm_base {b : Nms} {l : List (Str × Value)} {x : Str} {v : Value} (h : l.lookup x = none) (k : b x = some v) : NM b l x = some v := by unfold NM; rw [h]; exact k
theorem nm_set {b : Nms} {l : List (Str × Value)} {x : Str} {v : Value} : (fun y => if y = x then some v else NM b l y) = NM b ((x, v) :: l) := by
  funext y
  unfold NM
  by_cases h : y = x
  · rw [if_pos h, List.lookup_cons, h, beq_self_eq_true]
  · rw [if_neg h, List.lookup_cons, show (y == x) = false by simpa using h]
theorem nm_enter {l : List (Str × Value)} : (fun y => l.lookup y) = NM nm0 l := by
  funext y
  unfold NM nm0
  cases l.lookup y <;> rfl
noncomputable def okL (sc : Scope) (x : Str) : Bool := (sc.kind == .function) && (sc.names.lookup x == some .local) && !(x == ("__debug__" : Str))
noncomputable def okG (sc : Scope) (x : Str) : Bool := (sc.kind == .function) && (sc.names.lookup x == some .globalImplicit) && !(x == ("__debug__" : Str))
section
variable {w : World} {c : Cx} {sc : Scope} {m : Nms} {n n' : Led} {x : Str} {v : Value} {pos : Pos} {e e1 e2 : PySem.Expr} {P P1 P2 : Value → Prop} {i j : Int} {b : Bool} {d u : Nat}
theorem okL_and (h : okL sc x = true) : sc.kind = .function ∧ sc.names.lookup x = some .local ∧ (x == ("__debug__" : Str)) = false := by
  unfold okL at h
  simp only [Bool.and_eq_true, beq_iff_eq, Bool.not_eq_true'] at h
  exact ⟨h.1.1, h.1.2, h.2⟩
theorem okG_and (h : okG sc x = true) : sc.kind = .function ∧ sc.names.lookup x = some .globalImplicit ∧ (x == ("__debug__" : Str)) = false := by
  unfold okG at h
  simp only [Bool.and_eq_true, beq_iff_eq, Bool.not_eq_true'] at h
  exact ⟨h.1.1, h.1.2, h.2⟩
theorem ev_name (hv : m x = some v) (hl : okL sc x = true) (hp : P v) : EvP w c sc m n (.Name x pos) P := fun _ _ _ F N k =>
  nameX_L F hv (k _ _ _ hp F N) (okL_and hl).1 (okL_and hl).2.1 (okL_and hl).2.2
theorem ev_int {k : Nat} : EvP w c sc m n (.Constant (.int i) k pos) (IsI i) := fun _ _ _ F N k => wpAny_Constant_int (k _ _ _ .mk F N)
theorem ev_none {k : Nat} : EvP w c sc m n (.Constant .none k pos) (Is .none) := fun _ _ _ F N k => wpAny_Constant_none (k _ _ _ .mk F N)
theorem ev_bool {k : Nat} : EvP w c sc m n (.Constant (.bool b) k pos) (Is (.bool b)) := fun _ _ _ F N k => wpAny_Constant_bool (k _ _ _ .mk F N)
theorem ev_bin {op : Operator} (a : EvP w c sc m n e1 P1) (b : EvP w c sc m n e2 P2)
    (k : ∀ v1 v2, P1 v1 → P2 v2 → ∀ (A : Around) (s : Shared) (Q E : Value → Shared → Prop), (∀ v tk', P v → Q v { s with toks := tk' }) → wpAny (model PR w) A (binaryOp op v1 v2) Q E s) : EvP w c sc m n (.BinOp e1 op e2 pos) P :=
  fun _ _ _ F N q => wpAny_BinOp (a _ _ _ F N fun v1 _ _ p1 F N => b _ _ _ F N fun v2 _ _ p2 F N => k v1 v2 p1 p2 _ _ _ _ fun v tk' p => q v _ tk' p F N)
theorem ev_add (a : EvP w c sc m n e1 (IsI i)) (b : EvP w c sc m n e2 (IsI j)) : EvP w c sc m n (.BinOp e1 .Add e2 pos) (IsI (i + j)) :=
  ev_bin a b fun _ _ ⟨_, e⟩ ⟨_, e'⟩ _ _ _ _ k => e ▸ e' ▸ PyProof.Rows.add_int (k _ _ .mk)
theorem ev_sub (a : EvP w c sc m n e1 (IsI i)) (b : EvP w c sc m n e2 (IsI j)) : EvP w c sc m n (.BinOp e1 .Sub e2 pos) (IsI (i - j)) :=
  ev_bin a b fun _ _ ⟨_, e⟩ ⟨_, e'⟩ _ _ _ _ k => e ▸ e' ▸ PyProof.Rows.sub_int (k _ _ .mk)
noncomputable def Cp (w : World) (op : CmpOp) (P1 P2 : Value → Prop) (b : Bool) : Prop :=
  ∀ v1 v2, P1 v1 → P2 v2 → ∀ (A : Around) (s : Shared) (Q E : Value → Shared → Prop), (∀ tk', Q (.bool b) { s with toks := tk' }) → wpAny (model PR w) A (compareOp op v1 v2) Q E s
theorem ev_cmp {op : CmpOp} (a : EvP w c sc m n e1 P1) (b' : EvP w c sc m n e2 P2) (k : Cp w op P1 P2 b) (hm : behindInMarks op e2 = false := by with_unfolding_all rfl) : EvT w c sc m n (.Compare e1 [op] [e2] pos) b :=
  fun _ _ _ F N q => wpAny_isTrue_Compare1 (a _ _ _ F N fun v1 _ _ p1 F N => b' _ _ _ F N fun v2 _ _ p2 F N => k v1 v2 p1 p2 _ _ _ _ fun tk' => wpAny_truthy_bool (q _ tk' F N)) hm
theorem cp_lt : Cp w .Lt (IsI i) (IsI j) (decide (i < j)) := fun _ _ ⟨_, e⟩ ⟨_, e'⟩ _ _ _ _ k => e ▸ e' ▸ PyProof.Rows.lt_int (k _)
theorem cp_le : Cp w .LtE (IsI i) (IsI j) (decide (i ≤ j)) := fun _ _ ⟨_, e⟩ ⟨_, e'⟩ _ _ _ _ k => e ▸ e' ▸ PyProof.Rows.le_int (k _)
theorem cp_gt : Cp w .Gt (IsI i) (IsI j) (decide (j < i)) := fun _ _ ⟨_, e⟩ ⟨_, e'⟩ _ _ _ _ k => e ▸ e' ▸ PyProof.Rows.gt_int (k _)
theorem cp_ge : Cp w .GtE (IsI i) (IsI j) (decide (j ≤ i)) := fun _ _ ⟨_, e⟩ ⟨_, e'⟩ _ _ _ _ k => e ▸ e' ▸ PyProof.Rows.ge_int (k _)
theorem cp_eq : Cp w .Eq (IsI i) (IsI j) (i == j) := fun _ _ ⟨_, e⟩ ⟨_, e'⟩ _ _ _ _ k => e ▸ e' ▸ PyProof.Rows.eq_int (k _)
theorem cp_ne : Cp w .NotEq (IsI i) (IsI j) (i != j) := fun _ _ ⟨_, e⟩ ⟨_, e'⟩ _ _ _ _ k => e ▸ e' ▸ PyProof.Rows.ne_int (k _)
end
end
section
open LCg
section
variable {w : World} {c : Cx} {sc : Scope} {m m' : Nms} {n n' n'' : Led} {x nm : Str} {v : Value} {pos ap xp : Pos} {e e1 e2 : PySem.Expr} {P P1 P2 : Value → Prop} {i j : Int} {b : Bool} {d u : Nat}
theorem ge_ev {K : Value → Led → Prop} (h : EvP w c sc m n e P) (k : ∀ v, P v → K v n) : GE w c sc m (eval e (c.en sc)) n K := fun s Q E F N q => h s Q E F N fun v _ _ p F N => q _ _ _ _ (k v p) F N
theorem ge_v {K : Value → Led → Prop} (h : EvP w c sc m n e (Is v)) (k : K v n) : GE w c sc m (eval e (c.en sc)) n K := ge_ev h fun _ p => p ▸ k
theorem GE.mono {α : Type} {t : Sem α} {K K' : α → Led → Prop} (h : GE w c sc m t n K) (k : ∀ a n', K a n' → K' a n') : GE w c sc m t n K' := fun s Q E F N q => h s Q E F N fun a n' h' tk' p => q a n' h' tk' (k a n' p)
theorem LedOk.perm {h : Heap} (N : LedOk c h n) (p : n.Perm n') : LedOk c h n' := ⟨newsSub N.N fun q hq => p.mem_iff.mpr hq, (p.map _).nodup_iff.mp N.D⟩
theorem GE.pp {α : Type} {t : Sem α} {K : α → Led → Prop} (h : GE w c sc m t n (fun v n' => ∃ n'', n'.Perm n'' ∧ K v n'')) : GE w c sc m t n K := fun s Q E F N q => h s Q E F N fun v n' h' tk' ⟨n'', p, k⟩ F' N' => q v n'' h' tk' k F' (N'.perm p)
noncomputable def AttrIn (w : World) (C : Addr) (nm : Str) : Prop := ∃ attr, plainGet (t1.heap_1_1 w.params) C nm = true ∧ hasDictIn (t1.heap_1_1 w.params) C = true ∧ findIn (t1.heap_1_1 w.params) (.ref C) nm = some attr ∧ noGet (t1.heap_1_1 w.params) attr = true
noncomputable def ObjAt (nm : Str) (o : Obj) (v : Value) : Prop := ∃ es k, o = dictOf es k ∧ getL nm es = some (some v) ∧ handedIn v = true
theorem ev_attr {a C dx : Addr} {o : Obj} (ok : CxOk w c sc d u) (hv : m x = some (.ref a)) (hl : okL sc x = true) (h1 : (a, instObj C dx) ∈ n) (h2 : (dx, o) ∈ n) (hc : AttrIn w C nm) (ho : ObjAt nm o v) (hp : P v)
    (he : ∀ env, eval (.Attribute (.Name x xp) nm pos) env = (do
      let o ← eval (.Name x xp) env
      standAt pos.atName
      let r ← holding [o] (getAttr o nm true)
      letTemporaryGo (.Name x xp) o r
      pure r) := by intro env; with_unfolding_all rfl) : EvP w c sc m n (.Attribute (.Name x xp) nm pos) P := fun s Q E F N k => by
  obtain ⟨B, X, T, -, -, -⟩ := ok
  obtain ⟨attr, c1, c2, c3, c4⟩ := hc
  obtain ⟨es, k', rfl, hl', hh⟩ := ho
  exact PyProof.Rows.Attribute_Name_ (nameX_L F hv (get_own F X (InstAt.of_news N.N h1 h2) c1 c2 c3 c4 hl' hh (k _ _ _ hp F N)) (okL_and hl).1 (okL_and hl).2.1 (okL_and hl).2.2) (he _)
noncomputable def MethIn (w : World) (C : Addr) (nm : Str) (f : Addr) : Prop := plainGet (t1.heap_1_1 w.params) C nm = true ∧ findIn (t1.heap_1_1 w.params) (.ref C) nm = some (some (.ref f)) ∧ isFn (t1.heap_1_1 w.params) (.ref f) = true ∧ keepIn (t1.heap_1_1 w.params) (.ref f) = true
noncomputable def ObjNo (nm : Str) (o : Obj) : Prop := ∃ es k, o = dictOf es k ∧ getL nm es = some none
theorem ga_nil {K : List Value → Led → Prop} (k : K [] n) : GE w c sc m (spliced (backTo pos (starEach [] (c.en sc)))) n K := fun s Q E F N q => PyProof.Rows.args_nil (q _ _ _ _ k F N)
theorem ga_cons {es : List PySem.Expr} {K : List Value → Led → Prop} (h : GE w c sc m (eval e (c.en sc)) n (fun v n' => GE w c sc m (spliced (backTo pos (starEach es (c.en sc)))) n' (fun vs n'' => K (v :: vs) n'')))
    (he : ∀ env, starEach (e :: es) env = (false, eval e env) :: starEach es env := by intro _; rfl) : GE w c sc m (spliced (backTo pos (starEach (e :: es) (c.en sc)))) n K := fun s Q E F N q =>
  PyProof.Rows.args_cons (h s _ E F N fun v n' h' tk' k F N => k _ _ E F N fun vs n'' h' tk' k F N => q _ _ _ _ k F N) (he _)
end
section
variable {w : World} {c : Cx} {sc : Scope} {m : Nms} {n : Led} {e : PySem.Expr} {es : List PySem.Expr} {pos : Pos} {j : Int} {b : Array UInt8} {K : List Value → Led → Prop} {v : Value}
theorem ga_i (h : EvP w c sc m n e (IsI j)) (k : ∀ t, GE w c sc m (spliced (backTo pos (starEach es (c.en sc)))) n (fun vs n'' => K (.int j t :: vs) n'')) (he : ∀ env, starEach (e :: es) env = (false, eval e env) :: starEach es env := by intro _; rfl) : GE w c sc m (spliced (backTo pos (starEach (e :: es) (c.en sc)))) n K := ga_cons (ge_ev h fun _ ⟨t, q⟩ => q ▸ k t) he
theorem ga_y (h : EvP w c sc m n e (IsY b)) (k : ∀ t, GE w c sc m (spliced (backTo pos (starEach es (c.en sc)))) n (fun vs n'' => K (.bytes b t :: vs) n'')) (he : ∀ env, starEach (e :: es) env = (false, eval e env) :: starEach es env := by intro _; rfl) : GE w c sc m (spliced (backTo pos (starEach (e :: es) (c.en sc)))) n K := ga_cons (ge_ev h fun _ ⟨t, q⟩ => q ▸ k t) he
theorem ga_v (h : EvP w c sc m n e (Is v)) (k : GE w c sc m (spliced (backTo pos (starEach es (c.en sc)))) n (fun vs n'' => K (v :: vs) n'')) (he : ∀ env, starEach (e :: es) env = (false, eval e env) :: starEach es env := by intro _; rfl) : GE w c sc m (spliced (backTo pos (starEach (e :: es) (c.en sc)))) n K := ga_cons (ge_v h k) he
theorem ge_i {K : Value → Led → Prop} (h : EvP w c sc m n e (IsI j)) (k : ∀ t, K (.int j t) n) : GE w c sc m (eval e (c.en sc)) n K := ge_ev h fun _ ⟨t, q⟩ => q ▸ k t
end
section
variable {w : World} {c : Cx} {sc : Scope} {m m' : Nms} {n n' n'' : Led} {x nm : Str} {v : Value} {pos ap xp : Pos} {e e1 e2 : PySem.Expr} {P P1 P2 : Value → Prop} {i j : Int} {b : Bool} {d u : Nat}
theorem ge_meth {pl : Env → Sem Bool} {o : PySem.Expr} {a C dx f : Addr} {ob : Obj} {es : List PySem.Expr} {K : Value → Led → Prop} (ok : CxOk w c sc d u) (ho : EvP w c sc m n o (Is (.ref a))) (h1 : (a, instObj C dx) ∈ n) (h2 : (dx, ob) ∈ n) (hm : MethIn w C nm f) (hn : ObjNo nm ob)
    (k : GE w c sc m (spliced (backTo pos (starEach (e :: es) (c.en sc)))) n (fun vs n' => GE w c sc m (call (.ref f) (.ref a :: vs)) n' K))
    (he : ∀ env, eval (.Call (.Attribute o nm ap) (e :: es) [] pos) env = (do
      let ov ← eval o env
      standAt ap.atName
      let (f, first) ← holding [ov] (getMethod ov nm (pl env))
      callWith pos f first (backTo pos (starEach (e :: es) env)) []) := by intro _; rfl)
    (hs : ∀ env, starEach (e :: es) env = (false, eval e env) :: starEach es env := by intro _; rfl) (hp : ∀ env, (backTo pos (starEach es env)).any (·.1) = false := by intro _; rfl) :
    GE w c sc m (eval (.Call (.Attribute o nm ap) (e :: es) [] pos) (c.en sc)) n K := fun s Q E F N q => by
  obtain ⟨B, X, T, -, -, -⟩ := ok
  obtain ⟨c1, c2, c3, c4⟩ := hm
  obtain ⟨es', k', rfl, hl'⟩ := hn
  refine PyProof.Rows.MethodCall_ (ho s _ E F N fun v h' tk' p F N => ?_) (he _)
  obtain rfl : v = .ref a := p
  refine method_inst F X (InstAt.of_news N.N h1 h2) c1 c2 c3 hl' (callWith_K X c4 (k _ _ E F N fun vs n' h' tk' k F N => ?_) (hs _) (hp _))
  exact ⟨X.keeps F.keep, k _ Q E F N q⟩
end
section
variable {w : World} {c : Cx} {sc : Scope} {m m' : Nms} {n n' n'' : Led} {x nm : Str} {v : Value} {pos ap xp tp : Pos} {e e1 e2 : PySem.Expr} {P P1 P2 : Value → Prop} {i j : Int} {b : Bool} {d u : Nat} {rest body orelse : List Stmt} {R : Flow → Nms → Led → Prop} {p : Prop}
noncomputable def RK (w : World) (c : Cx) (sc : Scope) (rest : List Stmt) (R : Flow → Nms → Led → Prop) : Flow → Nms → Led → Prop
  | .next, m, n => GS w c sc m (execs rest (c.en sc)) n R
  | f, m, n => R f m n
theorem rk_next (h : GS w c sc m (execs rest (c.en sc)) n R) : RK w c sc rest R .next m n := h
theorem rk_ret (h : R (.ret v) m n) : RK w c sc rest R (.ret v) m n := h
theorem rk_cont (h : R .cont m n) : RK w c sc rest R .cont m n := h
theorem rk_brk (h : R .brk m n) : RK w c sc rest R .brk m n := h
theorem gs_nil (h : R .next m n) : GS w c sc m (execs [] (c.en sc)) n R := fun s Q E F N q => wpAny_execs_nil (q _ _ _ _ _ h F N)
noncomputable def noComp : PySem.Expr → Bool
  | .ListComp .. | .SetComp .. | .DictComp .. => false
  | _ => true
theorem swaps_no {t : Option PySem.Expr} {l : Nat} {env : Env} (h : noComp e = true) : swapsWith e t l env = pure false := by
  unfold noComp at h
  unfold swapsWith
  split at h
  · cases h
  · cases h
  · cases h
  · rename_i h1 h2 h3
    split
    · rename_i hq
      split at hq
      · exact absurd rfl (h1 _ _ _ _)
      · exact absurd rfl (h2 _ _ _ _)
      · exact absurd rfl (h3 _ _ _ _ _)
      · cases hq
    · rfl
theorem GS.cons {st : Stmt} (h : GS w c sc m (exec st (c.en sc)) n (RK w c sc rest R)) : GS w c sc m (execs (st :: rest) (c.en sc)) n R := fun s Q E F N q =>
  wpAny_execs_cons (h s _ E F N fun f m' n' h' tk' k F N => by
    cases f with
    | next => exact k _ Q E F N q
    | _ => exact q _ _ _ _ _ k F N)
theorem gs_let {bm : Nms} {l : List (Str × Value)} (hl : okL sc x = true) (hc : noComp e = true) (h : GE w c sc (NM bm l) (eval e (c.en sc)) n (fun v n' => GS w c sc (NM bm ((x, v) :: l)) (execs rest (c.en sc)) n' R)) : GS w c sc (NM bm l) (execs (.Assign [.Name x tp] e pos :: rest) (c.en sc)) n R :=
  .cons fun s Q E F N q => wpAny_Assign_Name (h s _ E F N fun v n' h' tk' k F N => storeX_L F N.N (fun h' F N' => q _ _ _ _ _ k (nm_set ▸ F) ⟨N', N.D⟩) (okL_and hl).1 (okL_and hl).2.1) (swaps_no hc)
theorem gs_ret (h : GE w c sc m (eval e (c.en sc)) n (fun v n' => R (.ret v) m n')) : GS w c sc m (execs (.Return (some e) pos :: rest) (c.en sc)) n R :=
  .cons fun s Q E F N q => wpAny_Return_some (h s _ E F N fun v n' h' tk' k F N => q _ _ _ _ _ k F N)
theorem gs_if (h : GE w c sc m (isTrue e (c.en sc) (eval e (c.en sc))) n (fun b n' => if b = true then GS w c sc m (execs body (c.en sc)) n' (RK w c sc rest R) else GS w c sc m (execs orelse (c.en sc)) n' (RK w c sc rest R))) :
    GS w c sc m (execs (.If e body orelse pos :: rest) (c.en sc)) n R :=
  .cons fun s Q E F N q => wpAny_If (h s _ E F N fun b n' h' tk' k F N => by
    cases b with
    | true => exact k _ Q E F N q
    | false => exact k _ Q E F N q)
theorem gs_ifp [Decidable p] (t : EvT w c sc m n e (decide p)) (h1 : p → GS w c sc m (execs body (c.en sc)) n (RK w c sc rest R)) (h2 : ¬ p → GS w c sc m (execs orelse (c.en sc)) n (RK w c sc rest R)) :
    GS w c sc m (execs (.If e body orelse pos :: rest) (c.en sc)) n R := gs_if fun s Q E F N q => t s Q E F N fun h' tk' F N => q _ _ _ _ (by
      dsimp only
      by_cases hp : p
      · rw [if_pos (decide_eq_true hp)]; exact h1 hp
      · rw [if_neg (by simpa using hp)]; exact h2 hp) F N
theorem gs_if0 [Decidable p] (t : EvT w c sc m n e (decide p)) (h1 : p → GS w c sc m (execs body (c.en sc)) n (RK w c sc rest R)) (h2 : ¬ p → GS w c sc m (execs rest (c.en sc)) n R) :
    GS w c sc m (execs (.If e body [] pos :: rest) (c.en sc)) n R := gs_ifp t h1 fun hp => gs_nil (rk_next (h2 hp))
theorem gs_ifT (t : EvT w c sc m n e true) (h1 : GS w c sc m (execs body (c.en sc)) n (RK w c sc rest R)) : GS w c sc m (execs (.If e body orelse pos :: rest) (c.en sc)) n R :=
  gs_if fun s Q E F N q => t s Q E F N fun h' tk' F N => q _ _ _ _ (by dsimp only; rw [if_pos rfl]; exact h1) F N
theorem gs_ifF (t : EvT w c sc m n e false) (h2 : GS w c sc m (execs orelse (c.en sc)) n (RK w c sc rest R)) : GS w c sc m (execs (.If e body orelse pos :: rest) (c.en sc)) n R :=
  gs_if fun s Q E F N q => t s Q E F N fun h' tk' F N => q _ _ _ _ (by dsimp only; rw [if_neg (by decide)]; exact h2) F N
theorem gs_ifF0 (t : EvT w c sc m n e false) (h2 : GS w c sc m (execs rest (c.en sc)) n R) : GS w c sc m (execs (.If e body [] pos :: rest) (c.en sc)) n R := gs_ifF t (gs_nil (rk_next h2))
theorem gs_expr (hc : noComp e = true) (h : GE w c sc m (eval e (c.en sc)) n (fun _ n' => GS w c sc m (execs rest (c.en sc)) n' R)) (hi : ∀ c : Cx, interactive (c.en sc) = false := by intro _; rfl) :
    GS w c sc m (execs (.Expr e pos :: rest) (c.en sc)) n R :=
  .cons fun s Q E F N q => wpAny_Expr_any (h s _ E F N fun v n' h' tk' k F N => q _ _ _ _ _ k F N) (hi c) (swaps_no hc)
end
section
variable {w : World} {c : Cx} {sc : Scope} {m : Nms} {n : Led} {x : Str} {v : Value} {pos : Pos} {e1 e2 : PySem.Expr} {P : Value → Prop} {i j : Int} {d u : Nat}
theorem ev_glob (ok : CxOk w c sc d u) (e : nsIn (t1.heap_1_1 w.params) mainGlobals x = some (some v)) (hl : okG sc x = true) (hp : P v) : EvP w c sc m n (.Name x pos) P := fun s Q E F N k => by
  obtain ⟨B, X, T, -, -, -⟩ := ok
  exact nameX_K F X (topRead_of T) e (k _ _ _ hp F N) (okG_and hl).1 (okG_and hl).2.1 (okG_and hl).2.2
theorem ev_mul (a : EvP w c sc m n e1 (IsI i)) (b : EvP w c sc m n e2 (IsI j)) (hb : PySem.IntMulOk i j) : EvP w c sc m n (.BinOp e1 .Mult e2 pos) (IsI (i * j)) :=
  ev_bin a b fun _ _ ⟨_, e⟩ ⟨_, e'⟩ _ _ _ _ k => e ▸ e' ▸ PyProof.Rows.mul_int (k _ _ .mk) hb
end
end
section
noncomputable abbrev hoObj (P : Params) (T : Nat → Tok) (most : Int) (lr : Addr) : Obj := dictOf [⟨PyData.keyHash P (Str.ofString "most"), .str (Str.ofString "most") (T 0), .int most (T 2)⟩, ⟨PyData.keyHash P (Str.ofString "rows"), .str (Str.ofString "rows") (T 1), .ref lr⟩] 2
noncomputable abbrev dgObj (P : Params) (T : Nat → Tok) (began most : Int) (hx lp : Addr) (en : Value) (ahead : Int) (first : Value) (size : Int) : Obj :=
  dictOf [⟨PyData.keyHash P (Str.ofString "began"), .str (Str.ofString "began") (T 0), .int began (T 8)⟩, ⟨PyData.keyHash P (Str.ofString "most"), .str (Str.ofString "most") (T 1), .int most (T 9)⟩,
    ⟨PyData.keyHash P (Str.ofString "holes"), .str (Str.ofString "holes") (T 2), .ref hx⟩, ⟨PyData.keyHash P (Str.ofString "parts"), .str (Str.ofString "parts") (T 3), .ref lp⟩,
    ⟨PyData.keyHash P (Str.ofString "end"), .str (Str.ofString "end") (T 4), en⟩, ⟨PyData.keyHash P (Str.ofString "ahead"), .str (Str.ofString "ahead") (T 5), .int ahead (T 10)⟩,
    ⟨PyData.keyHash P (Str.ofString "first"), .str (Str.ofString "first") (T 6), first⟩, ⟨PyData.keyHash P (Str.ofString "size"), .str (Str.ofString "size") (T 7), .int size (T 11)⟩] 8
noncomputable abbrev reObj (P : Params) (T : Nat → Tok) (tl mo most : Int) (wd : Addr) : Obj :=
  dictOf [⟨PyData.keyHash P (Str.ofString "time_limit"), .str (Str.ofString "time_limit") (T 0), .int tl (T 4)⟩, ⟨PyData.keyHash P (Str.ofString "most_octets"), .str (Str.ofString "most_octets") (T 1), .int mo (T 5)⟩,
    ⟨PyData.keyHash P (Str.ofString "most"), .str (Str.ofString "most") (T 2), .int most (T 6)⟩, ⟨PyData.keyHash P (Str.ofString "waiting"), .str (Str.ofString "waiting") (T 3), .ref wd⟩] 4
noncomputable def PairIs (led : List (Addr × Obj)) (v : Value) (x : Nat × Nat) : Prop := ∃ (t : Addr) (n : Nat) (u u' : Tok), v = .ref t ∧ (t, tupOf #[.int (x.1 : Int) u, .int (x.2 : Int) u'] n) ∈ led
noncomputable def PartIs (led : List (Addr × Obj)) (v : Value) (x : Nat × Array UInt8) : Prop := ∃ (t : Addr) (n : Nat) (u u' : Tok), v = .ref t ∧ (t, tupOf #[.int (x.1 : Int) u, .bytes x.2 u'] n) ∈ led
noncomputable def AllAre {α : Type} (R : Value → α → Prop) : List Value → List α → Prop
  | [], [] => True
  | v :: vs, x :: xs => R v x ∧ AllAre R vs xs
  | _, _ => False
section
variable {α : Type} {R R' : Value → α → Prop}
theorem AllAre.imp (h : ∀ v x, R v x → R' v x) : ∀ {vs : List Value} {xs : List α}, AllAre R vs xs → AllAre R' vs xs
  | [], [], _ => trivial
  | _ :: _, _ :: _, a => ⟨h _ _ a.1, a.2.imp h⟩
  | [], _ :: _, a => a.elim
  | _ :: _, [], a => a.elim
theorem AllAre.snoc {v : Value} {x : α} (hv : R v x) : ∀ {vs : List Value} {xs : List α}, AllAre R vs xs → AllAre R (vs ++ [v]) (xs ++ [x])
  | [], [], _ => ⟨hv, trivial⟩
  | _ :: _, _ :: _, a => ⟨a.1, a.2.snoc hv⟩
  | [], _ :: _, a => a.elim
  | _ :: _, [], a => a.elim
theorem AllAre.len : ∀ {vs : List Value} {xs : List α}, AllAre R vs xs → vs.length = xs.length
  | [], [], _ => rfl
  | _ :: _, _ :: _, a => congrArg (· + 1) a.2.len
  | [], _ :: _, a => a.elim
  | _ :: _, [], a => a.elim
theorem AllAre.at : ∀ {vs : List Value} {xs : List α}, AllAre R vs xs → ∀ {k : Nat} {v : Value}, vs[k]? = some v → ∃ x, xs[k]? = some x ∧ R v x
  | [], [], _, k, v, h => by simp at h
  | w :: vs, s :: ss, h, 0, v, e => ⟨s, by simp, by simp at e; exact e ▸ h.1⟩
  | w :: vs, s :: ss, h, k + 1, v, e => by
    obtain ⟨s', e', h'⟩ := h.2.at (k := k) (v := v) (by simpa using e)
    exact ⟨s', by simpa using e', h'⟩
  | [], _ :: _, h, _, _, _ => h.elim
  | _ :: _, [], h, _, _, _ => h.elim
end
theorem PairIs.mono {led led' : List (Addr × Obj)} (hs : Ext led led') (v : Value) (x : Nat × Nat) (h : PairIs led v x) : PairIs led' v x := by
  obtain ⟨t, n, u, u', e, hm⟩ := h
  exact ⟨t, n, u, u', e, hs _ hm⟩
theorem PartIs.mono {led led' : List (Addr × Obj)} (hs : Ext led led') (v : Value) (x : Nat × Array UInt8) (h : PartIs led v x) : PartIs led' v x := by
  obtain ⟨t, n, u, u', e, hm⟩ := h
  exact ⟨t, n, u, u', e, hs _ hm⟩
noncomputable def fillF (b e : Nat) : List (Nat × Nat) → List (Nat × Nat)
  | [] => []
  | (l, h) :: r => if max l b < min h e then (max l b, min h e) :: fillF b e r else fillF b e r
noncomputable def fillR (b e : Nat) : List (Nat × Nat) → List (Nat × Nat)
  | [] => []
  | (l, h) :: r => if max l b < min h e then (if l < max l b then [(l, max l b)] else []) ++ ((if min h e < h then [(min h e, h)] else []) ++ fillR b e r) else (l, h) :: fillR b e r
theorem fillF_app (b e : Nat) : ∀ (x y : List (Nat × Nat)), fillF b e (x ++ y) = fillF b e x ++ fillF b e y
  | [], y => rfl
  | (l, h) :: r, y => by
    simp only [List.cons_append, fillF, fillF_app b e r y]
    split <;> simp
theorem fillR_app (b e : Nat) : ∀ (x y : List (Nat × Nat)), fillR b e (x ++ y) = fillR b e x ++ fillR b e y
  | [], y => rfl
  | (l, h) :: r, y => by
    simp only [List.cons_append, fillR, fillR_app b e r y]
    split <;> simp
theorem fillF_len (b e : Nat) : ∀ (x : List (Nat × Nat)), (fillF b e x).length ≤ x.length
  | [] => Nat.le_refl _
  | (l, h) :: r => by
    have := fillF_len b e r
    simp only [fillF]
    split <;> simp <;> omega
theorem fillR_len (b e : Nat) : ∀ (x : List (Nat × Nat)), (fillR b e x).length ≤ 2 * x.length
  | [] => Nat.le_refl _
  | (l, h) :: r => by
    have := fillR_len b e r
    simp only [fillR]
    split
    · split <;> split <;> simp <;> omega
    · simp; omega
theorem fillF_at {b e i lo hi : Nat} {rows : List (Nat × Nat)} (h : rows[i]? = some (lo, hi)) : fillF b e (rows.take (i + 1)) = fillF b e (rows.take i) ++ (if max lo b < min hi e then [(max lo b, min hi e)] else []) := by
  rw [List.take_add_one, h, fillF_app]
  congr 1
theorem fillR_at {b e i lo hi : Nat} {rows : List (Nat × Nat)} (h : rows[i]? = some (lo, hi)) : fillR b e (rows.take (i + 1)) = fillR b e (rows.take i) ++ (if max lo b < min hi e then (if lo < max lo b then [(lo, max lo b)] else []) ++ (if min hi e < hi then [(min hi e, hi)] else []) else [(lo, hi)]) := by
  rw [List.take_add_one, h, fillR_app]
  congr 1
  show fillR b e [(lo, hi)] = _
  simp only [fillR]
  rw [List.append_nil]
theorem PairIs.back {led : List (Addr × Obj)} (xs : List (Addr × Obj)) (v : Value) (x : Nat × Nat) (h : PairIs led v x) : PairIs (xs ++ led) v x := PairIs.mono (Ext.app Ext.rfl) v x h
theorem PartIs.back {led : List (Addr × Obj)} (xs : List (Addr × Obj)) (v : Value) (x : Nat × Array UInt8) (h : PartIs led v x) : PartIs (xs ++ led) v x := PartIs.mono (Ext.app Ext.rfl) v x h
theorem AllAre.last {α : Type} {R : Value → α → Prop} : ∀ {vs : List Value} {xs : List α}, AllAre R vs xs → (vs = [] ∧ xs = []) ∨ ∃ v x, vs.getLast? = some v ∧ xs.getLast? = some x ∧ R v x
  | [], [], _ => .inl ⟨rfl, rfl⟩
  | [v], [x], h => .inr ⟨v, x, rfl, rfl, h.1⟩
  | v :: w :: vs, x :: y :: xs, h => by
    rcases AllAre.last (vs := w :: vs) (xs := y :: xs) h.2 with ⟨e, _⟩ | ⟨v', x', h1, h2, h3⟩
    · cases e
    · exact .inr ⟨v', x', by rw [List.getLast?_cons_cons]; exact h1, by rw [List.getLast?_cons_cons]; exact h2, h3⟩
  | [], _ :: _, h => h.elim
  | _ :: _, [], h => h.elim
  | [_], _ :: _ :: _, h => h.2.elim
  | _ :: _ :: _, [_], h => h.2.elim
noncomputable def reachV (rows : List (Nat × Nat)) (most : Nat) : Nat := match rows.getLast? with
  | some (lo, hi) => if hi = most then lo else most
  | none => most
end
section
theorem AllAre.app {α : Type} {R : Value → α → Prop} {v2 : List Value} {x2 : List α} (h2 : AllAre R v2 x2) : ∀ {v1 : List Value} {x1 : List α}, AllAre R v1 x1 → AllAre R (v1 ++ v2) (x1 ++ x2)
  | [], [], _ => h2
  | _ :: _, _ :: _, h => ⟨h.1, h2.app h.2⟩
  | [], _ :: _, h => h.elim
  | _ :: _, [], h => h.elim
theorem AllAre.no {α : Type} {R : Value → α → Prop} : AllAre R [] [] := trivial
theorem AllAre.one {α : Type} {R : Value → α → Prop} {v : Value} {x : α} (h : R v x) : AllAre R [v] [x] := ⟨h, trivial⟩
theorem AllAre.two {α : Type} {R : Value → α → Prop} {v v' : Value} {x x' : α} (h : R v x) (h' : R v' x') : AllAre R [v, v'] [x, x'] := ⟨h, h', trivial⟩
theorem fillZ {a c n i k : Nat} (h : a = c) (h2 : c ≤ k * min i n) (h3 : n ≤ 1000) (hk : k ≤ 2) : a ≤ 1000000 := h ▸ Nat.le_trans h2 (Nat.le_trans (Nat.mul_le_mul hk (Nat.le_trans (Nat.min_le_right _ _) h3)) (by decide))
theorem fillZ2 {a c n i : Nat} (h : a = c) (h2 : c ≤ 2 * min i n) (h3 : n ≤ 1000) : a ≤ 2000 := h ▸ Nat.le_trans h2 (Nat.mul_le_mul_left 2 (Nat.le_trans (Nat.min_le_right _ _) h3))
section
variable {lo hi b e : Nat}
theorem fillMax : (if (b : Int) > (lo : Int) then (b : Int) else (lo : Int)) = ((max lo b : Nat) : Int) := by split <;> omega
theorem fillMin : (if (e : Int) < (hi : Int) then (e : Int) else (hi : Int)) = ((min hi e : Nat) : Int) := by split <;> omega
theorem fillC0 (h : (if (e : Int) < (hi : Int) then (e : Int) else (hi : Int)) ≤ (if (b : Int) > (lo : Int) then (b : Int) else (lo : Int))) : ¬ max lo b < min hi e := by rw [fillMax, fillMin] at h; omega
theorem fillC1 (h : ¬ (if (e : Int) < (hi : Int) then (e : Int) else (hi : Int)) ≤ (if (b : Int) > (lo : Int) then (b : Int) else (lo : Int))) : max lo b < min hi e := by rw [fillMax, fillMin] at h; omega
theorem fillC2 (h : (lo : Int) < (if (b : Int) > (lo : Int) then (b : Int) else (lo : Int))) : lo < max lo b := by rw [fillMax] at h; omega
theorem fillN2 (h : ¬ (lo : Int) < (if (b : Int) > (lo : Int) then (b : Int) else (lo : Int))) : ¬ lo < max lo b := by rw [fillMax] at h; omega
theorem fillC3 (h : (if (e : Int) < (hi : Int) then (e : Int) else (hi : Int)) < (hi : Int)) : min hi e < hi := by rw [fillMin] at h; omega
theorem fillN3 (h : ¬ (if (e : Int) < (hi : Int) then (e : Int) else (hi : Int)) < (hi : Int)) : ¬ min hi e < hi := by rw [fillMin] at h; omega
end
end
section
structure HdS where
  more : Bool
  off : Nat
  opt : Array UInt8
structure DgS where
  began : Int
  rows : List (Nat × Nat)
  parts : List (Nat × Array UInt8)
  en : Option Nat
  ahead : Nat
  first : Option HdS
  size : Nat
noncomputable def OptIs (v : Value) : Option Nat → Prop
  | none => v = .none
  | some e => ∃ t, v = .int (e : Int) t
noncomputable def FirstIs (P : Params) (im : List (Addr × Obj)) (i : Int) (v : Value) : Option HdS → Prop
  | none => v = .none
  | some h => ∃ x, v = .ref x ∧ HdrIs P im x i h.more (h.off : Int) h.opt
theorem FirstIs.mono {P : Params} {im im' : List (Addr × Obj)} {i : Int} {v : Value} (hs : Ext im im') : ∀ {o : Option HdS}, FirstIs P im i v o → FirstIs P im' i v o
  | none, h => h
  | some _, ⟨x, e, h⟩ => ⟨x, e, h.mono hs⟩
noncomputable def against (most : Nat) (rows : List (Nat × Nat)) (en : Option Nat) (ahead e : Nat) (mo : Bool) : Bool :=
  if most < e then true else if mo = true then (match en with | some z => decide (z ≤ e) | none => false)
  else match en with | some z => decide (e ≠ z) | none => decide (e < reachV rows most) || (decide (e ≤ ahead) && decide (0 < e))
noncomputable def partOf (b : Nat) (pl : Array UInt8) (q : Nat × Nat) : Nat × Array UInt8 := (q.1, ((pl.toList.drop (q.1 - b)).take (q.2 - q.1)).toArray)
noncomputable def sumLen : List (Nat × Nat) → Nat
  | [] => 0
  | q :: r => (q.2 - q.1) + sumLen r
theorem sumLen_app : ∀ (x y : List (Nat × Nat)), sumLen (x ++ y) = sumLen x + sumLen y
  | [], y => by simp [sumLen]
  | q :: r, y => by simp only [List.cons_append, sumLen, sumLen_app r y]; omega
theorem fillF_mem {b e : Nat} : ∀ {rows : List (Nat × Nat)} {q : Nat × Nat}, q ∈ fillF b e rows → b ≤ q.1 ∧ q.1 < q.2 ∧ q.2 ≤ e
  | [], q, h => nomatch h
  | (l, u) :: r, q, h => by
    simp only [fillF] at h
    split at h
    · rcases List.mem_cons.mp h with rfl | h
      · dsimp only; omega
      · exact fillF_mem h
    · exact fillF_mem h
noncomputable def dgPut (most : Nat) (d : DgS) (h : HdS) (pl : Array UInt8) : Option DgS :=
  if against most d.rows d.en d.ahead (h.off + pl.size) h.more = true then none else
  some { began := d.began
         rows := if h.more = true ∨ d.en.isSome = true then fillR h.off (h.off + pl.size) d.rows else fillR (h.off + pl.size) most (fillR h.off (h.off + pl.size) d.rows)
         parts := d.parts ++ (fillF h.off (h.off + pl.size) d.rows).map (partOf h.off pl)
         en := if h.more = true then d.en else some (d.en.getD (h.off + pl.size))
         ahead := if h.more = true then max d.ahead (h.off + pl.size) else d.ahead
         first := if h.off = 0 ∧ d.first.isNone = true then some h else d.first
         size := d.size + sumLen (fillF h.off (h.off + pl.size) d.rows) }
structure DgC where
  dd : Addr
  hdx : Addr
  lp : Addr
  hx : Addr
  lr : Addr
  TT : Nat → Tok
  Tk : Nat → Tok
  np : Nat
  nr : Nat
  vp : List Value
  vr : List Value
  ev : Value
  fv : Value
noncomputable def foot (P : Params) (most : Nat) (c : DgC) (d : DgS) : List (Addr × Obj) :=
  [(c.dd, dgObj P c.TT d.began most c.hx c.lp c.ev d.ahead c.fv d.size), (c.hdx, hoObj P c.Tk most c.lr), (c.lp, W.listOf c.vp.toArray c.np)]
structure DgIn (P : Params) (im : List (Addr × Obj)) (i : Int) (x : Addr) (c : DgC) (d : DgS) : Prop where
  inst : (x, instObj 177 c.dd) ∈ im
  hole : (c.hx, instObj 123 c.hdx) ∈ im
  lr : (c.lr, W.listOf c.vr.toArray c.nr) ∈ im
  rows : AllAre (PairIs im) c.vr d.rows
  parts : AllAre (PartIs im) c.vp d.parts
  en : OptIs c.ev d.en
  first : FirstIs P im i c.fv d.first
theorem DgIn.mono {P : Params} {im im' : List (Addr × Obj)} {i : Int} {x : Addr} {c : DgC} {d : DgS} (hs : Ext im im') (D : DgIn P im i x c d) : DgIn P im' i x c d :=
  ⟨hs _ D.inst, hs _ D.hole, hs _ D.lr, D.rows.imp (PairIs.mono hs), D.parts.imp (PartIs.mono hs), D.en, D.first.mono hs⟩
theorem PartIs.at {led : List (Addr × Obj)} {t : Addr} {n : Nat} {p : Int} {q : Array UInt8} {u u' : Tok} {x : Nat} {y : Array UInt8} (h : (t, tupOf #[.int p u, .bytes q u'] n) ∈ led) (e1 : p = (x : Int)) (e2 : q = y) : PartIs led (.ref t) (x, y) := by
  subst e1 e2
  exact ⟨t, n, u, u', rfl, h⟩
theorem sumLen_at {Fs : List (Nat × Nat)} {k lo hi : Nat} (h : Fs[k]? = some (lo, hi)) : sumLen (Fs.take (k + 1)) = sumLen (Fs.take k) + (hi - lo) := by
  rw [List.take_add_one, h, sumLen_app]
  rfl
theorem map_at {α β : Type} {f : α → β} {Fs : List α} {k : Nat} {x : α} (h : Fs[k]? = some x) : (Fs.take (k + 1)).map f = (Fs.take k).map f ++ [f x] := by
  rw [List.take_add_one, h, List.map_append]
  rfl
section
variable {most : Nat} {began : Int} {rows : List (Nat × Nat)} {parts : List (Nat × Array UInt8)} {en : Option Nat} {ahead size off : Nat} {first : Option HdS} {mo : Bool} {opt pl : Array UInt8}
noncomputable def firstOf (first : Option HdS) (h : HdS) : Option HdS := if h.off = 0 ∧ first.isNone = true then some h else first
theorem dgPut_more (ha : against most rows en ahead (off + pl.size) mo = false) (hm : mo = true) : dgPut most ⟨began, rows, parts, en, ahead, first, size⟩ ⟨mo, off, opt⟩ pl =
    some ⟨began, fillR off (off + pl.size) rows, parts ++ (fillF off (off + pl.size) rows).map (partOf off pl), en, max ahead (off + pl.size), firstOf first ⟨mo, off, opt⟩, size + sumLen (fillF off (off + pl.size) rows)⟩ := by
  subst hm
  unfold dgPut
  dsimp only
  rw [if_neg (by rw [ha]; decide), if_pos (.inl rfl), if_pos rfl, if_pos rfl]
  rfl
theorem dgPut_end (ha : against most rows none ahead (off + pl.size) mo = false) (hm : mo = false) : dgPut most ⟨began, rows, parts, none, ahead, first, size⟩ ⟨mo, off, opt⟩ pl =
    some ⟨began, fillR (off + pl.size) most (fillR off (off + pl.size) rows), parts ++ (fillF off (off + pl.size) rows).map (partOf off pl), some (off + pl.size), ahead, firstOf first ⟨mo, off, opt⟩, size + sumLen (fillF off (off + pl.size) rows)⟩ := by
  subst hm
  unfold dgPut
  dsimp only
  rw [if_neg (by rw [ha]; decide), if_neg (by decide), if_neg (by decide), if_neg (by decide)]
  rfl
theorem dgPut_last {z : Nat} (ha : against most rows (some z) ahead (off + pl.size) mo = false) (hm : mo = false) : dgPut most ⟨began, rows, parts, some z, ahead, first, size⟩ ⟨mo, off, opt⟩ pl =
    some ⟨began, fillR off (off + pl.size) rows, parts ++ (fillF off (off + pl.size) rows).map (partOf off pl), some z, ahead, firstOf first ⟨mo, off, opt⟩, size + sumLen (fillF off (off + pl.size) rows)⟩ := by
  subst hm
  unfold dgPut
  dsimp only
  rw [if_neg (by rw [ha]; decide), if_pos (.inr rfl), if_neg (by decide), if_neg (by decide)]
  rfl
theorem firstOf_0 {h : HdS} (e : (h.off : Int) = 0) : firstOf none h = some h := if_pos ⟨by omega, rfl⟩
theorem firstOf_n {h : HdS} (e : (h.off : Int) ≠ 0) : firstOf none h = none := if_neg fun z => e (by omega)
theorem firstOf_s {h z : HdS} : firstOf (some z) h = some z := if_neg fun q => Bool.noConfusion (q.2 : false = true)
theorem maxIf (a b : Nat) : (if ((b : Nat) : Int) > (a : Int) then (b : Int) else (a : Int)) = ((max a b : Nat) : Int) := by split <;> omega
end
theorem drop_at {α : Type} {xs : List α} {k : Nat} {x : α} (h : xs[k]? = some x) : xs.drop k = x :: xs.drop (k + 1) := by
  obtain ⟨hk, e⟩ := List.getElem?_eq_some_iff.mp h
  rw [List.drop_eq_getElem_cons hk, e]
end
section
open LCg
section
variable {w : World} {c : Cx} {sc : Scope} {m : Nms} {n : Led} {d u : Nat}
theorem g_enter {name qual : Str} {params : Arguments} {body : List Stmt} {scope : Scope} {dV kV doc pm cdv ct oc : Value} {an od : Option Addr} {osl : Array (Option Value)} {f : Addr} {vs : List Value} {P : Value → Led → Prop} (binds : List (Str × Value)) {l : List (Str × Value)} (hbl : binds.reverse = l)
    (ok : CxOk w c sc (d + 1) (u + 3)) (ho : (t1.heap_1_1 w.params).lookup f = some ⟨oc, od, .func (fnOf name qual params body scope dV kV doc pm an cdv ct), osl⟩) (hcd : codeIn (t1.heap_1_1 w.params) cdv qual = true)
    (hbind : ∀ s : Shared, BindsTo s (fnOf name qual params body scope dV kV doc pm an cdv ct) ⟨vs, []⟩ binds) (hloc : (binds.all fun x => decide (scope.names.lookup x.1 = some .local)) = true)
    (hco : (scope.isCoroutine || scope.isGenerator || !(scope.kind == .function) || scope.names.any fun x => x.2 == .cell) = false)
    (h : ∀ c' : Cx, CxOk w c' scope d u → GS w c' scope (NM nm0 l) (execs body (c'.en scope)) n (fun fl _ n' => P (match (generalizing := false) fl with | .ret v => v | _ => .none) n')) :
    GE w c sc m (call (.ref f) vs) n P := fun s Q E F N q => by
  obtain ⟨B, X, T, hk, hdp, hun⟩ := ok
  subst hbl
  simp only [Bool.or_eq_false_iff, Bool.not_eq_false', beq_iff_eq] at hco
  refine wpAny_call (code_def (env := c.en sc) (outer := c.outer) B F X N.N T rfl rfl hk ho hcd (Nat.lt_of_le_of_lt (Nat.le_add_right _ _) hdp) (hbind s) (locs hloc) ?_ hco.1.1.1 hco.1.1.2 hco.1.2 ?_)
  · intro g L' h₁ FG F' N' B' X' T'
    refine h ⟨c.dp + 1, c.un + 3, c.gd, qual, L', f, cdv, [], c.en sc :: c.outer, g⟩ ⟨B', X', T', hco.1.2, ?_, ?_⟩ _ _ _ (nm_enter ▸ F') ⟨N', N.D⟩ fun fl m' n' h' tk' p F'' N'' => leaveK_ F'' N''.N fun F N => ?_
    · rw [Nat.add_assoc, Nat.add_comm 1]; exact hdp
    · rw [Nat.add_assoc, Nat.add_comm 3]; exact hun
    · exact q _ _ _ _ p F ⟨N, N''.D⟩
  · intro x hx e
    have := List.any_eq_false.mp hco.2 x hx
    rw [e] at this
    exact this rfl
end
end
section
section
variable {w : World} {c : Cx} {sc : Scope} {m : Nms} {n n' : Led} {x nm : Str} {v : Value} {pos xp ap : Pos} {e e1 e2 f : PySem.Expr} {P : Value → Prop} {i j : Int} {d u : Nat} {b q : Bool} {es : List PySem.Expr}
noncomputable def plainTest : PySem.Expr → Bool
  | .Call .. | .Attribute .. | .Name .. | .Subscript .. => true
  | _ => false
theorem isTrue_plain {env : Env} {whole : Sem Value} (h : plainTest e = true) : isTrue e env whole = (do let v ← whole; standAt e.pos; holding [v] (truthy v)) := by
  unfold plainTest at h
  split at h <;> first | rfl | cases h
theorem ge_test {K : Bool → Led → Prop} (hp : plainTest e = true) (h : GE w c sc m (eval e (c.en sc)) n (fun v n' => ∃ b, v = .bool b ∧ K b n')) : GE w c sc m (isTrue e (c.en sc) (eval e (c.en sc))) n K := fun s Q E F N q =>
  wpAny_isTrue_value (h s _ E F N fun v n' h' tk' ⟨b, e, k⟩ F N => e ▸ wpAny_truthy_bool (q _ _ _ _ k F N)) (isTrue_plain hp)
theorem ev_tb (hp : plainTest e = true) (a : EvP w c sc m n e (Is (.bool b))) : EvT w c sc m n e b := fun s Q E F N q =>
  wpAny_isTrue_value (a s _ E F N fun v h' tk' e F N => e ▸ wpAny_truthy_bool (q _ _ F N)) (isTrue_plain hp)
theorem EvT.ge {K : Bool → Led → Prop} (t : EvT w c sc m n e b) (k : K b n) : GE w c sc m (isTrue e (c.en sc) (eval e (c.en sc))) n K := fun s Q E F N q => t s Q E F N fun _ _ F N => q _ _ _ _ k F N
theorem evt_and (a : EvT w c sc m n e1 b) (k : b = true → EvT w c sc m n e2 q) : EvT w c sc m n (.BoolOp .And [e1, e2] pos) (b && q) := fun s Q E F N r =>
  isTrue_and (a s _ E F N fun h' tk' F N => by
    cases b with
    | false => exact r _ _ F N
    | true => exact isTrue_and (k rfl _ _ E F N fun h' tk' F N => by
        cases q with
        | false => exact r _ _ F N
        | true => exact isTrue_and_nil (r _ _ F N)))
theorem ge_builtin {id : String} {K : Value → Led → Prop} (ok : CxOk w c sc d u) (h1 : nsIn (t1.heap_1_1 w.params) mainGlobals x = some none) (h2 : bootBuiltins x = some (.builtin id)) (h3 : x ≠ "__name__") (hl : okG sc x = true)
    (k : GE w c sc m (spliced (backTo pos (starEach (e :: es) (c.en sc)))) n (fun vs n' => GE w c sc m (call (.builtin id) vs) n' K))
    (hs : ∀ env, starEach (e :: es) env = (false, eval e env) :: starEach es env := by intro _; rfl) (hp : ∀ env, (backTo pos (starEach es env)).any (·.1) = false := by intro _; rfl) :
    GE w c sc m (eval (.Call (.Name x xp) (e :: es) [] pos) (c.en sc)) n K := fun s Q E F N r => by
  obtain ⟨B, X, T, -, -, -⟩ := ok
  exact Call_ (nameX_B F X (topRead_of T) h1 h2 h3 (callWith_builtin1 (k _ _ E F N fun vs n' h' tk' k F N => k _ Q E F N r) (hs _) (hp _)) (okG_and hl).1 (okG_and hl).2.1 (okG_and hl).2.2)
theorem ge_call {g : Value} {K : Value → Led → Prop} (ok : CxOk w c sc d u) (h1 : nsIn (t1.heap_1_1 w.params) mainGlobals x = some (some g)) (h2 : keepIn (t1.heap_1_1 w.params) g = true) (hl : okG sc x = true)
    (k : GE w c sc m (spliced (backTo pos (starEach (e :: es) (c.en sc)))) n (fun vs n' => GE w c sc m (call g vs) n' K))
    (hs : ∀ env, starEach (e :: es) env = (false, eval e env) :: starEach es env := by intro _; rfl) (hp : ∀ env, (backTo pos (starEach es env)).any (·.1) = false := by intro _; rfl) :
    GE w c sc m (eval (.Call (.Name x xp) (e :: es) [] pos) (c.en sc)) n K := fun s Q E F N r => by
  obtain ⟨B, X, T, -, -, -⟩ := ok
  exact Call_ (nameX_K F X (topRead_of T) h1 (callWith_K (first := []) X h2 (k _ _ E F N fun vs n' h' tk' k F N => ⟨X.keeps F.keep, k _ Q E F N r⟩) (hs _) (hp _)) (okG_and hl).1 (okG_and hl).2.1 (okG_and hl).2.2)
theorem ge_len {bs : Array UInt8} {t : Tok} {K : Value → Led → Prop} (hz : bs.size ≤ 1099511627776) (k : ∀ v, IsI (bs.size : Int) v → K v n) : GE w c sc m (call (.builtin "len") [.bytes bs t]) n K := fun s Q E F N r => by
  k_steps
  exact r _ _ _ _ (k _ .mk) F N
theorem ge_max {t t' : Tok} {K : Value → Led → Prop} (ok : CxOk w c sc d u) (k : ∀ v, IsI (if j > i then j else i) v → K v n) : GE w c sc m (call (.builtin "max") [.int i t, .int j t']) n K := fun s Q E F N r => by
  obtain ⟨B, X, T, -, -, -⟩ := ok
  obtain ⟨N, D⟩ := N
  k_steps
  exact r _ _ _ _ (k _ .mk) (by k_asm) ⟨by k_asm, D⟩
theorem ev_b1 {id : String} {P P1 : Value → Prop} (ok : CxOk w c sc d u) (h1 : nsIn (t1.heap_1_1 w.params) mainGlobals x = some none) (h2 : bootBuiltins x = some (.builtin id)) (h3 : x ≠ "__name__") (hl : okG sc x = true) (a : EvP w c sc m n e1 P1)
    (k : ∀ v1, P1 v1 → GE w c sc m (call (.builtin id) [v1]) n (fun v n' => P v ∧ n' = n))
    (s1 : ∀ env, starEach [e1] env = (false, eval e1 env) :: starEach [] env := by intro _; rfl) : EvP w c sc m n (.Call (.Name x xp) [e1] [] pos) P := fun s Q E F N r =>
  (ge_builtin (K := fun v n' => P v ∧ n' = n) ok h1 h2 h3 hl (ga_cons (ge_ev a fun v1 p1 => ga_nil (k v1 p1)) s1) s1 fun _ => rfl) s Q E F N fun v n' h' tk' k F' N' => r v h' tk' k.1 F' (k.2 ▸ N')
theorem ev_b2 {id : String} {P P1 P2 : Value → Prop} (ok : CxOk w c sc d u) (h1 : nsIn (t1.heap_1_1 w.params) mainGlobals x = some none) (h2 : bootBuiltins x = some (.builtin id)) (h3 : x ≠ "__name__") (hl : okG sc x = true) (a : EvP w c sc m n e1 P1) (b : EvP w c sc m n e2 P2)
    (k : ∀ v1 v2, P1 v1 → P2 v2 → GE w c sc m (call (.builtin id) [v1, v2]) n (fun v n' => P v ∧ n' = n))
    (s1 : ∀ env, starEach [e1, e2] env = (false, eval e1 env) :: starEach [e2] env := by intro _; rfl) (s2 : ∀ env, starEach [e2] env = (false, eval e2 env) :: starEach [] env := by intro _; rfl) :
    EvP w c sc m n (.Call (.Name x xp) [e1, e2] [] pos) P := fun s Q E F N r =>
  (ge_builtin (K := fun v n' => P v ∧ n' = n) ok h1 h2 h3 hl (ga_cons (ge_ev a fun v1 p1 => ga_cons (ge_ev b fun v2 p2 => ga_nil (k v1 v2 p1 p2)) s2) s1) s1 (fun env => by rw [s2]; rfl)) s Q E F N fun v n' h' tk' k F' N' => r v h' tk' k.1 F' (k.2 ▸ N')
theorem ev_max (ok : CxOk w c sc d u) (a : EvP w c sc m n e1 (IsI i)) (b : EvP w c sc m n e2 (IsI j)) (hl : okG sc (Str.ofString "max") = true)
    (s1 : ∀ env, starEach [e1, e2] env = (false, eval e1 env) :: starEach [e2] env := by intro _; rfl) (s2 : ∀ env, starEach [e2] env = (false, eval e2 env) :: starEach [] env := by intro _; rfl) :
    EvP w c sc m n (.Call (.Name (Str.ofString "max") xp) [e1, e2] [] pos) (IsI (if j > i then j else i)) :=
  ev_b2 ok (by k_is) (by boot_fast) (by decide) hl a b (fun _ _ h1 h2 => by obtain ⟨_, rfl⟩ := h1; obtain ⟨_, rfl⟩ := h2; exact ge_max ok fun v hv => ⟨hv, rfl⟩) s1 s2
theorem ge_min {t t' : Tok} {K : Value → Led → Prop} (ok : CxOk w c sc d u) (k : ∀ v, IsI (if j < i then j else i) v → K v n) : GE w c sc m (call (.builtin "min") [.int i t, .int j t']) n K := fun s Q E F N r => by
  obtain ⟨B, X, T, -, -, -⟩ := ok
  obtain ⟨N, D⟩ := N
  k_steps
  exact r _ _ _ _ (k _ .mk) (by k_asm) ⟨by k_asm, D⟩
theorem ev_min (ok : CxOk w c sc d u) (a : EvP w c sc m n e1 (IsI i)) (b : EvP w c sc m n e2 (IsI j)) (hl : okG sc (Str.ofString "min") = true)
    (s1 : ∀ env, starEach [e1, e2] env = (false, eval e1 env) :: starEach [e2] env := by intro _; rfl) (s2 : ∀ env, starEach [e2] env = (false, eval e2 env) :: starEach [] env := by intro _; rfl) :
    EvP w c sc m n (.Call (.Name (Str.ofString "min") xp) [e1, e2] [] pos) (IsI (if j < i then j else i)) :=
  ev_b2 ok (by k_is) (by boot_fast) (by decide) hl a b (fun _ _ h1 h2 => by obtain ⟨_, rfl⟩ := h1; obtain ⟨_, rfl⟩ := h2; exact ge_min ok fun v hv => ⟨hv, rfl⟩) s1 s2
theorem ev_len {bs : Array UInt8} (ok : CxOk w c sc d u) (a : EvP w c sc m n e1 (IsY bs)) (hl : okG sc (Str.ofString "len") = true) (hz : bs.size ≤ 1099511627776)
    (s1 : ∀ env, starEach [e1] env = (false, eval e1 env) :: starEach [] env := by intro _; rfl) : EvP w c sc m n (.Call (.Name (Str.ofString "len") xp) [e1] [] pos) (IsI (bs.size : Int)) :=
  ev_b1 ok (by k_is) (by boot_fast) (by decide) hl a (fun _ h1 => by obtain ⟨_, rfl⟩ := h1; exact ge_len hz fun v hv => ⟨hv, rfl⟩) s1
end
end
section
inductive Sw (d : Addr) (o o' : Obj) : Led → Led → Prop
  | head {r : Led} : Sw d o o' ((d, o) :: r) ((d, o') :: r)
  | tail {p : Addr × Obj} {r r' : Led} : Sw d o o' r r' → Sw d o o' (p :: r) (p :: r')
  | left {r r' l : Led} : Sw d o o' r r' → Sw d o o' (r ++ l) (r' ++ l)
  | right {r r' l : Led} : Sw d o o' r r' → Sw d o o' (l ++ r) (l ++ r')
theorem Sw.keys {d : Addr} {o o' : Obj} {n n' : Led} (h : Sw d o o' n n') : n'.map (·.1) = n.map (·.1) := by
  induction h with
  | head => rfl
  | tail _ ih => simp [ih]
  | left _ ih => simp [ih]
  | right _ ih => simp [ih]
theorem Sw.mem {d : Addr} {o o' : Obj} {n n' : Led} (h : Sw d o o' n n') : d ∈ n.map (·.1) := by
  induction h with
  | head => simp
  | tail _ ih => exact List.mem_cons_of_mem _ ih
  | left _ ih => rw [List.map_append]; exact List.mem_append_left _ ih
  | right _ ih => rw [List.map_append]; exact List.mem_append_right _ ih
theorem upd_appR {d : Addr} {o o' : Obj} {l r : Led} (hr : ∀ p ∈ r, p.1 ≠ d) {l' : Led} (U : Upd d o o' l l') : Upd d o o' (l ++ r) (l' ++ r) := by
  induction U with
  | head h => exact .head fun p hp => (List.mem_append.mp hp).elim (h p) (hr p)
  | tail h _ ih => exact .tail h ih
theorem upd_appL {d : Addr} {o o' : Obj} {r r' : Led} (U : Upd d o o' r r') : ∀ {l : Led}, (∀ p ∈ l, p.1 ≠ d) → Upd d o o' (l ++ r) (l ++ r')
  | [], _ => U
  | p :: l, h => .tail (h p (.head _)) (upd_appL U fun q hq => h q (.tail _ hq))
theorem Sw.upd {d : Addr} {o o' : Obj} {n n' : Led} (h : Sw d o o' n n') (D : (n.map (·.1)).Nodup) : Upd d o o' n n' := by
  induction h with
  | head => exact .head fun p hp e => (List.nodup_cons.mp D).1 (List.mem_map.mpr ⟨p, hp, e⟩)
  | @tail p r r' h ih => exact .tail (fun e => (List.nodup_cons.mp D).1 (by show p.1 ∈ _; rw [e]; exact h.mem)) (ih (List.nodup_cons.mp D).2)
  | left h ih =>
    rw [List.map_append] at D
    obtain ⟨d1, -, d3⟩ := List.nodup_append.mp D
    exact upd_appR (fun p hp e => d3 _ h.mem _ (List.mem_map_of_mem hp) e.symm) (ih d1)
  | right h ih =>
    rw [List.map_append] at D
    obtain ⟨-, d2, d3⟩ := List.nodup_append.mp D
    exact upd_appL (ih d2) fun p hp e => d3 _ (List.mem_map_of_mem hp) _ h.mem e
section
variable {w : World} {c : Cx} {sc : Scope} {m : Nms} {n n' : Led} {x nm : Str} {v : Value} {pos xp ap : Pos} {e e1 e2 o : PySem.Expr} {P : Value → Prop} {i j : Int} {d u : Nat} {b q : Bool} {es : List PySem.Expr}
theorem LedOk.sw {h h' : Heap} {a : Addr} {ob ob' : Obj} (N : LedOk c h n) (S : Sw a ob ob' n n') (N' : News c.h₀ c.L h' n') : LedOk c h' n' := ⟨N', by rw [S.keys]; exact N.D⟩
theorem LedOk.new {h h' : Heap} {a : Addr} {ob : Obj} (N : LedOk c h n) (hn : ∀ p ∈ n, p.1 < a) (N' : News c.h₀ c.L h' ((a, ob) :: n)) : LedOk c h' ((a, ob) :: n) :=
  ⟨N', List.nodup_cons.mpr ⟨fun hm => by obtain ⟨p, hp, e⟩ := List.mem_map.mp hm; exact Nat.lt_irrefl _ (e ▸ hn p hp), N.D⟩⟩
theorem ge_append {D : Addr} {vs : List Value} {k : Nat} {K : Value → Led → Prop} (S : Sw D (W.listOf vs.toArray k) (W.listOf (vs ++ [v]).toArray (k + 1)) n n') (hz : vs.length ≤ 1000000) (kk : K .none n') :
    GE w c sc m (call (.builtin "list.append") [.ref D, v]) n K := fun s Q E F N r => append_L F N.N (S.upd N.D) hz fun h' F' N' => r _ _ _ _ kk F' (N.sw S N')
noncomputable def MethShape (o : PySem.Expr) (nm : Str) (ap pos : Pos) (es : List PySem.Expr) (pl : Env → Sem Bool) : Prop := ∀ env : Env, eval (.Call (.Attribute o nm ap) es [] pos) env = (do
      let ov ← eval o env
      standAt ap.atName
      let (f, first) ← holding [ov] (getMethod ov nm (pl env))
      callWith pos f first (backTo pos (starEach es env)) [])
theorem callWith_bi {M : Model} {A : Around} {E : Value → Shared → Prop} {s : Shared} {env : Env} {id : String} {first : List Value} {Q : Value → Shared → Prop}
    (h : wpAny M A (spliced (backTo pos (starEach (e :: es) env))) (fun vs s₁ => wpAny M A (call (.builtin id) (first ++ vs)) Q E s₁) E s)
    (he : starEach (e :: es) env = (false, eval e env) :: starEach es env) (hplain : (backTo pos (starEach es env)).any (·.1) = false) :
    wpAny M A (callWith pos (.builtin id) first (backTo pos (starEach (e :: es) env)) []) Q E s := by
  rw [he] at h ⊢
  exact callWith_builtin (by show (false || (backTo pos (starEach es env)).any (·.1)) = false; rw [hplain]; rfl) (evalArgs_plain h)
noncomputable def BMeth (w : World) (c : Cx) (sc : Scope) (m : Nms) (n : Led) (v : Value) (nm : Str) (id : String) : Prop :=
  ∀ (pl : Sem Bool) (s : Shared) (Q : Value × List Value → Shared → Prop) (E : Value → Shared → Prop), Fr c.h₀ c.L s.heap m → LedOk c s.heap n → Q (.builtin id, [v]) s → wpAny (model PR w) (c.ar sc) (getMethod v nm pl) Q E s
theorem bm_append {D : Addr} {its : Array Value} {k : Nat} (ok : CxOk w c sc d u) (hm : (D, W.listOf its k) ∈ n) : BMeth w c sc m n (.ref D) (Str.ofString "append") "list.append" := fun pl s Q E F N q => by
  obtain ⟨B, X, T, -, -, -⟩ := ok
  have N9 := N.N
  walk1
  exact q
theorem bm_pop {D : Addr} {its : Array Value} {k : Nat} (ok : CxOk w c sc d u) (hm : (D, W.listOf its k) ∈ n) : BMeth w c sc m n (.ref D) (Str.ofString "pop") "list.pop" := fun pl s Q E F N q => by
  obtain ⟨B, X, T, -, -, -⟩ := ok
  have N9 := N.N
  walk1
  exact q
theorem ge_bmeth {v0 : Value} {id : String} {pl : Env → Sem Bool} {K : Value → Led → Prop} (ho : EvP w c sc m n o (Is v0)) (hM : BMeth w c sc m n v0 nm id)
    (h : GE w c sc m (spliced (backTo pos (starEach (e :: es) (c.en sc)))) n (fun vs n' => GE w c sc m (call (.builtin id) (v0 :: vs)) n' K)) (he : MethShape o nm ap pos (e :: es) pl := by intro _; rfl)
    (hs : ∀ env, starEach (e :: es) env = (false, eval e env) :: starEach es env := by intro _; rfl) (hp : ∀ env, (backTo pos (starEach es env)).any (·.1) = false := by intro _; rfl) :
    GE w c sc m (eval (.Call (.Attribute o nm ap) (e :: es) [] pos) (c.en sc)) n K := fun s Q E F N r => by
  refine MethodCall_ (ho s _ E F N fun v h' tk' p F N => ?_) (he _)
  obtain rfl : v = v0 := p
  exact hM _ _ _ _ F N (callWith_bi (h _ _ E F N fun vs n' h' tk' k F N => k _ Q E F N r) (hs _) (hp _))
theorem ge_tuple {es : List PySem.Expr} {pk : Nat} {K : Value → Led → Prop} (ok : CxOk w c sc d u) (h : GE w c sc m (spliced (backTo pos (starEach es (c.en sc)))) n (fun vs n' => Nat.ble vs.length 1000 = true ∧ ∀ t, K (.ref t) ((t, tupOf vs.toArray 0) :: n'))) : GE w c sc m (eval (.Tuple es pk pos) (c.en sc)) n K := fun s Q E F N r => by
  obtain ⟨B, X, T, -, -, -⟩ := ok
  have N9 := N.N
  walk1
  exact h _ _ E F N fun vs n' h' tk' k F N => kup_newTuple F N.N (fun D h' F' N' l1 => r _ _ _ _ (k.2 D) F' (N.new l1 N')) (Nat.le_trans (Nat.le_of_ble_eq_true k.1) (by decide))
theorem ge_list {es : List PySem.Expr} {K : Value → Led → Prop} (ok : CxOk w c sc d u) (h : GE w c sc m (spliced (backTo pos (starEach es (c.en sc)))) n (fun vs n' => Nat.ble vs.length 1000 = true ∧ ∀ t, K (.ref t) ((t, W.listOf vs.toArray 0) :: n'))) : GE w c sc m (eval (.List es pos) (c.en sc)) n K := fun s Q E F N r => by
  obtain ⟨B, X, T, -, -, -⟩ := ok
  have N9 := N.N
  walk1
  exact h _ _ E F N fun vs n' h' tk' k F N => newList_K F N.N (fun D h' F' N' l1 => r _ _ _ _ (k.2 D) F' (N.new l1 N')) (Nat.le_trans (Nat.le_of_ble_eq_true k.1) (by decide))
end
end
section
section
variable {w : World} {c : Cx} {sc : Scope} {m : Nms} {n n' : Led} {x nm : Str} {v : Value} {pos xp ap sp : Pos} {e e1 e2 o : PySem.Expr} {P : Value → Prop} {i j : Int} {d u : Nat} {b q : Bool} {es : List PySem.Expr} {bs : Array UInt8}
noncomputable def EvO (w : World) (c : Cx) (sc : Scope) (m : Nms) (n : Led) (e : Option PySem.Expr) (i : Option Int) : Prop :=
  ∀ (s : Shared) (Q : Value → Shared → Prop) (E : Value → Shared → Prop), Fr c.h₀ c.L s.heap m → LedOk c s.heap n →
    (∀ v h' tk', PySem.IsPart v i → Fr c.h₀ c.L h' m → LedOk c h' n → Q v { s with heap := h', toks := tk' }) → wpAny (model PR w) (c.ar sc) (evalPart e (c.en sc)) Q E s
theorem evo_none : EvO w c sc m n none none := fun _ _ _ F N r => evalPart_none_step (r _ _ _ (by constructor) F N)
theorem evo_some (a : EvP w c sc m n e (IsI i)) : EvO w c sc m n (some e) (some i) := fun _ _ _ F N r => evalPart_some_step (a _ _ _ F N fun _ _ _ ⟨_, e⟩ F N => r _ _ _ (by rw [e]; constructor) F N)
theorem ev_slice {o1 o2 : Option PySem.Expr} {i1 i2 : Option Int} (a : EvP w c sc m n e (IsY bs)) (lo : EvO w c sc m n o1 i1) (hi : EvO w c sc m n o2 i2) (hz : bs.size ≤ 16777216)
    (hs : ∀ b t a, subscripted (.Slice o1 o2 none sp) false (.bytes b t) (.ref a) = operate [.ref a, .bytes b t] (getItem (.bytes b t) (.ref a)) := by intro _ _ _; with_unfolding_all rfl)
    (ht : ∀ b t r, letTemporaryGo e (.bytes b t) r = pure () := by intro _ _ _; with_unfolding_all rfl) : EvP w c sc m n (.Subscript e (.Slice o1 o2 none sp) pos) (IsY (KBy.picked bs i1 i2)) := fun s Q E F N r => by
  refine Subscript_ (a _ _ E F N fun v h' tk' p F N => ?_)
  obtain ⟨t, rfl⟩ := p
  refine wpAny_Slice (lo _ _ _ F N fun l h1 tk1 hl F N => hi _ _ _ F N fun u h2 tk2 hu F N => evalPart_none_step ?_)
  exact KBc.slice_K (s := ⟨_, _, _, _, _⟩) F N.N rfl hl hu (by rw [KBw.ints_length]; exact hz) (fun h3 t3 k3 F3 N3 _ => r _ _ _ .mk F3 ⟨N3, N.D⟩) (hs _ _ _) (ht _ _)
end
end
section
open LCg
section
variable {α : Type} {w : World} {c : Cx} {sc : Scope} {m : Nms} {n n' : Led} {x y nm : Str} {v : Value} {pos xp yp ap sp : Pos} {e e1 e2 o target iter test : PySem.Expr} {P : Value → Prop} {i j : Int} {d u : Nat} {b q : Bool} {es : List PySem.Expr} {rest body : List Stmt} {R : Flow → Nms → Led → Prop}
theorem gs_cont (h : R .cont m n) : GS w c sc m (execs (.Continue pos :: rest) (c.en sc)) n R := .cons fun s Q E F N q => wpAny_Continue (q _ _ _ _ _ h F N)
noncomputable def GU (w : World) (c : Cx) (sc : Scope) (m : Nms) (t : Sem Unit) (n : Led) (P : Nms → Led → Prop) : Prop :=
  ∀ (s : Shared) (Q : Unit → Shared → Prop) (E : Value → Shared → Prop), Fr c.h₀ c.L s.heap m → LedOk c s.heap n →
    (∀ m' n' h' tk', P m' n' → Fr c.h₀ c.L h' m' → LedOk c h' n' → Q () { s with heap := h', toks := tk' }) → wpAny (model PR w) (c.ar sc) t Q E s
theorem gu_name {P : Nms → Led → Prop} {bm : Nms} {l : List (Str × Value)} (hl : okL sc x = true) (k : P (NM bm ((x, v) :: l)) n) : GU w c sc (NM bm l) (assign (.Name x xp) (c.en sc) v) n P := fun s Q E F N r =>
  wpAny_assign_Name (storeX_L F N.N (fun h' F' N' => r _ _ _ _ k (nm_set ▸ F') ⟨N', N.D⟩) (okL_and hl).1 (okL_and hl).2.1)
theorem gu_tup2 {P : Nms → Led → Prop} {bm : Nms} {l : List (Str × Value)} {t : Addr} {v1 v2 : Value} {k tk : Nat} (hm : (t, tupOf #[v1, v2] k) ∈ n) (hx : okL sc x = true) (hy : okL sc y = true) (kk : P (NM bm ((y, v2) :: (x, v1) :: l)) n) : GU w c sc (NM bm l) (assign (.Tuple [.Name x xp, .Name y yp] tk pos) (c.en sc) (.ref t)) n P := fun s Q E F N r => by
  refine unpackN_ F N.N (News.isTup N.N hm) rfl rfl rfl fun h' F' N' => ?_
  refine assignInOrder_cons (wpAny_assign_Name (storeX_L F' N' (fun h2 F2 N2 => ?_) (okL_and hx).1 (okL_and hx).2.1))
  refine assignInOrder_cons (wpAny_assign_Name (storeX_L (nm_set ▸ F2) N2 (fun h3 F3 N3 => ?_) (okL_and hy).1 (okL_and hy).2.1))
  exact assignInOrder_nil (r _ _ _ _ kk (nm_set ▸ F3) ⟨N3, N.D⟩)
noncomputable def TurnK (led : α → Led) (J : Nms → α → Prop) (R : Flow → Nms → Led → Prop) : Flow → Nms → Led → Prop
  | .ret v, m, n => R (.ret v) m n
  | .brk, m, n => R .next m n
  | _, m, n => ∃ a, n = led a ∧ J m a
theorem tk_next {led : α → Led} {J : Nms → α → Prop} (a : α) (h : J m a) : TurnK led J R .next m (led a) := ⟨a, rfl, h⟩
theorem tk_cont {led : α → Led} {J : Nms → α → Prop} (a : α) (h : J m a) : TurnK led J R .cont m (led a) := ⟨a, rfl, h⟩
theorem tk_brk {led : α → Led} {J : Nms → α → Prop} (h : R .next m n) : TurnK led J R .brk m n := h
inductive ForL (w : World) (c : Cx) (sc : Scope) (m : Nms) (target : PySem.Expr) (body rest : List Stmt) (R : Flow → Nms → Led → Prop) (v : Value) (n : Led) : Prop
  | mk {α : Type} {l : Addr} {its : Array Value} {nn : Nat} (led : α → Led) (ledI : Addr × Obj → α → Led) (J : Nat → Nms → α → Prop) (a : α) (hv : v = .ref l) (hn : n = led a) (hp : ∀ p a, (ledI p a).Perm (p :: led a)) (hl : ∀ a, (l, W.listOf its nn) ∈ led a) (h0 : J 0 m a)
      (turn : ∀ i v m₁ a p, its[i]? = some v → J i m₁ a → GU w c sc (NM m₁ []) (assign target (c.en sc) v) (ledI p a) fun m₂ n₂ => GS w c sc m₂ (execs body (c.en sc)) n₂ (TurnK (ledI p) (J (i + 1)) (RK w c sc rest R)))
      (done : ∀ m₁ a, J its.size m₁ a → GS w c sc (NM m₁ []) (execs rest (c.en sc)) (led a) R) : ForL w c sc m target body rest R v n
theorem nodup_it {it : Addr} {io : Obj} {n : Led} (h : (((it, io) :: n).map (·.1)).Nodup) : Off it n ∧ (n.map (·.1)).Nodup :=
  ⟨fun p hp e => (List.nodup_cons.mp h).1 (List.mem_map.mpr ⟨p, hp, e⟩), (List.nodup_cons.mp h).2⟩
theorem nodup_off {it : Addr} {io : Obj} {n : Led} (h : Off it n) (D : (n.map (·.1)).Nodup) : (((it, io) :: n).map (·.1)).Nodup :=
  List.nodup_cons.mpr ⟨fun hm => by obtain ⟨p, hp, e⟩ := List.mem_map.mp hm; exact h p hp e, D⟩
theorem gs_for (h : GE w c sc m (eval iter (c.en sc)) n (ForL w c sc m target body rest R)) (hs : ∀ env x, foldedSetIterable iter env x = pure x := by intro _ _; rfl) :
    GS w c sc m (execs (.For target iter body [] pos :: rest) (c.en sc)) n R := .cons fun s Q E F N r => by
  refine for_rule (h s _ _ F N fun v n' h' tk' k F N => ?_) (hs _)
  obtain @⟨α, l, its, nn, led, ledI, J, a, rfl, rfl, hp, hl, h0, turn, done⟩ := k
  refine for_list2 (its := its) (nn := nn) (fun i m nx => ∃ a, nx = led a ∧ J i m a ∧ (nx.map (·.1)).Nodup) rfl F N.N ?_ ⟨a, rfl, h0, N.D⟩ ?_ ?_
  · rintro i m nx ⟨a, rfl, -⟩; exact hl a
  · rintro i v m₁ nx it io h tk Qt hv ⟨a, rfl, j, D⟩ off F₁ N₁ nxt out
    refine turn i v m₁ a (it, io) hv j _ _ _ F₁ (LedOk.perm ⟨N₁, nodup_off off D⟩ (hp (it, io) a).symm) fun m₂ n₂ h₂ tk₂ g F₂ N₂ => ?_
    refine g _ _ _ F₂ N₂ fun f m₃ n₃ h₃ tk₃ t F₃ N₃ => ?_
    cases f with
    | ret v => exact (out _).1 _ (r _ _ _ _ _ t F₃ N₃)
    | brk => exact (out _).2 (r _ _ _ _ _ t F₃ N₃)
    | next =>
      obtain ⟨a', rfl, j'⟩ := t
      have N₃ := N₃.perm (hp (it, io) a')
      obtain ⟨o', D'⟩ := nodup_it N₃.D
      exact (nxt _ _ _ _ F₃ N₃.N o' ⟨a', rfl, j', D'⟩).1
    | cont =>
      obtain ⟨a', rfl, j'⟩ := t
      have N₃ := N₃.perm (hp (it, io) a')
      obtain ⟨o', D'⟩ := nodup_it N₃.D
      exact (nxt _ _ _ _ F₃ N₃.N o' ⟨a', rfl, j', D'⟩).2
  · rintro m₁ nx h tk ⟨a, rfl, j, D⟩ F₁ N₁
    exact r _ _ _ _ _ (rk_next (done m₁ a j)) F₁ ⟨N₁, D⟩
noncomputable def WK (led : α → Led) (J : Nat → Nms → α → Prop) (k : Nat) (R : Flow → Nms → Led → Prop) : Flow → Nms → Led → Prop
  | .ret v, m, n => R (.ret v) m n
  | .brk, _, _ => False
  | _, m, n => ∃ k' a, k' < k ∧ n = led a ∧ J k' m a
theorem wk_next {led : α → Led} {J : Nat → Nms → α → Prop} {k : Nat} (k' : Nat) (a : α) (hk : k' < k) (h : J k' m a) : WK led J k R .next m (led a) := ⟨k', a, hk, rfl, h⟩
theorem wk_ret {led : α → Led} {J : Nat → Nms → α → Prop} {k : Nat} (h : R (.ret v) m n) : WK led J k R (.ret v) m n := h
theorem gs_while (led : α → Led) (J : Nat → Nms → α → Prop) (k₀ : Nat) (a : α) (hn : n = led a) (h0 : J k₀ m a)
    (turn : ∀ k m₁ a, J k m₁ a → GE w c sc (NM m₁ []) (isTrue test (c.en sc) (eval test (c.en sc))) (led a) fun b n' => if b = true then GS w c sc (NM m₁ []) (execs body (c.en sc)) n' (WK led J k (RK w c sc rest R)) else GS w c sc (NM m₁ []) (execs rest (c.en sc)) n' R) :
    GS w c sc m (execs (.While test body [] pos :: rest) (c.en sc)) n R := .cons fun s Q E F N r => by
  subst hn
  refine while2 (fun k m nx => ∃ a, nx = led a ∧ J k m a ∧ (nx.map (·.1)).Nodup) k₀ F N.N ⟨a, rfl, h0, N.D⟩ ?_
  rintro k m₁ nx h tk Qt ⟨a, rfl, j, D⟩ F₁ N₁ nxt out
  refine turn k m₁ a j _ _ _ F₁ ⟨N₁, D⟩ fun b n' h' tk' g F' N' => ?_
  cases b with
  | false => exact r _ _ _ _ _ (rk_next g) F' N'
  | true =>
    refine g _ _ _ F' N' fun f m₃ n₃ h₃ tk₃ t F₃ N₃ => ?_
    cases f with
    | ret v => exact out _ _ (r _ _ _ _ _ t F₃ N₃)
    | brk => exact t.elim
    | next =>
      obtain ⟨k', a', hk, rfl, j'⟩ := t
      exact (nxt _ _ _ _ _ hk F₃ N₃.N ⟨a', rfl, j', N₃.D⟩).1
    | cont =>
      obtain ⟨k', a', hk, rfl, j'⟩ := t
      exact (nxt _ _ _ _ _ hk F₃ N₃.N ⟨a', rfl, j', N₃.D⟩).2
end
end
section
section
variable {w : World} {c : Cx} {sc : Scope} {m : Nms} {n n' : Led} {x y nm : Str} {v : Value} {pos xp yp ap sp tp : Pos} {e e1 e2 o target iter test : PySem.Expr} {P : Value → Prop} {i j : Int} {d u : Nat} {b q : Bool} {es : List PySem.Expr} {rest body : List Stmt} {R : Flow → Nms → Led → Prop}
noncomputable def SetIn (w : World) (C : Addr) (nm : Str) : Prop := findIn (t1.heap_1_1 w.params) (.ref C) "__setattr__" = some (some (.builtin "object.__setattr__")) ∧ plainOver (t1.heap_1_1 w.params) C = true ∧ takerIn (t1.heap_1_1 w.params) C nm = some none ∧ hasDictIn (t1.heap_1_1 w.params) C = true
noncomputable def PutAt (P : Params) (nm : Str) (v : Value) (o o' : Obj) : Prop := ∀ tok, ∃ es k es' k', o = dictOf es k ∧ o' = dictOf es' k' ∧ (getL nm es).isSome = true ∧ (putL nm (PyData.keyHash P nm) (.str nm tok) v es, putN nm es k) = (es', k') ∧ es'.length ≤ 1000
inductive SetA (w : World) (c : Cx) (sc : Scope) (m : Nms) (rest : List Stmt) (R : Flow → Nms → Led → Prop) (x nm : Str) (v : Value) (n : Led) : Prop
  | mk {a C dx : Addr} {ob ob' : Obj} {n' : Led} (hv : m x = some (.ref a)) (h1 : (a, instObj C dx) ∈ n) (h2 : (dx, ob) ∈ n) (hs : SetIn w C nm) (hp : PutAt w.params nm v ob ob') (S : Sw dx ob ob' n n') (g : GS w c sc m (execs rest (c.en sc)) n' R) : SetA w c sc m rest R x nm v n
theorem gs_seta (ok : CxOk w c sc d u) (hc : noComp e = true) (hl : okL sc x = true) (h : GE w c sc m (eval e (c.en sc)) n (SetA w c sc m rest R x nm)) :
    GS w c sc m (execs (.Assign [.Attribute (.Name x xp) nm tp] e pos :: rest) (c.en sc)) n R := .cons fun s Q E F N r => by
  refine plainObj_wpAny_Assign_Attribute (h s _ E F N fun v n' h' tk' kv F N => ?_) (swaps_no hc)
  obtain ⟨hv, h1, h2, ⟨c1, c2, c3, c4⟩, hp, S, g⟩ := kv
  obtain ⟨B, X, T, -, -, -⟩ := ok
  refine nameX_L F hv ?_ (okL_and hl).1 (okL_and hl).2.1 (okL_and hl).2.2
  obtain ⟨es, k', es', k'', rfl, rfl, p1, p2, p3⟩ := hp (tk' + 1)
  exact set_dict F X N.N (InstAt.of_news N.N h1 h2) rfl c1 c2 c3 c4 p1 p2 (S.upd N.D) p3 fun h' F' N' => r _ _ _ _ _ (rk_next g) F' (N.sw S N')
end
section
variable {P : Params} {T : Nat → Tok} {began most ahead size z : Int} {hx lp : Addr} {ev fv v : Value}
theorem dg_began : ObjAt (Str.ofString "began") (dgObj P T began most hx lp ev ahead fv size) (.int began (T 8)) := ⟨_, _, rfl, rfl, rfl⟩
theorem dg_most : ObjAt (Str.ofString "most") (dgObj P T began most hx lp ev ahead fv size) (.int most (T 9)) := ⟨_, _, rfl, rfl, rfl⟩
theorem dg_holes : ObjAt (Str.ofString "holes") (dgObj P T began most hx lp ev ahead fv size) (.ref hx) := ⟨_, _, rfl, rfl, rfl⟩
theorem dg_parts : ObjAt (Str.ofString "parts") (dgObj P T began most hx lp ev ahead fv size) (.ref lp) := ⟨_, _, rfl, rfl, rfl⟩
theorem dg_ahead : ObjAt (Str.ofString "ahead") (dgObj P T began most hx lp ev ahead fv size) (.int ahead (T 10)) := ⟨_, _, rfl, rfl, rfl⟩
theorem dg_size : ObjAt (Str.ofString "size") (dgObj P T began most hx lp ev ahead fv size) (.int size (T 11)) := ⟨_, _, rfl, rfl, rfl⟩
theorem dg_end (h : handedIn ev = true) : ObjAt (Str.ofString "end") (dgObj P T began most hx lp ev ahead fv size) ev := ⟨_, _, rfl, rfl, h⟩
theorem dg_first (h : handedIn fv = true) : ObjAt (Str.ofString "first") (dgObj P T began most hx lp ev ahead fv size) fv := ⟨_, _, rfl, rfl, h⟩
theorem dgs_size (h : IsI z v) : ∃ T', PutAt P (Str.ofString "size") v (dgObj P T began most hx lp ev ahead fv size) (dgObj P T' began most hx lp ev ahead fv z) := by
  obtain ⟨t, rfl⟩ := h
  exact ⟨fun k => if k = 11 then t else T k, fun tok => ⟨_, _, _, _, rfl, rfl, rfl, rfl, Nat.le_of_ble_eq_true rfl⟩⟩
theorem dgs_ahead (h : IsI z v) : ∃ T', PutAt P (Str.ofString "ahead") v (dgObj P T began most hx lp ev ahead fv size) (dgObj P T' began most hx lp ev z fv size) := by
  obtain ⟨t, rfl⟩ := h
  exact ⟨fun k => if k = 10 then t else T k, fun tok => ⟨_, _, _, _, rfl, rfl, rfl, rfl, Nat.le_of_ble_eq_true rfl⟩⟩
theorem dgs_end : PutAt P (Str.ofString "end") v (dgObj P T began most hx lp ev ahead fv size) (dgObj P T began most hx lp v ahead fv size) := fun tok => ⟨_, _, _, _, rfl, rfl, rfl, rfl, Nat.le_of_ble_eq_true rfl⟩
theorem dgs_first : PutAt P (Str.ofString "first") v (dgObj P T began most hx lp ev ahead fv size) (dgObj P T began most hx lp ev ahead v size) := fun tok => ⟨_, _, _, _, rfl, rfl, rfl, rfl, Nat.le_of_ble_eq_true rfl⟩
end
section
variable {w : World}
theorem i177_began : AttrIn w 177 (Str.ofString "began") := ⟨_, by k_is, by k_is, by k_is, by k_is⟩
theorem i177_size : AttrIn w 177 (Str.ofString "size") := ⟨_, by k_is, by k_is, by k_is, by k_is⟩
theorem s177_size : SetIn w 177 (Str.ofString "size") := ⟨by k_is, by k_is, by k_is, by k_is⟩
theorem m177_put : MethIn w 177 (Str.ofString "put") 155 := ⟨by k_is, by k_is, by k_is, by k_is⟩
end
end
section
section
variable {α : Type} {w : World} {c : Cx} {sc : Scope} {m : Nms} {n n' : Led} {x y nm : Str} {v : Value} {pos xp yp ap sp tp : Pos} {e e1 e2 o : PySem.Expr} {P : Value → Prop} {i j : Int} {d u : Nat} {b q : Bool} {es : List PySem.Expr} {rest body orelse : List Stmt} {st : Stmt} {R : Flow → Nms → Led → Prop}
theorem cp_is_nn : Cp w .Is (Is .none) (Is .none) true := fun _ _ h1 h2 _ _ _ _ k => by rw [h1, h2]; exact wpAny_is_self rfl (k _)
theorem cp_is_in {t : Tok} : Cp w .Is (Is (.int i t)) (Is .none) false := fun _ _ h1 h2 _ _ _ _ k => h1 ▸ h2 ▸ wpAny_is_other rfl (by intro x; cases x) (k _)
theorem cp_is_rn {a : Addr} : Cp w .Is (Is (.ref a)) (Is .none) false := fun _ _ h1 h2 _ _ _ _ k => h1 ▸ h2 ▸ wpAny_is_other rfl (by intro x; cases x) (k _)
theorem cp_isn_nn : Cp w .IsNot (Is .none) (Is .none) false := fun _ _ h1 h2 _ _ _ _ k => by rw [h1, h2]; exact wpAny_isNot_self rfl (k _)
theorem cp_isn_in {t : Tok} : Cp w .IsNot (Is (.int i t)) (Is .none) true := fun _ _ h1 h2 _ _ _ _ k => h1 ▸ h2 ▸ wpAny_isNot_other rfl (by intro x; cases x) (k _)
theorem cp_isn_rn {a : Addr} : Cp w .IsNot (Is (.ref a)) (Is .none) true := fun _ _ h1 h2 _ _ _ _ k => h1 ▸ h2 ▸ wpAny_isNot_other rfl (by intro x; cases x) (k _)
theorem EvP.of (h : GE w c sc m (eval e (c.en sc)) n (fun v n' => P v ∧ n' = n)) : EvP w c sc m n e P := fun s Q E F N r => h s Q E F N fun v n' h' tk' k F' N' => r v h' tk' k.1 F' (k.2 ▸ N')
theorem gs_ifb (t : EvT w c sc m n e b) (h1 : b = true → GS w c sc m (execs body (c.en sc)) n (RK w c sc rest R)) (h2 : b = false → GS w c sc m (execs orelse (c.en sc)) n (RK w c sc rest R)) : GS w c sc m (execs (.If e body orelse pos :: rest) (c.en sc)) n R := by
  cases b with
  | true => exact gs_ifT t (h1 rfl)
  | false => exact gs_ifF t (h2 rfl)
theorem gs_ifb0 (t : EvT w c sc m n e b) (h1 : b = true → GS w c sc m (execs body (c.en sc)) n (RK w c sc rest R)) (h2 : b = false → GS w c sc m (execs rest (c.en sc)) n R) : GS w c sc m (execs (.If e body [] pos :: rest) (c.en sc)) n R :=
  gs_ifb t h1 fun h => gs_nil (rk_next (h2 h))
theorem exec_one {M : Model} {A : Around} {env : Env} {Q : Flow → Shared → Prop} {E : Value → Shared → Prop} {s : Shared} (h : wpAny M A (execs [st] env) Q E s) : wpAny M A (exec st env) Q E s := fun Γ p hΓ => by
  have h := h Γ p hΓ
  rw [execs_cons, Sem.wp_bind'] at h
  refine Sem.wp_mono M Γ _ (fun f p' s' h' => ?_) (fun _ _ _ h' => h') _ _ h
  cases f <;> exact h'
noncomputable def JK (led : α → Led) (J : Nms → α → Prop) (R : Flow → Nms → Led → Prop) : Flow → Nms → Led → Prop
  | .next, m, n => ∃ a, n = led a ∧ J m a
  | f, m, n => R f m n
theorem jk_next {led : α → Led} {J : Nms → α → Prop} (a : α) (h : J m a) : JK led J R .next m (led a) := ⟨a, rfl, h⟩
theorem gs_join (led : α → Led) (J : Nms → α → Prop) (h1 : GS w c sc m (execs [st] (c.en sc)) n (JK led J R)) (h2 : ∀ m a, J m a → GS w c sc (NM m []) (execs rest (c.en sc)) (led a) R) : GS w c sc m (execs (st :: rest) (c.en sc)) n R :=
  .cons fun s Q E F N q => exec_one (h1 s Q E F N fun f m' n' h' tk' k F N => q _ _ _ _ _ (by
    cases f with
    | next => obtain ⟨a, rfl, j⟩ := k; exact rk_next (h2 _ _ j)
    | _ => exact k) F N)
end
section
variable {w : World} {P : Params} {T : Nat → Tok} {i o : Int} {mo : Bool} {b : Array UInt8}
theorem hd_offset : ObjAt (Str.ofString "offset") (hdrObj P T i mo o b) (.int o (T 16)) := ⟨_, _, rfl, rfl, rfl⟩
theorem hd_more : ObjAt (Str.ofString "more") (hdrObj P T i mo o b) (.bool mo) := ⟨_, _, rfl, rfl, rfl⟩
theorem hd_options : ObjAt (Str.ofString "options") (hdrObj P T i mo o b) (.bytes b (T 17)) := ⟨_, _, rfl, rfl, rfl⟩
theorem hd_ident : ObjAt (Str.ofString "ident") (hdrObj P T i mo o b) (.int i (T 13)) := ⟨_, _, rfl, rfl, rfl⟩
theorem i74_offset : AttrIn w 74 (Str.ofString "offset") := ⟨_, by k_is, by k_is, by k_is, by k_is⟩
theorem i74_more : AttrIn w 74 (Str.ofString "more") := ⟨_, by k_is, by k_is, by k_is, by k_is⟩
theorem i74_options : AttrIn w 74 (Str.ofString "options") := ⟨_, by k_is, by k_is, by k_is, by k_is⟩
theorem i74_ident : AttrIn w 74 (Str.ofString "ident") := ⟨_, by k_is, by k_is, by k_is, by k_is⟩
theorem i177_holes : AttrIn w 177 (Str.ofString "holes") := ⟨_, by k_is, by k_is, by k_is, by k_is⟩
theorem i177_parts : AttrIn w 177 (Str.ofString "parts") := ⟨_, by k_is, by k_is, by k_is, by k_is⟩
theorem i177_end : AttrIn w 177 (Str.ofString "end") := ⟨_, by k_is, by k_is, by k_is, by k_is⟩
theorem i177_ahead : AttrIn w 177 (Str.ofString "ahead") := ⟨_, by k_is, by k_is, by k_is, by k_is⟩
theorem i177_first : AttrIn w 177 (Str.ofString "first") := ⟨_, by k_is, by k_is, by k_is, by k_is⟩
theorem i177_most : AttrIn w 177 (Str.ofString "most") := ⟨_, by k_is, by k_is, by k_is, by k_is⟩
theorem s177_ahead : SetIn w 177 (Str.ofString "ahead") := ⟨by k_is, by k_is, by k_is, by k_is⟩
theorem s177_end : SetIn w 177 (Str.ofString "end") := ⟨by k_is, by k_is, by k_is, by k_is⟩
theorem s177_first : SetIn w 177 (Str.ofString "first") := ⟨by k_is, by k_is, by k_is, by k_is⟩
theorem m177_against : MethIn w 177 (Str.ofString "is_against") 148 := ⟨by k_is, by k_is, by k_is, by k_is⟩
theorem m123_end_at : MethIn w 123 (Str.ofString "end_at") 106 := ⟨by k_is, by k_is, by k_is, by k_is⟩
theorem hn_end_at {most : Int} {lr : Addr} : ObjNo (Str.ofString "end_at") (hoObj P T most lr) := ⟨_, _, rfl, rfl⟩
theorem dn_against {began most ahead size : Int} {hx lp : Addr} {ev fv : Value} : ObjNo (Str.ofString "is_against") (dgObj P T began most hx lp ev ahead fv size) := ⟨_, _, rfl, rfl⟩
end
end
section
noncomputable def OptOk (b : Array UInt8) : Prop := b = #[] ∨ b = #[148, 4, 0, 0] ∨ b = #[7, 7, 4, 0, 0, 0, 0, 0]
noncomputable def laterO (b : Array UInt8) : Array UInt8 := if b = #[148, 4, 0, 0] then #[148, 4, 0, 0] else #[]
theorem OptOk.size {b : Array UInt8} (h : OptOk b) : b.size ≤ 8 := by rcases h with rfl | rfl | rfl <;> decide
theorem OptOk.later {b : Array UInt8} : OptOk (laterO b) := by
  unfold laterO
  split
  · exact .inr (.inl rfl)
  · exact .inl rfl
end
section
section
variable {w : World} {c : Cx} {sc : Scope} {m : Nms} {n n' : Led} {x y nm : Str} {v v1 v2 : Value} {pos xp yp ap sp tp : Pos} {e e1 e2 o : PySem.Expr} {d u : Nat} {P : Value → Led → Prop}
theorem evt_const {k : Nat} {b : Bool} : EvT w c sc m n (.Constant (.bool b) k pos) b := fun s Q E F N r => wpAny_isTrue_value (ev_bool s _ E F N fun v h' tk' e F N => e ▸ wpAny_truthy_bool (r _ _ F N)) rfl
theorem ge_meth0 {pl : Env → Sem Bool} {a C dx f : Addr} {ob : Obj} {K : Value → Led → Prop} (ok : CxOk w c sc d u) (ho : EvP w c sc m n o (Is (.ref a))) (h1 : (a, instObj C dx) ∈ n) (h2 : (dx, ob) ∈ n) (hm : MethIn w C nm f) (hn : ObjNo nm ob)
    (k : GE w c sc m (call (.ref f) [.ref a]) n K)
    (he : ∀ env, eval (.Call (.Attribute o nm ap) [] [] pos) env = (do
      let ov ← eval o env
      standAt ap.atName
      let (f, first) ← holding [ov] (getMethod ov nm (pl env))
      callWith pos f first (backTo pos (starEach [] env)) []) := by intro _; rfl) :
    GE w c sc m (eval (.Call (.Attribute o nm ap) [] [] pos) (c.en sc)) n K := fun s Q E F N q => by
  obtain ⟨B, X, T, -, -, -⟩ := ok
  obtain ⟨c1, c2, c3, c4⟩ := hm
  obtain ⟨es', k', rfl, hl'⟩ := hn
  refine MethodCall_ (ho s _ E F N fun v h' tk' p F N => ?_) (he _)
  obtain rfl : v = .ref a := p
  exact method_inst F X (InstAt.of_news N.N h1 h2) c1 c2 c3 hl' (callWith_K0 (X.keeps F.keep) c4 (k _ Q E F N q))
theorem ge_call0 {g : Value} {K : Value → Led → Prop} (ok : CxOk w c sc d u) (h1 : nsIn (t1.heap_1_1 w.params) mainGlobals x = some (some g)) (h2 : keepIn (t1.heap_1_1 w.params) g = true) (hl : okG sc x = true) (k : GE w c sc m (call g []) n K) :
    GE w c sc m (eval (.Call (.Name x xp) [] [] pos) (c.en sc)) n K := fun s Q E F N r => by
  obtain ⟨B, X, T, -, -, -⟩ := ok
  exact Call_ (nameX_K F X (topRead_of T) h1 (callWith_K0 (first := []) (X.keeps F.keep) h2 (k _ Q E F N r)) (okG_and hl).1 (okG_and hl).2.1 (okG_and hl).2.2)
variable {xa : Addr} {i oo o' : Int} {mo mo' : Bool} {b b' pl : Array UInt8} {tb tp' : Tok}
end
section
variable {w : World} {P : Params} {T : Nat → Tok} {i o : Int} {mo : Bool} {b : Array UInt8}
theorem m74_size : MethIn w 74 (Str.ofString "size") 43 := ⟨by k_is, by k_is, by k_is, by k_is⟩
theorem hn_size : ObjNo (Str.ofString "size") (hdrObj P T i mo o b) := ⟨_, _, rfl, rfl⟩
theorem i74_dont : AttrIn w 74 (Str.ofString "dont") := ⟨_, by k_is, by k_is, by k_is, by k_is⟩
theorem hd_dont : ObjAt (Str.ofString "dont") (hdrObj P T i mo o b) (.bool false) := ⟨_, _, rfl, rfl, rfl⟩
end
end
section
noncomputable def SrcIs (o : Obj) : Prop := ∃ (x y : Int) (tx ty : Tok) (n : Nat), SrcOk x y ∧ o = W.listOf #[.int x tx, .int y ty] n
theorem offL_mem {d : Addr} {p : Addr × Obj} {l : List (Addr × Obj)} (h : p ∈ l) (hn : p.1 ≠ d) : p ∈ offL d l := List.mem_filter.mpr ⟨h, by simpa using hn⟩
end
section
open LCg
section
variable {α : Type} {w : World} {c : Cx} {sc : Scope} {m : Nms} {n n' : Led} {x y nm : Str} {v v1 v2 : Value} {pos xp yp ap sp tp : Pos} {e e1 e2 o target test : PySem.Expr} {P P1 P2 : Value → Prop} {i j : Int} {d u : Nat} {b q : Bool} {es : List PySem.Expr} {rest body orelse : List Stmt} {st : Stmt} {R : Flow → Nms → Led → Prop}
theorem gs_asg (hc : noComp e = true) (h : GE w c sc m (eval e (c.en sc)) n (fun v n' => GU w c sc m (assign target (c.en sc) v) n' fun m₂ n₂ => GS w c sc m₂ (execs rest (c.en sc)) n₂ R)) (hw : ∀ env, swappedStores [target] e env = pure none := by intro _; rfl)
    (ha : ∀ env v, assignAll v ((assignEach [target] env).map (·.2)) = assign target env v := by intro _ _; rfl) :
    GS w c sc m (execs (.Assign [target] e pos :: rest) (c.en sc)) n R := .cons fun s Q E F N q =>
  wpAny_Assign_stores (h s _ E F N fun v n' h' tk' k F N => by rw [ha]; exact k _ _ E F N fun m₂ n₂ h₂ tk₂ g F₂ N₂ => q _ _ _ _ _ (rk_next g) F₂ N₂) (swaps_no hc) (hw _)
theorem ev_cmpV {op : CmpOp} (a : EvP w c sc m n e1 P1) (b' : EvP w c sc m n e2 P2) (k : Cp w op P1 P2 b) (hm : behindInMarks op e2 = false := by with_unfolding_all rfl) : EvP w c sc m n (.Compare e1 [op] [e2] pos) (Is (.bool b)) :=
  fun _ _ _ F N q => wpAny_Compare1 (a _ _ _ F N fun v1 _ _ p1 F N => b' _ _ _ F N fun v2 _ _ p2 F N => k v1 v2 p1 p2 _ _ _ _ fun tk' => q _ _ tk' .mk F N) hm
theorem evt_or (a : EvT w c sc m n e1 b) (k : b = false → EvT w c sc m n e2 q) : EvT w c sc m n (.BoolOp .Or [e1, e2] pos) (b || q) := fun s Q E F N r =>
  isTrue_or (a s _ E F N fun h' tk' F N => by
    cases b with
    | true => exact r _ _ F N
    | false => exact isTrue_or (k rfl _ _ E F N fun h' tk' F N => by
        cases q with
        | true => exact r _ _ F N
        | false => exact isTrue_or_nil (r _ _ F N)))
theorem evt_not (a : EvT w c sc m n e b) : EvT w c sc m n (.UnaryOp .Not e pos) (!b) := fun s Q E F N r => isTrue_not (a s _ E F N fun h' tk' F N => r _ _ F N)
theorem ev_and (a : EvP w c sc m n e1 (Is (.bool b))) (k : b = true → EvP w c sc m n e2 (Is (.bool q))) : EvP w c sc m n (.BoolOp .And [e1, e2] pos) (Is (.bool (b && q))) := fun s Q E F N r =>
  BoolOp_and (a s _ E F N fun v h' tk' h F N => by
    obtain rfl : v = _ := h
    refine wpAny_truthy_bool ?_
    cases b with
    | false => exact r _ _ _ .mk F N
    | true => exact BoolOp_one (k rfl _ _ E F N fun v h' tk' h F N => r _ _ _ h F N))
theorem ev_or (a : EvP w c sc m n e1 (Is (.bool b))) (k : b = false → EvP w c sc m n e2 (Is (.bool q))) : EvP w c sc m n (.BoolOp .Or [e1, e2] pos) (Is (.bool (b || q))) := fun s Q E F N r =>
  BoolOp_or (a s _ E F N fun v h' tk' h F N => by
    obtain rfl : v = _ := h
    refine wpAny_truthy_bool ?_
    cases b with
    | true => exact r _ _ _ .mk F N
    | false => exact BoolOp_one (k rfl _ _ E F N fun v h' tk' h F N => r _ _ _ h F N))
theorem ge_ifexp {K : Value → Led → Prop} {body' orelse' : PySem.Expr} (t : EvT w c sc m n e b) (h1 : b = true → GE w c sc m (eval body' (c.en sc)) n K) (h2 : b = false → GE w c sc m (eval orelse' (c.en sc)) n K) : GE w c sc m (eval (.IfExp e body' orelse' pos) (c.en sc)) n K := fun s Q E F N r =>
  IfExp_ (t s _ E F N fun h' tk' F N => by
    cases b with
    | true => exact h1 rfl _ Q E F N r
    | false => exact h2 rfl _ Q E F N r)
theorem ev_item {l : Addr} {vs : List Value} {k : Nat} {z : Nat} (a : EvP w c sc m n e1 (Is (.ref l))) (b : EvP w c sc m n e2 (IsI (z : Int))) (hm : (l, W.listOf vs.toArray k) ∈ n) (hx : vs[z]? = some v) (hz : vs.length ≤ 1000000) (hp : P v)
    (hs : ∀ l k u, subscripted e2 false (.ref l) (.int k u) = operate [.ref l, .int k u] (getItem (.ref l) (.int k u)) := by intro _ _ _; with_unfolding_all rfl) : EvP w c sc m n (.Subscript e1 e2 pos) P := fun s Q E F N r =>
  Subscript_ (a s _ E F N fun v1 h1 tk1 p1 F N => b _ _ E F N fun v2 h2 tk2 ⟨t, p2⟩ F N => by
    obtain rfl : v1 = _ := p1
    subst p2
    have hlt : z < vs.length := by
      rcases Nat.lt_or_ge z vs.length with h | h
      · exact h
      · rw [List.getElem?_eq_none h] at hx; cases hx
    have hl : Heap.IsList _ l vs.toArray := ⟨_, N.N.get hm, rfl, _, rfl⟩
    exact tail_any hl.typeIs slot_list_getitem.lookup (wpAny_getItem_list hl (Int.natCast_nonneg _) (by omega) (by simpa using hx) (r _ _ _ hp F N)) (hs _ _ _))
end
end
section
open LCg
section
variable {w : World} {c : Cx} {sc : Scope} {m : Nms} {n n' : Led} {x y nm : Str} {v v1 v2 : Value} {pos xp yp ap sp tp : Pos} {e e1 e2 o target test iter : PySem.Expr} {i j : Int} {d u : Nat} {b q : Bool} {es : List PySem.Expr} {rest body orelse : List Stmt} {st : Stmt} {R : Flow → Nms → Led → Prop}
theorem ge_type {T : String} {K : Value → Led → Prop} (ok : CxOk w c sc d u) (h1 : nsIn (t1.heap_1_1 w.params) mainGlobals x = some none) (h2 : bootBuiltins x = some (.type T)) (h3 : x ≠ "__name__") (hl : okG sc x = true)
    (k : GE w c sc m (spliced (backTo pos (starEach (e :: es) (c.en sc)))) n (fun vs n' => GE w c sc m (call (.type T) vs) n' K))
    (hs : ∀ env, starEach (e :: es) env = (false, eval e env) :: starEach es env := by intro _; rfl) (hp : ∀ env, (backTo pos (starEach es env)).any (·.1) = false := by intro _; rfl) :
    GE w c sc m (eval (.Call (.Name x xp) (e :: es) [] pos) (c.en sc)) n K := fun s Q E F N r => by
  obtain ⟨B, X, T', -, -, -⟩ := ok
  refine Call_ (nameX_B F X (topRead_of T') h1 h2 h3 ?_ (okG_and hl).1 (okG_and hl).2.1 (okG_and hl).2.2)
  have h := k s _ E F N fun vs n' h' tk' k F N => k _ Q E F N r
  rw [hs] at h ⊢
  exact PyProof.Rows.callWith_type (by show (false || (backTo pos (starEach es (c.en sc))).any (·.1)) = false; rw [hp]; rfl) (evalArgs_plain h)
theorem ge_range {k : Int} {t : Tok} {K : Value → Led → Prop} (kk : ∀ r t0 t2, K (.ref r) ((r, rangeObj k t0 t t2) :: n)) : GE w c sc m (call (.type "range") [.int k t]) n K := fun s Q E F N r =>
  range_made F N.N fun r' t0 t2 h' tk' l1 F' N' => r _ _ _ _ (kk r' t0 t2) F' (N.new l1 N')
inductive ForR (w : World) (c : Cx) (sc : Scope) (m : Nms) (target : PySem.Expr) (body rest : List Stmt) (R : Flow → Nms → Led → Prop) (v : Value) (n : Led) : Prop
  | mk {α : Type} {r : Addr} {k : Nat} {t0 t1 t2 : Tok} (led : α → Led) (ledI : Addr × Obj → α → Led) (J : Nat → Nms → α → Prop) (a : α) (hv : v = .ref r) (hn : n = led a) (hp : ∀ p a, (ledI p a).Perm (p :: led a)) (hm : (r, rangeObj (k : Int) t0 t1 t2) ∈ led a) (hk : k < 2 ^ 30) (h0 : J 0 m a)
      (turn : ∀ i v m₁ a p, i < k → IsI (i : Int) v → J i m₁ a → GU w c sc (NM m₁ []) (assign target (c.en sc) v) (ledI p a) fun m₂ n₂ => GS w c sc m₂ (execs body (c.en sc)) n₂ (TurnK (ledI p) (J (i + 1)) (RK w c sc rest R)))
      (done : ∀ m₁ a, J k m₁ a → GS w c sc (NM m₁ []) (execs rest (c.en sc)) (led a) R) : ForR w c sc m target body rest R v n
theorem gs_forR (h : GE w c sc m (eval iter (c.en sc)) n (ForR w c sc m target body rest R)) (hs : ∀ env x, foldedSetIterable iter env x = pure x := by intro _ _; rfl) :
    GS w c sc m (execs (.For target iter body [] pos :: rest) (c.en sc)) n R := .cons fun s Q E F N r => by
  refine for_rule (h s _ _ F N fun v n' h' tk' k F N => ?_) (hs _)
  obtain @⟨α, rr, kk, t0, t1, t2, led, ledI, J, a, rfl, rfl, hp, hm, hk, h0, turn, done⟩ := k
  refine for_range2 (fun i m nx => ∃ a, nx = led a ∧ J i m a ∧ (nx.map (·.1)).Nodup) rfl F N.N hm hk ⟨a, rfl, h0, N.D⟩ ?_ ?_
  · rintro i t m₁ nx it io h tk Qt hv ⟨a, rfl, j, D⟩ off F₁ N₁ nxt out
    refine turn i _ m₁ a (it, io) hv .mk j _ _ _ F₁ (LedOk.perm ⟨N₁, nodup_off off D⟩ (hp (it, io) a).symm) fun m₂ n₂ h₂ tk₂ g F₂ N₂ => ?_
    refine g _ _ _ F₂ N₂ fun f m₃ n₃ h₃ tk₃ t F₃ N₃ => ?_
    cases f with
    | ret v => exact (out _).1 _ (r _ _ _ _ _ t F₃ N₃)
    | brk => exact (out _).2 (r _ _ _ _ _ t F₃ N₃)
    | next =>
      obtain ⟨a', rfl, j'⟩ := t
      have N₃ := N₃.perm (hp (it, io) a')
      obtain ⟨o', D'⟩ := nodup_it N₃.D
      exact (nxt _ _ _ _ F₃ N₃.N o' ⟨a', rfl, j', D'⟩).1
    | cont =>
      obtain ⟨a', rfl, j'⟩ := t
      have N₃ := N₃.perm (hp (it, io) a')
      obtain ⟨o', D'⟩ := nodup_it N₃.D
      exact (nxt _ _ _ _ F₃ N₃.N o' ⟨a', rfl, j', D'⟩).2
  · rintro m₁ nx h tk ⟨a, rfl, j, D⟩ F₁ N₁
    exact r _ _ _ _ _ (rk_next (done m₁ a j)) F₁ ⟨N₁, D⟩
end
end
section
open LCg
theorem comp_bytes {prog : Program} {w : World} {A : Around} {E : Value → Shared → Prop} {s : Shared} {env : Env} {h₀ : Heap} {L : Addr} {m : Str → Option Value} {news : List (Addr × Obj)} {target elt iter : PySem.Expr} {ifs : List PySem.Expr} {scope : Scope} {cl : List (Str × Addr)} {pos : Pos}
    {Q : Value → Shared → Prop} {b : Array UInt8} {tb : Tok} (J : Nat → List Value → List (Addr × Obj) → Prop)
    (hh : A.handled = none) (F : Fr h₀ L s.heap m) (N : News h₀ L s.heap news) (h0 : J 0 [] news) (hn : b.size ≤ 1000000)
    (hcell : ∀ y ∈ scope.names, y.2 ≠ .cell) (hkind : scope.kind = .function)
    (turn : ∀ i c t, b[i]? = some c → CompStep prog w A env target elt ifs scope cl h₀ L m s J i (.int ((c.toNat : Nat) : Int) t))
    (done : ∀ D h tk ys nx, J b.size ys nx → Fr h₀ L h m → News h₀ L h ((D, lst ys) :: nx) → Off D nx → Q (.ref D) { s with heap := h, toks := tk }) :
    wpAny (model prog w) A (pyIter (.bytes b tb)) (CompAt prog w A env target elt iter ifs scope cl pos none Q E) E s := by
  have up : ∀ o b q, s.heap.get? b = some q → (s.heap.push o).get? b = some q := fun o b q e => Heap.get?_push_of_some _ e
  refine KBw.pyIter_bytes ?_
  refine comp_walks (KBw.walks hh s.heap.objs.size b tb) (by rw [sizeLine_eq]; omega) J ?_ ?_ ?_ hcell hkind ⟨_, Heap.get?_push_size _ rfl, rfl, rfl⟩ ?_ (F.keeps (up _)) (fun p hp => ⟨up _ _ _ (N p hp).1, (N p hp).2⟩)
    (Nat.ne_of_gt F.ns.lt) (next_is_new F) (fun p hp => Nat.ne_of_lt (Heap.lt_size (N p hp).1)) h0 ?_ ?_
  · rintro i v s Q E ⟨o, ho, hc, hd⟩ hQ
    exact go_any ho hc hd (by decide) hQ
  · rintro i h h' ys nx o ⟨oi, hi, hc, hd⟩ e1 e2 _ _ _
    rw [e1] at hi
    obtain rfl := Option.some.inj hi
    exact ⟨_, e2, hc, hd⟩
  · rintro i h ⟨oi, hi, _⟩
    exact ⟨oi, hi⟩
  · intro c hc
    show c < (s.heap.push _).objs.size
    rw [Heap.size_push, List.mem_singleton.mp hc]
    exact Nat.lt_succ_self _
  · rintro i v ys nx oI oC C D mC h tk hi ⟨c, u, hc, rfl⟩ hj hn F' N' o3 ne
    exact turn i c u hc ys nx _ oI oC C D mC h tk hj hn F' N' o3 ne
  · intro D C h tk mC ys nx hj F' N' oD hns hC₀ hCL hCD oC
    exact comp_post (s := s) F' N' hns hC₀ hCL hCD oC fun h' tk' F'' N'' => done D h' tk' ys nx hj F'' N'' oD
end
section
open LCg
section
variable {w : World} {c : Cx} {sc cs : Scope} {m : Nms} {n G : Led} {x y : Str} {v it : Value} {pos xp yp tp px py : Pos} {e e1 e2 iter elt test : PySem.Expr} {P P1 P2 : Value → Prop} {i j : Int} {b : Bool} {C : Addr} {cl : List (Str × Addr)} {oC : Obj} {mC : Nms} {K : Value → Led → Prop}
noncomputable def EvC (w : World) (c : Cx) (sc : Scope) (m : Nms) (n : Led) (cs : Scope) (cl : List (Str × Addr)) (C : Addr) (e : PySem.Expr) (P : Value → Prop) : Prop :=
  ∀ (s : Shared) (Q : Value → Shared → Prop) (E : Value → Shared → Prop), Fr c.h₀ c.L s.heap m → LedOk c s.heap n →
    (∀ v h' tk', P v → Fr c.h₀ c.L h' m → LedOk c h' n → Q v { s with heap := h', toks := tk' }) → wpAny (model PR w) (c.ar sc) (eval e (compEnvC cs cl C (c.en sc))) Q E s
theorem evc_name (hm : (C, oC) ∈ n) (hn : NsObj oC mC) (hv : mC x = some v) (hl : okL cs x = true) (hp : P v) : EvC w c sc m n cs cl C (.Name x pos) P := fun _ _ _ F N k =>
  cname N.N hm hn hv (k _ _ _ hp F N) (okL_and hl).1 (okL_and hl).2.1 (okL_and hl).2.2
theorem evc_int {k : Nat} : EvC w c sc m n cs cl C (.Constant (.int i) k pos) (IsI i) := fun _ _ _ F N k => wpAny_Constant_int (k _ _ _ .mk F N)
theorem evc_bin {op : Operator} (a : EvC w c sc m n cs cl C e1 P1) (b : EvC w c sc m n cs cl C e2 P2)
    (k : ∀ v1 v2, P1 v1 → P2 v2 → ∀ (A : Around) (s : Shared) (Q E : Value → Shared → Prop), (∀ v tk', P v → Q v { s with toks := tk' }) → wpAny (model PR w) A (binaryOp op v1 v2) Q E s) : EvC w c sc m n cs cl C (.BinOp e1 op e2 pos) P :=
  fun _ _ _ F N q => wpAny_BinOp (a _ _ _ F N fun v1 _ _ p1 F N => b _ _ _ F N fun v2 _ _ p2 F N => k v1 v2 p1 p2 _ _ _ _ fun v tk' p => q v _ tk' p F N)
theorem evc_sub (a : EvC w c sc m n cs cl C e1 (IsI i)) (b : EvC w c sc m n cs cl C e2 (IsI j)) : EvC w c sc m n cs cl C (.BinOp e1 .Sub e2 pos) (IsI (i - j)) :=
  evc_bin a b fun _ _ ⟨_, e⟩ ⟨_, e'⟩ _ _ _ _ k => e ▸ e' ▸ PyProof.Rows.sub_int (k _ _ .mk)
structure CIt (w : World) (c : Cx) (sc : Scope) (it : Value) (G : Led) (k : Nat) (P : Nat → Value → Prop) : Prop where
  go : ∀ {target elt iter : PySem.Expr} {ifs : List PySem.Expr} {cs : Scope} {cl : List (Str × Addr)} {pos : Pos} {m : Nms} {s : Shared} {Q : Value → Shared → Prop} {E : Value → Shared → Prop} (J : Nat → List Value → Led → Prop),
    Fr c.h₀ c.L s.heap m → News c.h₀ c.L s.heap G → J 0 [] G → (∀ i ys nx, J i ys nx → ∀ p ∈ G, p ∈ nx) → (∀ y ∈ cs.names, y.2 ≠ .cell) → cs.kind = .function →
    (∀ i v, i < k → P i v → CompStep PR w (c.ar sc) (c.en sc) target elt ifs cs cl c.h₀ c.L m s J i v) →
    (∀ D h tk ys nx, J k ys nx → Fr c.h₀ c.L h m → News c.h₀ c.L h ((D, lst ys) :: nx) → Off D nx → Q (.ref D) { s with heap := h, toks := tk }) →
    wpAny (model PR w) (c.ar sc) (pyIter it) (CompAt PR w (c.ar sc) (c.en sc) target elt iter ifs cs cl pos none Q E) E s
theorem cit_bytes {bs : Array UInt8} {t : Tok} (hz : bs.size ≤ 1000000) : CIt w c sc (.bytes bs t) G bs.size (fun i v => ∃ o t, bs[i]? = some o ∧ v = .int ((o.toNat : Nat) : Int) t) :=
  ⟨fun J F N h0 _ hc hk turn done => comp_bytes J rfl F N h0 hz hc hk (fun i o t h => turn i _ (by
    rcases Nat.lt_or_ge i bs.size with g | g
    · exact g
    · rw [Array.getElem?_eq_none g] at h; cases h) ⟨o, t, h, rfl⟩) done⟩
theorem cit_list {l : Addr} {its : Array Value} {nn : Nat} (hm : (l, W.listOf its nn) ∈ G) (hz : its.size ≤ sizeLine) : CIt w c sc (.ref l) G its.size (fun i v => its[i]? = some v) :=
  ⟨fun J F N h0 hG hc hk turn done => comp_list J rfl F N (fun i ys nx h => hG i ys nx h _ hm) h0 hz hc hk (fun i v h => turn i _ (by
    rcases Nat.lt_or_ge i its.size with g | g
    · exact g
    · rw [Array.getElem?_eq_none g] at h; cases h) h) done⟩
theorem cit_range {r : Addr} {k : Nat} {t0 t1 t2 : Tok} (hm : (r, rangeObj (k : Int) t0 t1 t2) ∈ G) (hz : k ≤ 1000000) : CIt w c sc (.ref r) G k (fun i v => IsI (i : Int) v) :=
  ⟨fun J F N h0 _ hc hk turn done => comp_range J rfl F N hm h0 hz hc hk (fun i t h => turn i _ h .mk) done⟩
theorem ledC {h : Heap} {I D : Addr} {oI oD : Obj} (N : News c.h₀ c.L h ((I, oI) :: (C, oC) :: (D, oD) :: G)) (off : Off3 I C D G) (ne : (@Ne Nat I C) ∧ (@Ne Nat I D) ∧ (@Ne Nat C D)) (hD : (G.map (·.1)).Nodup) : LedOk c h ((I, oI) :: (C, oC) :: (D, oD) :: G) := by
  have o3 := off.mem
  have no : ∀ a, (∀ p ∈ G, p.1 ≠ a) → a ∉ G.map (·.1) := fun a h hm => by
    obtain ⟨p, hp, rfl⟩ := List.mem_map.mp hm
    exact h p hp rfl
  refine ⟨N, ?_⟩
  simp only [List.map_cons, List.nodup_cons, List.mem_cons, not_or]
  exact ⟨⟨ne.1, ne.2.1, no _ fun p hp => (o3 p hp).1⟩, ⟨ne.2.2, no _ fun p hp => (o3 p hp).2.1⟩, no _ fun p hp => (o3 p hp).2.2, hD⟩
inductive CompK (w : World) (c : Cx) (sc : Scope) (m : Nms) (x : Str) (elt : PySem.Expr) (cs : Scope) (cl : List (Str × Addr)) (K : Value → Led → Prop) (it : Value) (G : Led) : Prop
  | mk {k : Nat} {P : Nat → Value → Prop} (R : Nat → List Value → Prop) (hit : CIt w c sc it G k P) (h0 : R 0 [])
      (turn : ∀ i v ys C oC mC n', i < k → P i v → R i ys → (C, oC) ∈ n' → NsObj oC mC → mC x = some v → (∀ p ∈ G, p ∈ n') → EvC w c sc m n' cs cl C elt (fun y => R (i + 1) (ys ++ [y])))
      (done : ∀ D ys, R k ys → K (.ref D) ((D, lst ys) :: G)) : CompK w c sc m x elt cs cl K it G
theorem ge_comp (hclos : closureFor cs (c.en sc) = pure cl) (hkind : cs.kind = .function) (hnames : ∀ y ∈ cs.names, y.2 = .local → cs.names.lookup y.1 = some .local) (hcell : ∀ y ∈ cs.names, y.2 ≠ .cell) (hl : okL cs x = true)
    (h : GE w c sc m (eval iter (c.en sc)) n (CompK w c sc m x elt cs cl K)) (hs : ∀ env x, foldedSetIterable iter env x = pure x := by intro _ _; rfl) :
    GE w c sc m (eval (.ListComp elt [⟨.Name x px, iter, [], 0⟩] cs pos) (c.en sc)) n K := fun s Q E F N q =>
  comp_rule hclos hkind hnames (h s _ E F N fun it G h' tk' k F N => by
    obtain ⟨R, hit, h0, turn, done⟩ := k
    refine hit.go (fun i ys nx => nx = G ∧ R i ys) F N.N ⟨rfl, h0⟩ (fun _ _ _ h _ hp => h.1 ▸ hp) hcell hkind ?_ ?_
    · rintro i v hi hp ys nx I oI oC C D mC h tk ⟨rfl, hR⟩ hn F₁ N₁ off ne
      refine cstore F₁ N₁ hn off ne (fun h₁ oC₁ tk₁ F₂ N₂ hn₂ => compTests_nil ?_) hkind (okL_and hl).2.1
      rw [if_pos rfl]
      refine turn i v ys C oC₁ _ ((I, oI) :: (C, oC₁) :: (D, lst ys) :: nx) hi hp hR (.tail _ (.head _)) hn₂ (if_pos rfl) (fun p h => .tail _ (.tail _ (.tail _ h))) _ _ _ F₂ (ledC N₂ off ne N.D) fun y h₃ tk₃ hy F₃ N₃ => ?_
      exact ⟨h₃, tk₃, oC₁, _, nx, rfl, F₃, N₃.N, hn₂, off, rfl, hy⟩
    · rintro D h tk ys nx ⟨rfl, hR⟩ F₁ N₁ oD
      exact q _ _ _ _ (done D ys hR) F₁ ⟨N₁, nodup_off oD N.D⟩) (hs _)
theorem ev_not (a : EvP w c sc m n e (Is (.bool b))) : EvP w c sc m n (.UnaryOp .Not e pos) (Is (.bool !b)) := fun s Q E F N r =>
  PyProof.Rows.UnaryOp_ (a s _ E F N fun v h' tk' p F N => by
    obtain rfl : v = _ := p
    exact PyProof.Rows.not_of (wpAny_truthy_bool (r _ _ _ .mk F N)))
theorem ev_neg (a : EvP w c sc m n e (IsI i)) : EvP w c sc m n (.UnaryOp .USub e pos) (IsI (-i)) := fun s Q E F N r =>
  PyProof.Rows.UnaryOp_ (a s _ E F N fun v h' tk' ⟨t, p⟩ F N => by
    subst p
    exact PyProof.Rows.neg_int (r _ _ _ .mk F N))
end
end
section
section
variable {prog : Program} {w : World} {A : Around} {E : Value → Shared → Prop} {s : Shared} {b : Array UInt8} {t u : Tok} {Q : Value → Shared → Prop}
theorem pick_alert (hb : OptOk b) : (KBy.picked b none (some 1) = #[148]) ↔ b = #[148, 4, 0, 0] := by
  rcases hb with rfl | rfl | rfl
  · exact ⟨fun h => absurd h (by decide +kernel), fun h => absurd h (by decide)⟩
  · exact ⟨fun _ => rfl, fun _ => by decide +kernel⟩
  · exact ⟨fun h => absurd h (by decide +kernel), fun h => absurd h (by decide)⟩
theorem mulLater {x : Array UInt8} {n : Int} (hx : x = #[148, 4, 0, 0]) (hn : n = if decide (b = #[148, 4, 0, 0]) = true then 1 else 0) (h : ∀ t' k, Q (.bytes (laterO b) t') { s with toks := k }) : wpAny (model prog w) A (binaryOp .Mult (.bytes x t) (.int n u)) Q E s := by
  subst hx hn
  by_cases e : b = #[148, 4, 0, 0]
  · have e2 : laterO b = #[148, 4, 0, 0] := if_pos e
    rw [e2] at h
    rw [if_pos (decide_eq_true e)]
    exact bytes_mul_any (b := [148, 4, 0, 0]) (List.cons_ne_nil _ _) (by decide) (by decide) (by decide) fun t' k => h t' k
  · have e2 : laterO b = #[] := if_neg e
    rw [e2] at h
    rw [if_neg (by simpa using e)]
    exact bytes_mul_any (b := [148, 4, 0, 0]) (List.cons_ne_nil _ _) (by decide) (by decide) (by decide) fun t' k => h t' k
end
end
section
open LCg
section
variable {α : Type} {w : World} {c : Cx} {sc cs : Scope} {m : Nms} {n n' G : Led} {x y : Str} {v it : Value} {pos xp yp tp px py : Pos} {e e1 e2 e3 iter elt test : PySem.Expr} {P P1 P2 : Value → Prop} {i j : Int} {b q r : Bool} {C : Addr} {cl : List (Str × Addr)} {oC : Obj} {mC : Nms} {K : Value → Led → Prop} {bs cs' : Array UInt8} {d u : Nat} {op : CmpOp}
theorem LedOk.app {nw : Led} {h : Heap} (N : LedOk c h (nw ++ n)) : LedOk c h n := ⟨newsSub N.N fun p hp => List.mem_append_right _ hp, by
  have := N.D
  rw [List.map_append] at this
  exact (List.nodup_append.mp this).2.1⟩
theorem EvP.old (h : GE w c sc m (eval e (c.en sc)) n (fun v n' => P v ∧ ∃ nw, n' = nw ++ n)) : EvP w c sc m n e P := fun s Q E F N r => h s Q E F N fun v n' h' tk' ⟨p, nw, k⟩ F' N' => r v h' tk' p F' (LedOk.app (k ▸ N'))
theorem EvT.old (h : GE w c sc m (isTrue e (c.en sc) (eval e (c.en sc))) n (fun v n' => v = b ∧ ∃ nw, n' = nw ++ n)) : EvT w c sc m n e b := fun s Q E F N r => h s Q E F N fun v n' h' tk' ⟨p, nw, k⟩ F' N' => p ▸ r h' tk' F' (LedOk.app (k ▸ N'))
theorem ge_cmpT {K : Bool → Led → Prop} (h : GE w c sc m (eval e1 (c.en sc)) n (fun v1 n1 => GE w c sc m (eval e2 (c.en sc)) n1 (fun v2 n2 => GE w c sc m (compareOp op v1 v2) n2 (fun v n3 => ∃ b, v = .bool b ∧ K b n3)))) (hm : behindInMarks op e2 = false := by with_unfolding_all rfl) :
    GE w c sc m (isTrue (.Compare e1 [op] [e2] pos) (c.en sc) (eval (.Compare e1 [op] [e2] pos) (c.en sc))) n K := fun s Q E F N r =>
  wpAny_isTrue_Compare1 (h _ _ _ F N fun v1 _ _ _ k F N => k _ _ _ F N fun v2 _ _ _ k F N => k _ _ _ F N fun v _ _ _ ⟨b, e, k⟩ F N => e ▸ wpAny_truthy_bool (r _ _ _ _ k F N)) hm
theorem ge_cmp (h : GE w c sc m (eval e1 (c.en sc)) n (fun v1 n1 => GE w c sc m (eval e2 (c.en sc)) n1 (fun v2 n2 => GE w c sc m (compareOp op v1 v2) n2 K))) (hm : behindInMarks op e2 = false := by with_unfolding_all rfl) :
    GE w c sc m (eval (.Compare e1 [op] [e2] pos) (c.en sc)) n K := fun s Q E F N r =>
  wpAny_Compare1 (h _ _ _ F N fun v1 _ _ _ k F N => k _ _ _ F N fun v2 _ _ _ k F N => k _ _ _ F N r) hm
theorem Cp.ge (h : Cp w op P1 P2 b) {v1 v2 : Value} (h1 : P1 v1) (h2 : P2 v2) (k : K (.bool b) n) : GE w c sc m (compareOp op v1 v2) n K := fun s Q E F N r => h v1 v2 h1 h2 _ _ _ _ fun tk' => r _ _ _ tk' k F N
theorem cp_eqY : Cp w .Eq (IsY bs) (IsY cs') (decide (bs = cs')) := fun _ _ ⟨_, e⟩ ⟨_, e'⟩ _ s _ _ k => e ▸ e' ▸ beqB (k s.toks)
theorem cp_neY : Cp w .NotEq (IsY bs) (IsY cs') (!decide (bs = cs')) := fun _ _ ⟨_, e⟩ ⟨_, e'⟩ _ s _ _ k => e ▸ e' ▸ bneB (k s.toks)
theorem cp_neB : Cp w .NotEq (Is (.bool b)) (Is (.bool q)) (b != q) := fun _ _ h1 h2 _ s _ _ k => h1 ▸ h2 ▸ PyProof.Rows.ne_bool (k s.toks)
theorem ev_mod (a : EvP w c sc m n e1 (IsI i)) (b : EvP w c sc m n e2 (IsI j)) (hj : j ≠ 0) : EvP w c sc m n (.BinOp e1 .Mod e2 pos) (IsI (i.fmod j)) :=
  ev_bin a b fun _ _ ⟨_, e⟩ ⟨_, e'⟩ _ _ _ _ k => e ▸ e' ▸ PyProof.Rows.mod_int hj (k _ _ .mk)
theorem evt_or3 (a : EvT w c sc m n e1 b) (k : b = false → EvT w c sc m n e2 q) (k2 : b = false → q = false → EvT w c sc m n e3 r) : EvT w c sc m n (.BoolOp .Or [e1, e2, e3] pos) (b || (q || r)) := fun s Q E F N z =>
  isTrue_or (a s _ E F N fun h' tk' F N => by
    cases b with
    | true => exact z _ _ F N
    | false => exact isTrue_or (k rfl _ _ E F N fun h' tk' F N => by
        cases q with
        | true => exact z _ _ F N
        | false => exact isTrue_or (k2 rfl rfl _ _ E F N fun h' tk' F N => by
            cases r with
            | true => exact z _ _ F N
            | false => exact isTrue_or_nil (z _ _ F N))))
theorem ev_bytes {k : Nat} {bl : List UInt8} : EvP w c sc m n (.Constant (.bytes bl) k pos) (IsY bl.toArray) := fun _ _ _ F N k => PySem.W.Constant_bytes (k _ _ _ .mk F N)
theorem ge_lenL {l : Addr} {vs : List Value} {k : Nat} (hm : (l, W.listOf vs.toArray k) ∈ n) (hz : vs.length ≤ 1000000) (kk : ∀ v, IsI (vs.length : Int) v → K v n) : GE w c sc m (call (.builtin "len") [.ref l]) n K := fun s Q E F N r =>
  len_L N.N hm hz fun t tk' => r _ _ _ _ (kk _ .mk) F N
theorem ev_lenL {l : Addr} {vs : List Value} {k : Nat} (ok : CxOk w c sc d u) (a : EvP w c sc m n e1 (Is (.ref l))) (hl : okG sc (Str.ofString "len") = true) (hm : (l, W.listOf vs.toArray k) ∈ n) (hz : vs.length ≤ 1000000)
    (s1 : ∀ env, starEach [e1] env = (false, eval e1 env) :: starEach [] env := by intro _; rfl) : EvP w c sc m n (.Call (.Name (Str.ofString "len") xp) [e1] [] pos) (IsI (vs.length : Int)) :=
  ev_b1 ok (by k_is) (by boot_fast) (by decide) hl a (fun _ h1 => by obtain rfl := h1; exact ge_lenL hm hz fun v hv => ⟨hv, rfl⟩) s1
theorem ge_intB (ok : CxOk w c sc d u) (kk : ∀ v, IsI (if b = true then 1 else 0) v → K v n) : GE w c sc m (call (.type "int") [.bool b]) n K := fun s Q E F N r => by
  obtain ⟨B, X, T, -, -, -⟩ := ok
  obtain ⟨N, D⟩ := N
  k_steps
  exact r _ _ _ _ (kk _ .mk) (by k_asm) ⟨by k_asm, D⟩
theorem ev_mulLater (a : EvP w c sc m n e1 (IsY #[148, 4, 0, 0])) (b : EvP w c sc m n e2 (IsI (if decide (bs = #[148, 4, 0, 0]) = true then 1 else 0))) : EvP w c sc m n (.BinOp e1 .Mult e2 pos) (IsY (laterO bs)) :=
  ev_bin a b fun _ _ ⟨_, e⟩ ⟨_, e'⟩ _ _ _ _ k => e ▸ e' ▸ mulLater rfl rfl fun t' kk => k _ _ .mk
theorem bm_join {t : Tok} : BMeth w c sc m n (.bytes bs t) (Str.ofString "join") "bytes.join" := fun pl s Q E F N q => bj_method q
theorem ge_joinY {t : Tok} {l : Addr} {vs : List Value} {k : Nat} {bl : List (Array UInt8)} (hm : (l, W.listOf vs.toArray k) ∈ n) (hb : BytesAre vs bl) (hsz : (bl.map (·.size)).sum ≤ 1000000) (kk : ∀ v, IsY (bl.map (·.toList)).flatten.toArray v → K v n) : GE w c sc m (call (.builtin "bytes.join") [.bytes #[] t, .ref l]) n K := fun s Q E F N r =>
  bytes_join N.N hm hb hsz fun t' k' => r _ _ _ _ (kk _ .mk) F N
theorem eq_int9 {A : Around} {s : Shared} (a : Int) (t u : Tok) : PySem.SeqAt.EqAt A s (.int a t) (.int a u) true := by
  have := PySem.SeqAt.EqAt.int_int (A := A) (s := s) a t a u
  rwa [beq_self_eq_true] at this
noncomputable def told7 (T : Nat → Tok) (k : Nat) (i : Int) : Obj := tupOf #[.int 10 (T 0), .int 20 (T 1), .int 17 (T 2), .int i (T 3), .int 64 (T 4), .int 0 (T 5), .bool false] k
inductive Told7 (K : Value → Led → Prop) (v : Value) (n : Led) : Prop
  | mk {t : Addr} {T : Nat → Tok} {k : Nat} {i o : Int} {mo : Bool} {b : Array UInt8} (hv : v = .ref t) (hm : (t, toldObj T k i mo o b) ∈ n) (kk : ∀ D k', K (.ref D) ((D, told7 T k' i) :: n)) : Told7 K v n
theorem ge_told7 {kk : Nat} {sp tp9 : Pos} (h : GE w c sc m (eval e (c.en sc)) n (Told7 K))
    (hs : ∀ t a, subscripted (.Slice none (some (.Constant (.int 7) kk tp9)) none sp) false (.ref t) (.ref a) = operate [.ref a, .ref t] (getItem (.ref t) (.ref a)) := by intro _ _; with_unfolding_all rfl) :
    GE w c sc m (eval (.Subscript e (.Slice none (some (.Constant (.int 7) kk tp9)) none sp) pos) (c.en sc)) n K := fun s Q E F N r => by
  refine Subscript_ (h s _ E F N fun v n' h' tk' k F N => ?_)
  obtain ⟨rfl, hm, kk⟩ := k
  refine wpAny_Slice (evalPart_none_step (evalPart_some_step (wpAny_Constant_int (evalPart_none_step ?_))))
  refine kba_turn (value' := PySem.Expr.Name (PySem.Str.ofString "_") ⟨0, 0, 0, 0⟩) (fun _ => rfl) ?_
  exact slice_told (s := ⟨_, _, _, _, _⟩) F N.N hm (fun D n' h' l1 F' N' => r _ _ _ _ (kk D n') F' (N.new l1 N')) (hs _ _)
theorem ge_neTold7 {a a' : Addr} {T T' : Nat → Tok} {k k' : Nat} (ok : CxOk w c sc d u) (h1 : (a, told7 T k i) ∈ n) (h2 : (a', told7 T' k' i) ∈ n) (kk : K (.bool false) n) : GE w c sc m (compareOp .NotEq (.ref a) (.ref a')) n K := fun s Q E F N r => by
  have hu : (c.ar sc).units < cLine := by
    obtain ⟨B, X, T, hk, hdp, hun⟩ := ok
    exact Nat.lt_of_le_of_lt (Nat.le_add_right _ _) hun
  have z : PySem.SeqAt.RcNeAt (c.ar sc) s (.ref a) (.ref a') (!((List.range (min 7 7)).all (fun _ => true) && 7 == 7)) := PySem.SeqAt.RcNeAt.tuples (e := fun _ => true) ⟨_, N.N.get h1, rfl, _, rfl⟩ ⟨_, N.N.get h2, rfl, _, rfl⟩ hu (fun j h1 h2 => by
      match j with
      | 0 => exact eq_int9 _ _ _
      | 1 => exact eq_int9 _ _ _
      | 2 => exact eq_int9 _ _ _
      | 3 => exact eq_int9 _ _ _
      | 4 => exact eq_int9 _ _ _
      | 5 => exact eq_int9 _ _ _
      | 6 => exact PySem.SeqAt.EqAt.same _
      | j + 7 => exact absurd h1 (by simp))
  exact z _ _ _ _ (r _ _ _ _ kk F N)
inductive CompK2 (w : World) (c : Cx) (sc : Scope) (m : Nms) (x y : Str) (elt : PySem.Expr) (cs : Scope) (cl : List (Str × Addr)) (K : Value → Led → Prop) (it : Value) (G : Led) : Prop
  | mk {k : Nat} {P : Nat → Value → Prop} (R : Nat → List Value → Prop) (hit : CIt w c sc it G k P) (h0 : R 0 [])
      (turn : ∀ i v ys, i < k → P i v → R i ys → ∃ t v1 v2 k, v = .ref t ∧ (t, tupOf #[v1, v2] k) ∈ G ∧ ∀ C oC mC n', (C, oC) ∈ n' → NsObj oC mC → mC x = some v1 → mC y = some v2 → (∀ p ∈ G, p ∈ n') → EvC w c sc m n' cs cl C elt (fun y => R (i + 1) (ys ++ [y])))
      (done : ∀ D ys, R k ys → K (.ref D) ((D, lst ys) :: G)) : CompK2 w c sc m x y elt cs cl K it G
theorem ge_comp2 {tk9 : Nat} (hclos : closureFor cs (c.en sc) = pure cl) (hkind : cs.kind = .function) (hnames : ∀ y ∈ cs.names, y.2 = .local → cs.names.lookup y.1 = some .local) (hcell : ∀ y ∈ cs.names, y.2 ≠ .cell) (hl : okL cs x = true) (hl2 : okL cs y = true) (hxy : x ≠ y)
    (h : GE w c sc m (eval iter (c.en sc)) n (CompK2 w c sc m x y elt cs cl K)) (hs : ∀ env x, foldedSetIterable iter env x = pure x := by intro _ _; rfl) :
    GE w c sc m (eval (.ListComp elt [⟨.Tuple [.Name x px, .Name y py] tk9 tp, iter, [], 0⟩] cs pos) (c.en sc)) n K := fun s Q E F N q =>
  comp_rule hclos hkind hnames (h s _ E F N fun it G h' tk' k F N => by
    obtain ⟨R, hit, h0, turn, done⟩ := k
    refine hit.go (fun i ys nx => nx = G ∧ R i ys) F N.N ⟨rfl, h0⟩ (fun _ _ _ h _ hp => h.1 ▸ hp) hcell hkind ?_ ?_
    · rintro i v hi hp ys nx I oI oC C D mC h tk ⟨rfl, hR⟩ hn F₁ N₁ off ne
      obtain ⟨t, v1, v2, k, rfl, ht, go⟩ := turn i v ys hi hp hR
      refine cstore2 rfl F₁ N₁ hn off ne ht (fun h₁ oC₁ tk₁ F₂ N₂ hn₂ => compTests_nil ?_) hkind (okL_and hl).2.1 (okL_and hl2).2.1
      rw [if_pos rfl]
      refine go C oC₁ _ ((I, oI) :: (C, oC₁) :: (D, lst ys) :: nx) (.tail _ (.head _)) hn₂ ((if_neg hxy).trans (if_pos rfl)) (if_pos rfl) (fun p h => .tail _ (.tail _ (.tail _ h))) _ _ _ F₂ (ledC N₂ off ne N.D) fun y h₃ tk₃ hy F₃ N₃ => ?_
      exact ⟨h₃, tk₃, oC₁, _, nx, rfl, F₃, N₃.N, hn₂, off, rfl, hy⟩
    · rintro D h tk ys nx ⟨rfl, hR⟩ F₁ N₁ oD
      exact q _ _ _ _ (done D ys hR) F₁ ⟨N₁, nodup_off oD N.D⟩) (hs _)
theorem evc_nm {v1 : Value} {oC : Obj} {mC : Nms} (h1 : (C, oC) ∈ n) (h2 : NsObj oC mC) (h3 : mC x = some v1) (hl : okL cs x = true) (hp : P v1) : EvC w c sc m n cs cl C (.Name x pos) P := evc_name h1 h2 h3 hl hp
theorem ge_bytes {D : Addr} {vs : List Value} {k : Nat} {l : List UInt8} (hm : (D, W.listOf vs.toArray k) ∈ n) (hi : IntsAre vs (l.map fun b => ((b.toNat : Nat) : Int))) (hz : l.length ≤ 1000000) (kk : ∀ t, K (.bytes l.toArray t) n) : GE w c sc m (call (.type "bytes") [.ref D]) n K := fun s Q E F N r =>
  bytes_octs rfl F N.N hm hi hz fun h' t k F' N' => r _ _ _ _ (kk t) F' ⟨N', N.D⟩
theorem EvT.to (h : EvT w c sc m n e b) (e' : b = q) : EvT w c sc m n e q := e' ▸ h
theorem GE.app {α : Type} {t : Sem α} {K : α → Led → Prop} (h : GE w c sc m t n (fun v n' => ∃ nw n'', n' = nw ++ n'' ∧ K v n'')) : GE w c sc m t n K := fun s Q E F N r => h s Q E F N fun v n' h' tk' ⟨nw, n'', e, k⟩ F' N' => r v n'' h' tk' k F' (LedOk.app (e ▸ N'))
theorem EvC.mono (h : EvC w c sc m n cs cl C e P1) (k : ∀ v, P1 v → P2 v) : EvC w c sc m n cs cl C e P2 := fun s Q E F N q => h s Q E F N fun v h' tk' p F' N' => q v h' tk' (k v p) F' N'
theorem ge_bmethP {o : PySem.Expr} {ap : Pos} {nm : Str} {es : List PySem.Expr} {id : String} {pl : Env → Sem Bool} (ho : EvP w c sc m n o P) (hM : ∀ v0, P v0 → BMeth w c sc m n v0 nm id)
    (h : ∀ v0, P v0 → GE w c sc m (spliced (backTo pos (starEach (e :: es) (c.en sc)))) n (fun vs n' => GE w c sc m (call (.builtin id) (v0 :: vs)) n' K)) (he : MethShape o nm ap pos (e :: es) pl := by intro _; rfl)
    (hs : ∀ env, starEach (e :: es) env = (false, eval e env) :: starEach es env := by intro _; rfl) (hp : ∀ env, (backTo pos (starEach es env)).any (·.1) = false := by intro _; rfl) :
    GE w c sc m (eval (.Call (.Attribute o nm ap) (e :: es) [] pos) (c.en sc)) n K := fun s Q E F N r => by
  refine MethodCall_ (ho s _ E F N fun v h' tk' p F N => ?_) (he _)
  exact hM v p _ _ _ _ F N (callWith_bi (h v p _ _ E F N fun vs n' h' tk' k F N => k _ Q E F N r) (hs _) (hp _))
end
end
section
section
variable {w : World} {c : Cx} {sc : Scope} {m : Nms} {n n' : Led} {pos : Pos} {e1 e2 : PySem.Expr} {K : Value → Led → Prop} {d u : Nat} {op : Operator} {a b D : Addr} {vs ws : List Value} {k k' : Nat} {x v1 : Value}
theorem ge_bin (h : GE w c sc m (eval e1 (c.en sc)) n (fun v1 n1 => GE w c sc m (eval e2 (c.en sc)) n1 (fun v2 n2 => GE w c sc m (binaryOp op v1 v2) n2 K))) : GE w c sc m (eval (.BinOp e1 op e2 pos) (c.en sc)) n K := fun s Q E F N r =>
  wpAny_BinOp (h _ _ _ F N fun v1 _ _ _ k F N => k _ _ _ F N fun v2 _ _ _ k F N => k _ _ _ F N r)
theorem ge_cat (h1 : (a, W.listOf vs.toArray k) ∈ n) (h2 : (b, W.listOf ws.toArray k') ∈ n) (hz : vs.length + ws.length ≤ 1000000) (kk : ∀ D, K (.ref D) ((D, W.listOf (vs ++ ws).toArray 0) :: n)) : GE w c sc m (binaryOp .Add (.ref a) (.ref b)) n K := fun s Q E F N r =>
  catL F N.N h1 h2 hz fun D h' l F' N' => r _ _ _ _ (kk D) F' (N.new l N')
theorem ge_pop {i : Nat} (hv : IsI (i : Int) v1) (hx : vs[i]? = some x) (S : Sw D (W.listOf vs.toArray k) (W.listOf (vs.eraseIdx i).toArray (k + 1)) n n') (hz : vs.length ≤ 1000000) (kk : K x n') : GE w c sc m (call (.builtin "list.pop") [.ref D, v1]) n K := fun s Q E F N r => by
  obtain ⟨t, rfl⟩ := hv
  exact popL F N.N hx (S.upd N.D) hz fun h' F' N' => r _ _ _ _ kk F' (N.sw S N')
theorem ge_neNil (ok : CxOk w c sc d u) (h1 : (a, W.listOf vs.toArray k) ∈ n) (h2 : (b, W.listOf #[] k') ∈ n) (kk : K (.bool (!decide (vs.length = 0))) n) : GE w c sc m (compareOp .NotEq (.ref a) (.ref b)) n K := fun s Q E F N r =>
  neNil N.N h1 h2 (by obtain ⟨B, X, T, hk, hdp, hun⟩ := ok; exact Nat.lt_of_le_of_lt (Nat.le_add_right _ _) hun) (r _ _ _ _ kk F N)
theorem ge_eqNil (ok : CxOk w c sc d u) (h1 : (a, W.listOf vs.toArray k) ∈ n) (h2 : (b, W.listOf #[] k') ∈ n) (kk : K (.bool (decide (vs.length = 0))) n) : GE w c sc m (compareOp .Eq (.ref a) (.ref b)) n K := fun s Q E F N r =>
  eqNil N.N h1 h2 (by obtain ⟨B, X, T, hk, hdp, hun⟩ := ok; exact Nat.lt_of_le_of_lt (Nat.le_add_right _ _) hun) (r _ _ _ _ kk F N)
theorem evt_neNil {lp : Pos} (ok : CxOk w c sc d u) (a1 : EvP w c sc m n e1 (Is (.ref a))) (h1 : (a, W.listOf vs.toArray k) ∈ n) (hm : behindInMarks .NotEq (.List [] lp) = false := by with_unfolding_all rfl) : EvT w c sc m n (.Compare e1 [.NotEq] [.List [] lp] pos) (!decide (vs.length = 0)) :=
  EvT.old (ge_cmpT (ge_v a1 (ge_list ok (ga_nil ⟨rfl, fun D => ge_neNil ok (.tail _ h1) (.head _) ⟨_, rfl, rfl, [_], rfl⟩⟩))) hm)
end
end
section
section
variable {w : World} {c : Cx} {sc : Scope} {m : Nms} {n n' : Led} {pos : Pos} {e1 e2 : PySem.Expr} {K : Value → Led → Prop} {d u : Nat} {v1 v2 : Value} {i j : Int} {R : Flow → Nms → Led → Prop} {t : Sem Flow}
theorem ge_addI (h1 : IsI i v1) (h2 : IsI j v2) (kk : ∀ v, IsI (i + j) v → K v n) : GE w c sc m (binaryOp .Add v1 v2) n K := fun s Q E F N r => by
  obtain ⟨t1, rfl⟩ := h1
  obtain ⟨t2, rfl⟩ := h2
  exact PyProof.Rows.add_int (r _ _ _ _ (kk _ .mk) F N)
theorem GS.pp (p : n.Perm n') (h : GS w c sc m t n' R) : GS w c sc m t n R := fun s Q E F N q => h s Q E F (N.perm p) q
theorem GS.drop {nw : Led} (h : GS w c sc m t n R) : GS w c sc m t (nw ++ n) R := fun s Q E F N q => h s Q E F N.app q
theorem gs_if2 {body orelse rest : List Stmt} {e : PySem.Expr} (h : GE w c sc m (isTrue e (c.en sc) (eval e (c.en sc))) n (fun b n' => (b = true → GS w c sc m (execs body (c.en sc)) n' (RK w c sc rest R)) ∧ (b = false → GS w c sc m (execs orelse (c.en sc)) n' (RK w c sc rest R)))) :
    GS w c sc m (execs (.If e body orelse pos :: rest) (c.en sc)) n R := gs_if (h.mono fun b n' k => by
  cases b with
  | true => rw [if_pos rfl]; exact k.1 rfl
  | false => rw [if_neg (by decide)]; exact k.2 rfl)
theorem ge_andT {K : Bool → Led → Prop} {b : Bool} (a : EvT w c sc m n e1 b) (h1 : b = true → GE w c sc m (isTrue e2 (c.en sc) (eval e2 (c.en sc))) n K) (h0 : b = false → K false n) :
    GE w c sc m (isTrue (.BoolOp .And [e1, e2] pos) (c.en sc) (eval (.BoolOp .And [e1, e2] pos) (c.en sc))) n K := fun s Q E F N r => isTrue_and (a s _ E F N fun h' tk' F N => by
  cases b with
  | false => exact r _ _ _ _ (h0 rfl) F N
  | true => exact isTrue_and (h1 rfl _ _ E F N fun q n' h' tk' k F N => by
      cases q with
      | false => exact r _ _ _ _ k F N
      | true => exact isTrue_and_nil (r _ _ _ _ k F N)))
end
section
open Classical
theorem pcsP1 {D l L2 p r lf : Addr × Obj} {new2 new R : Led} : (D :: (new2 ++ l :: L2 :: p :: r :: lf :: (new ++ R))).Perm (p :: r :: D :: ((new2 ++ l :: L2 :: lf :: new) ++ R)) := List.perm_iff_count.mpr fun a => by
  simp only [List.count_append, List.count_cons]
  omega
end
theorem pcsX1 {n2 n H : Led} {a b d : Addr × Obj} : Ext (n ++ H) ((n2 ++ a :: b :: d :: n) ++ H) := fun q hq => by
  simp only [List.mem_append, List.mem_cons] at hq ⊢
  rcases hq with h | h <;> simp [h]
theorem pcsX2 {n2 n H : Led} {a b d : Addr × Obj} : Ext (n2 ++ (n ++ H)) ((n2 ++ a :: b :: d :: n) ++ H) := fun q hq => by
  simp only [List.mem_append, List.mem_cons] at hq ⊢
  rcases hq with h | h | h <;> simp [h]
theorem pcsX3 {n2 n H : Led} {a b : Addr × Obj} : Ext (n ++ H) ((n2 ++ a :: b :: n) ++ H) := fun q hq => by
  simp only [List.mem_append, List.mem_cons] at hq ⊢
  rcases hq with h | h <;> simp [h]
theorem pcsX4 {n2 n H : Led} {a b : Addr × Obj} : Ext (n2 ++ (n ++ H)) ((n2 ++ a :: b :: n) ++ H) := fun q hq => by
  simp only [List.mem_append, List.mem_cons] at hq ⊢
  rcases hq with h | h | h <;> simp [h]
theorem pcsP2 {D l lf : Addr × Obj} {new2 new R : Led} : (D :: (new2 ++ l :: lf :: (new ++ R))).Perm (D :: ((new2 ++ l :: lf :: new) ++ R)) := .of_eq (by simp)
end
section
open LCg
section
variable {w : World} {c : Cx} {sc : Scope} {m : Nms} {n : Led} {d u : Nat}
theorem bindL_eq {K : Str → Option NameKind} {b : Nms} : ∀ {binds : List (Str × Value)} {l : List (Str × Value)}, bindL K binds (NM b l) = NM b ((binds.filter fun x => decide (K x.1 = some .local)).reverse ++ l)
  | [], l => rfl
  | (x, v) :: r, l => by
    unfold bindL
    by_cases h : K x = some .local
    · rw [if_pos h, nm_set, bindL_eq, List.filter_cons_of_pos (by simpa using h), List.reverse_cons, List.append_assoc]
      rfl
    · rw [if_neg h, bindL_eq, List.filter_cons_of_neg (by simpa using h)]
theorem g_enterC {name qual : Str} {params : Arguments} {body : List Stmt} {scope : Scope} {dV kV doc pm cdv ct oc : Value} {an od : Option Addr} {osl : Array (Option Value)} {f : Addr} {vs : List Value} {P : Value → Led → Prop} (binds : List (Str × Value)) {l : List (Str × Value)} {x : Str} {v : Option Value}
    (hbl : (binds.filter fun x => decide (scope.names.lookup x.1 = some .local)).reverse = l) (hcf : ∀ k, cellsFrom k scope.names [] = [(x, k)]) (hv : bindC (fun y => scope.names.lookup y) binds (fun _ => none) x = v)
    (ok : CxOk w c sc (d + 1) (u + 3)) (ho : (t1.heap_1_1 w.params).lookup f = some ⟨oc, od, .func (fnOf name qual params body scope dV kV doc pm an cdv ct), osl⟩) (hcd : codeIn (t1.heap_1_1 w.params) cdv qual = true)
    (hbind : ∀ s : Shared, BindsTo s (fnOf name qual params body scope dV kV doc pm an cdv ct) ⟨vs, []⟩ binds) (hloc : (binds.all fun y => scope.names.lookup y.1 == some .local || scope.names.lookup y.1 == some .cell) = true)
    (hco : (scope.isCoroutine || scope.isGenerator || !(scope.kind == .function)) = false)
    (h : ∀ (c' : Cx) (a : Addr) (o : Obj), CxOk w c' scope d u → c'.cl = [(x, a)] → o.data = .cell v → GS w c' scope (NM nm0 l) (execs body (c'.en scope)) ((a, o) :: n) (fun fl _ n' => P (match (generalizing := false) fl with | .ret v => v | _ => .none) n')) :
    GE w c sc m (call (.ref f) vs) n P := fun s Q E F N q => by
  obtain ⟨B, X, T, hk, hdp, hun⟩ := ok
  subst hbl
  simp only [Bool.or_eq_false_iff, Bool.not_eq_false', beq_iff_eq] at hco
  refine wpAny_call (code_defC (env := c.en sc) (outer := c.outer) B F X N.N T rfl rfl hk ho hcd (Nat.lt_of_le_of_lt (Nat.le_add_right _ _) hdp) (hbind s) hloc (by rw [hcf]; simp) ?_ hco.1.1 hco.1.2 hco.2)
  intro g L' h₁ tk cells FG F' N' Y B' X' T' l1
  rw [hcf] at Y
  obtain ⟨o, rfl, hd⟩ := Y.one
  have hd9 : o.data = .cell v := hd.trans (congrArg _ hv)
  have D9 : (((L' + 1, o) :: n).map (·.1)).Nodup := List.nodup_cons.mpr ⟨fun hm => by
    obtain ⟨p, hp, e⟩ := List.mem_map.mp hm
    have q := l1 p hp
    have e : p.1 = L' + 1 := e
    rw [e] at q
    exact Nat.lt_irrefl _ (Nat.lt_trans (Nat.lt_succ_self _) q), N.D⟩
  have F9 : Fr g L' h₁ (NM nm0 (binds.filter fun x => decide (scope.names.lookup x.1 = some .local)).reverse) := by
    have e := bindL_eq (K := fun y => scope.names.lookup y) (b := nm0) (binds := binds) (l := [])
    rw [List.append_nil] at e
    rw [← e]
    exact F'
  have z := h ⟨c.dp + 1, c.un + 3, c.gd, qual, L', f, cdv, [(x, L' + 1)], c.en sc :: c.outer, g⟩ (L' + 1) o ⟨B', X', T', hco.2, by rw [Nat.add_assoc, Nat.add_comm 1]; exact hdp, by rw [Nat.add_assoc, Nat.add_comm 3]; exact hun⟩ rfl hd9
  have ee : envOfC qual scope L' f cdv = (⟨c.dp + 1, c.un + 3, c.gd, qual, L', f, cdv, [(x, L' + 1)], c.en sc :: c.outer, g⟩ : Cx).en scope := by
    show envX qual scope L' f cdv (cellsFrom (L' + 1) scope.names []) = _
    rw [hcf]
  rw [ee]
  exact z _ _ _ F9 ⟨N', D9⟩ fun fl m' n' h' tk' p F'' N'' => leaveK_ F'' N''.N fun F N => q _ _ _ _ p F ⟨N, N''.D⟩
end
end
section
open LCg
noncomputable abbrev dObj (es : Array DictEntry) (ep : Nat) : Obj := { cls := .type "dict", data := .dict es ep }
section
variable {prog : Program} {w : World} {A : Around} {E : Value → Shared → Prop} {s : Shared} {h₀ : Heap} {L d : Addr} {m : Str → Option Value} {news : List (Addr × Obj)} {es : Array DictEntry} {ep : Nat}
noncomputable def DAt (h : Heap) (d : Addr) (es : Array DictEntry) (ep : Nat) : Prop := h.get? d = some (dObj es ep)
theorem DAt.typeIs {s : Shared} (x : DAt s.heap d es ep) : s.TypeIs (.ref d) "dict" := ⟨_, x, rfl⟩
theorem d_pyIter {Q : Value → Shared → Prop} (hd : (d == sysModules) = false) (hm : DAt s.heap d es ep)
    (hQ : Q (.ref s.heap.objs.size) { s with heap := s.heap.push { cls := .type "dict_keyiterator", data := .fields #[.ref d, .int 0 0, .int (es.size : Nat) 0, .int ep 0] } }) :
    wpAny (model prog w) A (pyIter (.ref d)) Q E s := by
  have hT := hm.typeIs
  refine wpAny_pyIter_slot hT F.slot_dict_iter (wpAny_call_entry F.slot_dict_iter hT F.entry_dict_iter ?_ (F.args_dict_iter_1 _))
  unfold Builtin.«dict.__iter__»
  refine wpAny_bind ?_
  unfold Builtin.Dict.dictSlotNone
  refine wpAny_bind (wpAny_notOrdered_dict hT ?_)
  show wpAny _ _ (pure (Value.ref d)) _ _ s
  refine wpAny_pure ?_
  show wpAny _ _ (Builtin.Dict.showsAll d >>= _) _ _ s
  unfold Builtin.Dict.showsAll
  rw [if_neg (by rw [hd]; exact Bool.false_ne_true)]
  refine wpAny_bind (wpAny_pure ?_)
  refine wpAny_bind (wpAny_dictEntries hm rfl ?_)
  refine wpAny_bind (wpAny_dictEpoch hm rfl ?_)
  refine wpAny_bind (wpAny_newObj_type (wpAny_pure ⟨_, rfl, "dict_keyiterator", _, ⟨_, Heap.get?_push_size _ rfl, rfl⟩, F.slot_dict_keyiterator_next.lookup, ?_⟩))
  simpa [rawInt] using hQ
theorem d_next {it : Addr} {i : Nat} {e : DictEntry} {Q : Option Value → Shared → Prop} (hit : s.heap.IsKeyIter it d i es.size ep)
    (hm : DAt s.heap d es ep) (hx : es[i]? = some e) (hQ : ∀ h', h'.IsKeyIter it d (i + 1) es.size ep → Heap.SameBut it s.heap h' → Q (some e.key) { s with heap := h' }) :
    wpAny (model prog w) A (pyNext (.ref it)) Q E s := by
  obtain ⟨o, ho, hc, hd⟩ := id hit
  unfold pyNext
  refine wpAny_bind (wpAny_attempt (wpAny_callSpecial?_slot (name := Str.ofString "__next__") hit.typeIs F.slot_dict_keyiterator_next
    (wpAny_call_entry F.slot_dict_keyiterator_next hit.typeIs F.entry_dict_keyiterator_next ?_ (F.args_dict_keyiterator_next_1 _))))
  refine wpAny_bind (wpAny_pure ?_)
  refine wpAny_bind ?_
  refine wpAny_bind ?_
  first | refine wpAny_bind (wpAny_typeNameOfWhole_keyiter hit.typeIs (wpAny_pure ?_)) | refine wpAny_bind (wpAny_typeNameOf_keyiter hit.typeIs (wpAny_pure ?_))
  refine wpAny_bind (wpAny_fieldsOf ho hd ?_)
  simp only [show Builtin.Dict_items.ownsTuple "dict_keyiterator" = false by decide, Bool.false_eq_true, if_false]
  show wpAny _ _ (if (Value.ref d == Value.none) = true then _ else _) _ _ s
  rw [if_neg (show ¬ ((Value.ref d == Value.none) = true) from Bool.false_ne_true)]
  refine wpAny_bind (wpAny_pure ?_)
  refine wpAny_bind (wpAny_dictEntries hm rfl ?_)
  rw [if_neg (by simp)]
  refine wpAny_bind (wpAny_pure ?_)
  refine wpAny_bind (wpAny_dictEpoch hm rfl ?_)
  rw [if_neg (by simp)]
  refine wpAny_pure ?_
  simp only [show ¬ ((i : Int) < 0) from by omega, if_false, Int.toNat_natCast, hx]
  refine wpAny_bind ?_
  first | refine wpAny_bind (wpAny_typeNameOfWhole_keyiter hit.typeIs (wpAny_pure ?_)) | refine wpAny_bind (wpAny_typeNameOf_keyiter hit.typeIs (wpAny_pure ?_))
  refine wpAny_bind (wpAny_isOneOf_keyiter hit.typeIs ?_)
  show wpAny _ _ (setField (.ref it) 1 (rawInt ((i : Int) + 1)) >>= _) _ _ s
  refine wpAny_bind (wpAny_setField ho hd (by simp) ?_)
  have hit' : (s.heap.update it (Obj.mapFields (·.setIfInBounds 1 (rawInt ((i : Int) + 1))))).IsKeyIter it d (i + 1) es.size ep :=
    ⟨_, Heap.get?_update_self _ ho (Obj.isFreed_of_fields (Obj.data_mapFields hd _)), (Obj.cls_mapFields ..).trans hc, by rw [Obj.data_mapFields hd]; simp [rawInt]⟩
  refine wpAny_bind (wpAny_holding ?_)
  refine wpAny_bind (wpAny_isOneOf_keyiter (s := { s with heap := s.heap.update it (Obj.mapFields (·.setIfInBounds 1 (rawInt ((i : Int) + 1)))) }) hit'.typeIs ?_)
  show wpAny _ _ (pure e.key) _ _ _
  exact wpAny_pure (wpAny_pure ⟨_, rfl, wpAny_pure (hQ _ hit' (Heap.SameBut.update ..))⟩)
theorem d_end {it : Addr} {i : Nat} {Q : Option Value → Shared → Prop} (hh : A.handled = none) (hit : s.heap.IsKeyIter it d i es.size ep)
    (hm : DAt s.heap d es ep) (hx : es[i]? = none) (hQ : ∀ h', Heap.ExtBut it s.heap h' → Q none { s with heap := h' }) : wpAny (model prog w) A (pyNext (.ref it)) Q E s := by
  obtain ⟨o, ho, hc, hd⟩ := id hit
  unfold pyNext
  refine wpAny_bind (wpAny_attempt (wpAny_callSpecial?_slot (name := Str.ofString "__next__") hit.typeIs F.slot_dict_keyiterator_next
    (wpAny_call_entry F.slot_dict_keyiterator_next hit.typeIs F.entry_dict_keyiterator_next ?_ (F.args_dict_keyiterator_next_1 _))))
  refine wpAny_bind (wpAny_pure ?_)
  refine wpAny_bind ?_
  refine wpAny_bind ?_
  first | refine wpAny_bind (wpAny_typeNameOfWhole_keyiter hit.typeIs (wpAny_pure ?_)) | refine wpAny_bind (wpAny_typeNameOf_keyiter hit.typeIs (wpAny_pure ?_))
  refine wpAny_bind (wpAny_fieldsOf ho hd ?_)
  simp only [show Builtin.Dict_items.ownsTuple "dict_keyiterator" = false by decide, Bool.false_eq_true, if_false]
  show wpAny _ _ (if (Value.ref d == Value.none) = true then _ else _) _ _ s
  rw [if_neg (show ¬ ((Value.ref d == Value.none) = true) from Bool.false_ne_true)]
  refine wpAny_bind (wpAny_pure ?_)
  refine wpAny_bind (wpAny_dictEntries hm rfl ?_)
  rw [if_neg (by simp)]
  refine wpAny_bind (wpAny_pure ?_)
  refine wpAny_bind (wpAny_dictEpoch hm rfl ?_)
  rw [if_neg (by simp)]
  refine wpAny_pure ?_
  simp only [show ¬ ((i : Int) < 0) from by omega, if_false, Int.toNat_natCast, hx]
  refine wpAny_bind ?_
  first | refine wpAny_bind (wpAny_typeNameOfWhole_keyiter hit.typeIs (wpAny_pure ?_)) | refine wpAny_bind (wpAny_typeNameOf_keyiter hit.typeIs (wpAny_pure ?_))
  show wpAny _ _ (setField (.ref it) 0 .none >>= _) _ _ s
  refine wpAny_bind (wpAny_setField ho hd (by simp) ?_)
  show wpAny _ _ (newExc (.type "StopIteration") [] >>= _) _ _ _
  refine wpAny_bind ?_
  simp only [newExc, newTuple]
  refine wpAny_bind (wpAny_newObj_type ?_ (by size_fits))
  refine wpAny_bind (m := firstArgMember _ _) (wpAny_of_eq (a := Value.none) (by first | rfl | (simp only [firstArgMember]; rfl)) ?_)
  refine wpAny_newObj_type ?_ (by size_fits)
  simp only [raiseNew]
  refine wpAny_bind (wpAny_handled ?_)
  rw [show A.in1.handled = none from hh]
  refine wpAny_bind (wpAny_pure (wpAny_throw ?_))
  refine wpAny_bind (wpAny_isInstance (T := "StopIteration") (b := true) ⟨_, Heap.get?_push_size _ rfl, rfl⟩ isSubtype_stop ?_)
  exact wpAny_pure (hQ _ (((Heap.SameBut.update ..).extBut.push _).push _))
theorem d_walks (hh : A.handled = none) (I d : Addr) (hne : d ≠ I) (es : Array DictEntry) (ep : Nat) :
    Walks prog w A I [I, d] [I] es.size (fun i v => ∃ e, es[i]? = some e ∧ v = e.key) (fun i h => h.IsKeyIter I d i es.size ep ∧ DAt h d es ep) where
  sub := fun b hb => by simp at hb; simp [hb]
  frame := fun _ _ _ st hk => ⟨st.1.at fun o e => hk I (by simp) o e, hk d (by simp) _ st.2⟩
  item := fun i s Q E hi st hQ => by
    have hx : es[i]? = some es[i] := Array.getElem?_eq_getElem hi
    refine d_next st.1 st.2 hx fun h' hit' hs' => ?_
    exact hQ _ h' s.toks ⟨_, hx, rfl⟩ ⟨hit', hs'.extBut d _ hne st.2⟩ fun b o hb e => hs'.extBut b o (fun h => hb (by simp [h])) e
  done := fun s Q E st hQ => d_end hh st.1 st.2 (by simp) fun h' he' => hQ h' s.toks fun b o hb e => he' b o (fun h => hb (by simp [h])) e
  self := fun _ _ _ _ st hQ => wpAny_pyIter_keyiter st.1 hQ
theorem d_src (lo : (d == sysModules) = false) : KdlSrc prog w "dict" d d es.size (fun i v => ∃ e, es[i]? = some e ∧ v = e.key) (fun h => DAt h d es ep) where
  type := fun _ hm => hm.typeIs
  there := fun _ hm => ⟨Heap.lt_size hm, Heap.lt_size hm⟩
  keep := fun _ _ hm hk => hk d (.inl rfl) _ hm
  notList := by decide
  notTuple := by decide
  hint := fun _ _ _ _ hm hq => kdl_hint_dict hm.typeIs hq
  iter := fun _ _ hh hm => ⟨_, _, (fun _ _ hq => d_pyIter lo hm hq), d_walks hh _ d (Nat.ne_of_lt (Heap.lt_size hm)) es ep, ⟨⟨_, Heap.get?_push_size _ rfl, rfl, rfl⟩, Heap.get?_push_of_some _ hm⟩⟩
theorem d_list {Q : Value → Shared → Prop} (hh : A.handled = none) (F : Fr h₀ L s.heap m) (N : News h₀ L s.heap news) (hm : (d, dObj es ep) ∈ news) (lo : (d == sysModules) = false) (hn : es.size ≤ 1000000)
    (h : ∀ D c h' tk, Und D news → Fr h₀ L h' m → News h₀ L h' ((D, W.listOf (es.toList.map (·.key)).toArray c) :: news) → Q (.ref D) { s with heap := h', toks := tk }) :
    wpAny (model prog w) A (call (.type "list") [.ref d]) Q E s := by
  refine kdl_N (d_src lo) hh F N (N.get hm) (by rw [sizeLine_eq]; omega) fun D c h' tk vs F' N' l hl hv => ?_
  have e : vs = es.toList.map (·.key) := by
    apply List.ext_getElem?
    intro j
    rw [List.getElem?_map, show es.toList[j]? = es[j]? by simp]
    cases hj : vs[j]? with
    | none =>
      have : vs.length ≤ j := List.getElem?_eq_none_iff.mp hj
      rw [Array.getElem?_eq_none (by omega)]; rfl
    | some v =>
      obtain ⟨q, hq, rfl⟩ := hv j v hj
      rw [hq]; rfl
  rw [e] at N'
  exact h D c h' tk (und_of l) F' N'
theorem comp_dict {env : Env} {target elt iter : PySem.Expr} {ifs : List PySem.Expr} {scope : Scope} {cl : List (Str × Addr)} {pos : Pos} {Q : Value → Shared → Prop} (J : Nat → List Value → List (Addr × Obj) → Prop)
    (hh : A.handled = none) (F : Fr h₀ L s.heap m) (N : News h₀ L s.heap news) (lo : (d == sysModules) = false) (hJ : ∀ i ys nx, J i ys nx → (d, dObj es ep) ∈ nx) (h0 : J 0 [] news) (hsz : es.size ≤ 1000000)
    (hcell : ∀ y ∈ scope.names, y.2 ≠ .cell) (hkind : scope.kind = .function)
    (turn : ∀ i e, es[i]? = some e → CompStep prog w A env target elt ifs scope cl h₀ L m s J i e.key)
    (done : ∀ D h tk ys nx, J es.size ys nx → Fr h₀ L h m → News h₀ L h ((D, lst ys) :: nx) → Off D nx → Q (.ref D) { s with heap := h, toks := tk }) :
    wpAny (model prog w) A (pyIter (.ref d)) (CompAt prog w A env target elt iter ifs scope cl pos none Q E) E s := by
  have hd : DAt s.heap d es ep := N.get (hJ 0 _ news h0)
  have hlt : @LT.lt Nat _ d s.heap.objs.size := Heap.lt_size hd
  have up : ∀ o b q, s.heap.get? b = some q → (s.heap.push o).get? b = some q := fun o b q e => Heap.get?_push_of_some _ e
  refine d_pyIter lo hd ?_
  refine comp_walks (d_walks hh s.heap.objs.size d (Nat.ne_of_lt hlt) es ep) (by rw [sizeLine_eq]; omega) J ?_ ?_ ?_ hcell hkind ⟨⟨_, Heap.get?_push_size _ rfl, rfl, rfl⟩, up _ _ _ hd⟩ ?_ (F.keeps (up _)) (fun p hp => ⟨up _ _ _ (N p hp).1, (N p hp).2⟩)
    (Nat.ne_of_gt F.ns.lt) (next_is_new F) (fun p hp => Nat.ne_of_lt (Heap.lt_size (N p hp).1)) h0 ?_ ?_
  · rintro i v s Q E ⟨⟨o, ho, hc, hd⟩, _⟩ hQ
    exact go_any ho hc hd (by decide) hQ
  · rintro i h h' ys nx o ⟨⟨oi, hi, hc, hd⟩, _⟩ e1 e2 _ N' hj
    rw [e1] at hi
    obtain rfl := Option.some.inj hi
    exact ⟨⟨_, e2, hc, hd⟩, N'.get (hJ i ys nx hj)⟩
  · rintro i h ⟨⟨oi, hi, _⟩, _⟩
    exact ⟨oi, hi⟩
  · intro b hb
    show b < (s.heap.push _).objs.size
    rw [Heap.size_push]
    rcases List.mem_cons.mp hb with rfl | hb
    · exact Nat.lt_succ_self _
    · rw [List.mem_singleton.mp hb]; exact Nat.lt_succ_of_lt hlt
  · rintro i v ys nx oI oC C D mC h tk _ ⟨e, he, rfl⟩ hj hn F' N' o3 ne
    exact turn i e he ys nx _ oI oC C D mC h tk hj hn F' N' o3 ne
  · intro D C h tk mC ys nx hj F' N' oD hns hC₀ hCL hCD oC
    exact comp_post (s := s) F' N' hns hC₀ hCL hCD oC fun h' tk' F'' N'' => done D h' tk' ys nx hj F'' N'' oD
end
end
section
noncomputable abbrev keyL (i : Int) : List Int := [10, 20, 17, i]
section
variable {prog : Program} {w : World}
noncomputable abbrev TK (prog : Program) (w : World) := tupleKind (prog := prog) (w := w) (intKind prog w)
noncomputable def wdObj (prog : Program) (w : World) (ws : List (List Int × Addr × Value)) (ep : Nat) : Obj := dObj (ws.map (entryOfKey (TK prog w))).toArray ep
noncomputable def KeysIn (im : List (Addr × Obj)) (ws : List (List Int × Addr × Value)) : Prop := ∀ x ∈ ws, ∃ T n i, x.1 = keyL i ∧ (x.2.1, keyObj T n i) ∈ im
theorem key_is {h₀ h : Heap} {L a : Addr} {l : List (Addr × Obj)} {T : Nat → Tok} {n : Nat} {i : Int} (N : News h₀ L h l) (hm : (a, keyObj T n i) ∈ l) : IsTupleKey (intKind prog w) h (keyL i) a :=
  ⟨_, _, _, N.get hm, rfl, rfl, .cons (intKind_is _ _ _ _) (.cons (intKind_is _ _ _ _) (.cons (intKind_is _ _ _ _) (.cons (intKind_is _ _ _ _) .nil)))⟩
variable {A : Around} {E : Value → Shared → Prop} {s : Shared} {h₀ : Heap} {L wd a : Addr} {m : Str → Option Value} {news im rest : List (Addr × Obj)} {ws : List (List Int × Addr × Value)} {ep : Nat} {T : Nat → Tok} {n : Nat} {i : Int}
theorem wd_at (N : News h₀ L s.heap news) (hm : (wd, wdObj prog w ws ep) ∈ news) (K : KeysIn im ws) (him : Ext im news) (nd : (ws.map (·.1)).Nodup) : s.heap.DictOfH (TK prog w) wd ws :=
  ⟨_, _, _, N.get hm, ⟨rfl, rfl, rfl⟩, rfl, by simp, fun x hx => by
    obtain ⟨T, n, i, e, hk⟩ := K x hx
    rw [e]
    exact key_is N (him _ hk), nd⟩
theorem wd_of {h : Heap} (H : h.DictOfH (TK prog w) wd ws) : ∃ ep, h.get? wd = some (wdObj prog w ws ep) := by
  obtain ⟨o, es, ep, ho, ⟨h1, h2, h3⟩, hd, he, _⟩ := H
  obtain ⟨c, d, dt, sl⟩ := o
  dsimp only at h1 h2 h3 hd
  subst h1 h2 h3 hd
  refine ⟨ep, ho.trans ?_⟩
  unfold wdObj
  rw [← he]
theorem wd_notin {Q : Value → Shared → Prop} (hu : A.units + 1 < cLine) (N : News h₀ L s.heap news) (lo : (wd == sysModules) = false) (hm : (wd, wdObj prog w ws ep) ∈ news) (K : KeysIn im ws) (him : Ext im news) (nd : (ws.map (·.1)).Nodup)
    (hk : (a, keyObj T n i) ∈ news) (h : ∀ tk, Q (.bool (!(atKey ws (keyL i)).isSome)) { s with toks := tk }) : wpAny (model prog w) A (compareOp .NotIn (.ref a) (.ref wd)) Q E s :=
  wpAny_notIn_heap (knd := TK prog w) (tupleKind_room_in1 hu) (key_is N hk) lo (wd_at N hm K him nd) (h _)
theorem wd_item {value slice : PySem.Expr} {p : Addr × Value} {Q : Value → Shared → Prop} (N : News h₀ L s.heap news) (hm : (wd, wdObj prog w ws ep) ∈ news)
    (hk : (a, keyObj T n i) ∈ news) (hp : atKey ws (keyL i) = some p) (K : KeysIn im ws) (him : Ext im news) (nd : (ws.map (·.1)).Nodup) (hu : A.units + 1 < cLine) (h : ∀ tk, Q p.2 { s with toks := tk })
    (hs : subscripted slice false (.ref wd) (.ref a) = operate [.ref wd, .ref a] (getItem (.ref wd) (.ref a)) := by with_unfolding_all rfl) (hg : ∀ r, letTemporaryGo value (.ref wd) r = pure () := by intro _; with_unfolding_all rfl) :
    wpAny (model prog w) A (subscriptTail value slice (.ref wd) (.ref a)) Q E s :=
  have H := wd_at N hm K him nd
  subscriptTail_builtin H.typeIs slot_dict_getitem.lookup (wpAny_getItem_heap (knd := TK prog w) (tupleKind_room_in1 hu) (key_is N hk) H hp (h _)) hs hg
theorem news_wd {h' : Heap} {o o' : Obj} (N : News h₀ L s.heap ((wd, o) :: rest)) (off : Off wd rest) (hs : Heap.SameBut wd s.heap h') (e : h'.get? wd = some o') : News h₀ L h' ((wd, o') :: rest) := fun p hp => by
  rcases List.mem_cons.mp hp with rfl | hp
  · exact ⟨e, (N _ (.head _)).2⟩
  · exact kas_news (newsDropT N) hs off p hp
theorem wd_set {v : Value} {Q : Unit → Shared → Prop} (hu : A.units + 1 < cLine) (F : Fr h₀ L s.heap m) (N : News h₀ L s.heap ((wd, wdObj prog w ws ep) :: rest)) (off : Off wd rest) (K : KeysIn im ws) (him : Ext im rest) (nd : (ws.map (·.1)).Nodup)
    (hk : (a, keyObj T n i) ∈ rest) (hp : atKey ws (keyL i) = none) (hz : ws.length ≤ 1000)
    (h : ∀ h' ep' tk, Fr h₀ L h' m → News h₀ L h' ((wd, wdObj prog w (ws ++ [(keyL i, a, v)]) ep') :: rest) → Q () { s with heap := h', toks := tk }) : wpAny (model prog w) A (setItem (.ref wd) (.ref a) v) Q E s := by
  refine wpAny_setItem_heap (knd := TK prog w) (hsz := by rw [sizeLine_eq]; omega) (tupleKind_room_in1 hu) (key_is N (.tail _ hk)) (wd_at N (.head _) K (Ext.cons him) nd) fun h' H hs => ?_
  rw [storedH_new hp] at H
  obtain ⟨ep', e⟩ := wd_of H
  have z := N _ (.head _)
  exact h h' ep' _ (kas_fr F hs z.2.1 z.2.2) (news_wd N off hs e)
noncomputable def dropK (ws : List (List Int × Addr × Value)) (k : List Int) : List (List Int × Addr × Value) := ws.filter fun x => decide (x.1 ≠ k)
theorem dropK_at {k : List Int} : ∀ {ws : List (List Int × Addr × Value)} {j : Nat} {p : Addr × Value}, (ws.map (·.1)).Nodup → ws[j]? = some (k, p) → ws.eraseIdx j = dropK ws k
  | x :: r, 0, p, nd, h => by
    simp only [List.getElem?_cons_zero, Option.some.injEq] at h
    subst h
    have nd' := List.nodup_cons.mp (by simpa using nd : (k :: r.map (·.1)).Nodup)
    have : dropK r k = r := List.filter_eq_self.mpr fun y hy => by
      have : y.1 ≠ k := fun e => nd'.1 (e ▸ List.mem_map_of_mem (f := (·.1)) hy)
      simpa using this
    rw [List.eraseIdx_cons_zero]
    unfold dropK at this ⊢
    rw [List.filter_cons_of_neg (by simp)]
    exact this.symm
  | x :: r, j + 1, p, nd, h => by
    simp only [List.getElem?_cons_succ] at h
    have nd' := List.nodup_cons.mp (by simpa using nd : (x.1 :: r.map (·.1)).Nodup)
    have hne : x.1 ≠ k := fun e => nd'.1 (e ▸ List.mem_map_of_mem (f := (·.1)) (List.mem_of_getElem? h))
    rw [List.eraseIdx_cons_succ, dropK_at nd'.2 h]
    unfold dropK
    rw [List.filter_cons_of_pos (by simpa using hne)]
  | [], _, _, _, h => by simp at h
theorem at_idx {k : List Int} : ∀ {ws : List (List Int × Addr × Value)} {p : Addr × Value}, atKey ws k = some p → ∃ j : Nat, ws[j]? = some (k, p)
  | [], _, h => by simp [atKey] at h
  | x :: r, p, h => by
    by_cases e : x.1 = k
    · simp [atKey, e] at h
      exact ⟨0, by rw [← h, ← e]; rfl⟩
    · have : atKey r k = some p := by simpa [atKey, e] using h
      obtain ⟨j, hj⟩ := at_idx this
      exact ⟨j + 1, by simpa using hj⟩
theorem wd_pop {p : Addr × Value} {Q : Value → Shared → Prop} (hu : A.units + 1 < cLine) (F : Fr h₀ L s.heap m) (N : News h₀ L s.heap ((wd, wdObj prog w ws ep) :: rest)) (off : Off wd rest) (K : KeysIn im ws) (him : Ext im rest) (nd : (ws.map (·.1)).Nodup)
    (hk : (a, keyObj T n i) ∈ rest) (hp : atKey ws (keyL i) = some p) (hz : ws.length ≤ 1000)
    (h : ∀ h' ep' tk, Fr h₀ L h' m → News h₀ L h' ((wd, wdObj prog w (dropK ws (keyL i)) ep') :: rest) → Q p.2 { s with heap := h', toks := tk }) : wpAny (model prog w) A (call (.builtin "dict.pop") [.ref wd, .ref a]) Q E s := by
  obtain ⟨j, hj⟩ := at_idx hp
  have H := wd_at N (.head _) K (Ext.cons him) nd
  have z := N _ (.head _)
  refine wpAny_call_entry PySem.F.slot_dict_pop H.typeIs PySem.F.entry_dict_pop ?_ (PySem.F.args_dict_pop_2 _ _)
  unfold Builtin.«dict.pop»
  refine wpAny_bind ?_
  unfold Builtin.Dict.keyAndDefault
  refine wpAny_bind (wpAny_notOrdered_dict H.typeIs ?_)
  show wpAny _ _ (pure (wd, Value.ref a, none)) _ _ s
  refine wpAny_pure ?_
  dsimp only
  rw [if_neg (show ¬ ((keyPart (Value.ref a)).isSome = true) from Bool.false_ne_true)]
  refine wpAny_bind (wpAny_dictEntries z.1 rfl ?_)
  refine wpAny_bind (wpAny_pure ?_)
  have hne : ((ws.map (entryOfKey (TK prog w))).toArray.isEmpty) = false := by
    cases ws with
    | nil => simp at hj
    | cons x r => rfl
  rw [hne]
  simp only [Bool.false_eq_true, if_false]
  refine wpAny_bind ?_
  unfold Builtin.Dict.takeOut
  refine wpAny_holding ?_
  refine wpAny_bind ((TK prog w).pyHash (k := keyL i) (tupleKind_room_in1 hu) (key_is N (.tail _ hk)) ?_)
  refine wpAny_bind (wpAny_dictFind_heap (knd := TK prog w) (s := { s with toks := s.toks + (TK prog w).draws (keyL i) }) (tupleKind_room_in1 hu) (key_is N (.tail _ hk)) z.1 rfl (by simp) (fun x hx => ?_) nd (fun hn => absurd hj (hn j p)) fun j' p' hj' => ?_)
  · obtain ⟨T, n, i, e, hk⟩ := K x hx
    rw [e]
    exact key_is N (.tail _ (him _ hk))
  obtain rfl := idxH_unique nd hj hj'
  rw [hj] at hj'
  injection hj' with hj'
  injection hj' with _ hpp
  subst hpp
  refine wpAny_bind (wpAny_dictEntries (s := { s with toks := s.toks + (TK prog w).draws (keyL i) }) z.1 rfl ?_)
  have he : (ws.map (entryOfKey (TK prog w))).toArray[j]? = some (entryOfKey (TK prog w) (keyL i, p)) := by rw [List.getElem?_toArray, List.getElem?_map, hj]; rfl
  rw [he]
  refine wpAny_bind (wpAny_updateDictKeys (hz := by rw [List.size_toArray, List.length_map, sizeLine_eq]; omega) (s := { s with toks := s.toks + (TK prog w).draws (keyL i) }) z.1 rfl (wpAny_pure ?_))
  simp only [Option.isNone_some, Bool.false_eq_true, if_false]
  refine wpAny_bind (wpAny_letGo (wpAny_pure ⟨_, rfl, ?_⟩))
  have hs := Heap.SameBut.update s.heap wd (Obj.mapDictKeys fun x => x.eraseIdxIfInBounds j)
  have e9 : (s.heap.update wd (Obj.mapDictKeys fun x => x.eraseIdxIfInBounds j)).get? wd = some (wdObj prog w (dropK ws (keyL i)) (ep + 1)) := by
    have hlt : j < ws.length := (List.getElem?_eq_some_iff.mp hj).1
    rw [Heap.get?_update_self _ z.1 rfl]
    show some (dObj ((ws.map (entryOfKey (TK prog w))).toArray.eraseIdxIfInBounds j) (ep + 1)) = _
    unfold wdObj
    rw [← dropK_at nd hj]
    congr 2
    rw [Array.eraseIdxIfInBounds, dif_pos (by simpa using hlt)]
    apply Array.toList_inj.mp
    simp only [Array.toList_eraseIdx, List.toList_toArray, List.eraseIdx_eq_take_drop_succ, List.map_append, List.map_take, List.map_drop]
  exact h _ _ _ (kas_fr F hs z.2.1 z.2.2) (news_wd N off hs e9)
theorem d_len {es : Array DictEntry} {d : Addr} {Q : Value → Shared → Prop} (N : News h₀ L s.heap news) (hm : (d, dObj es ep) ∈ news) (lo : (d == sysModules) = false) (hz : es.size ≤ 1000000)
    (h : ∀ t tk, Q (.int (es.size : Nat) t) { s with toks := tk }) : wpAny (model prog w) A (call (.builtin "len") [.ref d]) Q E s := by
  have H : DAt s.heap d es ep := N.get hm
  refine Calls.call_function_entry kind_len plain_len entry_len (args_len1 _) ?_
  unfold Builtin.«len»
  refine wpAny_bind (m := oneArg "len" _) (wpAny_pure ?_)
  refine wpAny_bind (m := callSpecial? (.ref d) (Str.ofString "__len__")) (wpAny_callSpecial?_slot (name := Str.ofString "__len__") H.typeIs F.slot_dict_len
    (wpAny_call_entry F.slot_dict_len H.typeIs F.entry_dict_len ?_ (F.args_dict_len_1 _)))
  show wpAny _ _ (dictSize d >>= _) _ _ s
  unfold dictSize
  refine wpAny_bind (wpAny_bind (wpAny_dictEntries H rfl (wpAny_pure ?_)))
  show wpAny _ _ (Builtin.Dict.pendingCount d >>= _) _ _ s
  refine wpAny_bind (wpAny_pendingCount_other lo ?_)
  refine wpAny_ret_mkInt ?_
  rw [Nat.add_zero]
  show wpAny _ _ _ _ _ { s with toks := s.toks + 1 }
  refine wpAny_bind (wpAny_holding (wpAny_pure ?_))
  refine wpAny_bind (wpAny_letGo ?_)
  show wpAny _ _ (if ((es.size : Nat) : Int) < 0 then _ else _) _ _ _
  rw [if_neg (by omega)]
  show wpAny _ _ (if ((es.size : Nat) : Int) ≥ 2 ^ 63 then _ else _) _ _ _
  rw [if_neg (by omega)]
  exact wpAny_bind (wpAny_mkInt (wpAny_pure ⟨_, rfl, h _ _⟩))
end
section
variable {prog : Program} {w : World} {A : Around} {E : Value → Shared → Prop} {s : Shared} {h₀ : Heap} {L d : Addr} {news : List (Addr × Obj)} {es : Array DictEntry} {ep : Nat}
theorem d_method {name : Str} {id : String} {pl : Sem Bool} {Q : Value × List Value → Shared → Prop} (slot : Slot "dict" name id) (ty : typeOf (.builtin id) = pure (.type "method_descriptor")) (N : News h₀ L s.heap news) (hm : (d, dObj es ep) ∈ news) (h : Q (.builtin id, [.ref d]) s) :
    wpAny (model prog w) A (getMethod (.ref d) name pl) Q E s :=
  getMethod_builtin (show s.TypeIs (.ref d) "dict" from ⟨_, N.get hm, rfl⟩) PySem.F.plainAttrs_dict slot ty (fun b e => by injection e with e; subst e; exact ⟨_, N.get hm, rfl⟩) h
end
theorem empty_dict {prog : Program} {w : World} {K : Type} [DecidableEq K] {knd : PySem.KeyKind prog w K} {o : Obj} (h : o.IsDictOf knd []) : ∃ ep, o = dObj #[] ep := by
  obtain ⟨es, ep, ⟨h1, h2, h3⟩, hd, _, hp, _⟩ := h
  obtain ⟨c, d, dt, sl⟩ := o
  dsimp only at h1 h2 h3 hd
  subst h1 h2 h3 hd
  have : es.toList = [] := List.length_eq_zero_iff.mp hp.length
  have e : es = #[] := by apply Array.toList_inj.mp; rw [this]
  exact ⟨ep, by rw [e]⟩
section
variable {prog : Program} {w : World} {A : Around} {E : Value → Shared → Prop} {s : Shared} {h₀ : Heap} {L wd a : Addr} {m : Str → Option Value} {news im rest : List (Addr × Obj)} {ws : List (List Int × Addr × Value)} {ep : Nat} {T : Nat → Tok} {n : Nat} {i : Int}
end
end
section
structure TwS where
  began : Int
  places : List (Nat × UInt8)
  en : Option Nat
  ahead : Nat
  first : Option HdS
noncomputable def PlAre : List (Int × Value) → List (Nat × UInt8) → Prop
  | [], [] => True
  | kv :: r, p :: s => kv.1 = (p.1 : Int) ∧ (∃ t, kv.2 = .int (p.2.toNat : Int) t) ∧ PlAre r s
  | _, _ => False
theorem PlAre.len : ∀ {kvs : List (Int × Value)} {ps : List (Nat × UInt8)}, PlAre kvs ps → kvs.length = ps.length
  | [], [], _ => rfl
  | _ :: _, _ :: _, h => congrArg (· + 1) h.2.2.len
  | [], _ :: _, h => h.elim
  | _ :: _, [], h => h.elim
theorem PlAre.keys : ∀ {kvs : List (Int × Value)} {ps : List (Nat × UInt8)}, PlAre kvs ps → kvs.map (·.1) = ps.map fun p => (p.1 : Int)
  | [], [], _ => rfl
  | _ :: _, _ :: _, h => by rw [List.map_cons, List.map_cons, h.1, h.2.2.keys]
  | [], _ :: _, h => h.elim
  | _ :: _, [], h => h.elim
theorem PlAre.snoc {a : Nat} {o : UInt8} {v : Value} {t : Tok} (hv : v = .int (o.toNat : Int) t) : ∀ {kvs : List (Int × Value)} {ps : List (Nat × UInt8)}, PlAre kvs ps → PlAre (kvs ++ [((a : Int), v)]) (ps ++ [(a, o)])
  | [], [], _ => ⟨rfl, ⟨t, hv⟩, trivial⟩
  | _ :: _, _ :: _, h => ⟨h.1, h.2.1, h.2.2.snoc hv⟩
  | [], _ :: _, h => h.elim
  | _ :: _, [], h => h.elim
noncomputable def octAt (ps : List (Nat × UInt8)) (a : Nat) : Option UInt8 := (ps.find? fun p => decide (p.1 = a)).map (·.2)
theorem PlAre.at {a : Nat} : ∀ {kvs : List (Int × Value)} {ps : List (Nat × UInt8)}, PlAre kvs ps → ∀ {o : UInt8}, octAt ps a = some o → ∃ t, valueAt kvs (a : Int) = some (.int (o.toNat : Int) t)
  | [], [], _, o, h => by simp [octAt] at h
  | kv :: r, p :: s, h, o, e => by
    obtain ⟨h1, ⟨t, h2⟩, h3⟩ := h
    by_cases q : p.1 = a
    · have : o = p.2 := by simpa [octAt, q, eq_comm] using e
      refine ⟨t, ?_⟩
      have q' : kv.1 = (a : Int) := by rw [h1, q]
      simp [valueAt, q', h2, this]
    · have q' : ¬ kv.1 = (a : Int) := by rw [h1]; omega
      obtain ⟨t, ht⟩ := h3.at (a := a) (o := o) (by simpa [octAt, q] using e)
      exact ⟨t, by simpa [valueAt, q'] using ht⟩
  | [], _ :: _, h, _, _ => h.elim
  | _ :: _, [], h, _, _ => h.elim
theorem PlAre.no {a : Nat} : ∀ {kvs : List (Int × Value)} {ps : List (Nat × UInt8)}, PlAre kvs ps → octAt ps a = none → valueAt kvs (a : Int) = none
  | [], [], _, _ => rfl
  | kv :: r, p :: s, h, e => by
    obtain ⟨h1, -, h3⟩ := h
    have q : ¬ p.1 = a := fun q => by simp [octAt, q] at e
    have q' : ¬ kv.1 = (a : Int) := by rw [h1]; omega
    have := h3.no (a := a) (by simpa [octAt, q] using e)
    simpa [valueAt, q'] using this
  | [], _ :: _, h, _ => h.elim
  | _ :: _, [], h, _ => h.elim
noncomputable abbrev stL (began : Int) (tb : Tok) (pd : Addr) (ev : Value) (ahead : Nat) (ta : Tok) (fv : Value) (n : Nat) : Obj := W.listOf #[.int began tb, .ref pd, ev, .int (ahead : Int) ta, fv] n
noncomputable def twDenies (most : Nat) (places : List (Nat × UInt8)) (en : Option Nat) (ahead e : Nat) (mo : Bool) : Bool :=
  if most < e then true else if mo = true then (match en with | some z => decide (z ≤ e) | none => false)
  else match en with | some z => decide (z ≠ e) | none => (!decide (((places.map fun p => (p.1 : Int)).filter fun p => decide ((e : Int) ≤ p)).length = 0)) || decide (e ≤ ahead)
theorem idict {prog : Program} {w : World} {o : Obj} {kvs : List (Int × Value)} (h : o.IsDictOf (intKind prog w) kvs) : ∃ es ep, o = dObj es ep ∧ es.size = kvs.length ∧ ∀ (i : Nat) e, es[i]? = some e → ∃ k v t, kvs[i]? = some (k, v) ∧ e.key = .int k t ∧ e.val = v := by
  obtain ⟨es, ep, ⟨h1, h2, h3⟩, hd, _, hp, hnn⟩ := h
  clear hnn
  obtain ⟨c, d, dt, sl⟩ := o
  dsimp only at h1 h2 h3 hd
  subst h1 h2 h3 hd
  refine ⟨es, ep, rfl, by rw [← hp.length, Array.length_toList], fun i e he => ?_⟩
  rw [show es[i]? = es.toList[i]? by simp] at he
  generalize es.toList = el at hp he
  induction hp generalizing i with
  | nil => simp at he
  | @cons e' kv es' kvs' a b c ih =>
    cases i with
    | zero =>
      simp only [List.getElem?_cons_zero, Option.some.injEq] at he ⊢
      subst he
      obtain ⟨t, ht⟩ := Value.isInt_shape (show Value.isInt kv.1 e'.key = true from a)
      exact ⟨_, _, t, rfl, ht, b⟩
    | succ j => exact ih j (by simpa using he)
end
section
section
variable {prog : Program} {w : World} {A : Around} {E : Value → Shared → Prop} {s : Shared} {h₀ : Heap} {L d : Addr} {m : Str → Option Value} {news rest : List (Addr × Obj)} {o : Obj} {kvs : List (Int × Value)} {k : Int} {t : Tok} {v : Value}
theorem id_there {Q : Value → Shared → Prop} (N : News h₀ L s.heap news) (hp : (d, o) ∈ news) (hd : o.IsDictOf (intKind prog w) kvs) (lo : (d == sysModules) = false) (hl : valueAt kvs k = some v) (h : ∀ tk, Q (.bool false) { s with toks := tk }) :
    wpAny (model prog w) A (compareOp .NotIn (.int k t) (.ref d)) Q E s := wpAny_notIn_of (intKind_is _ _ _ _) lo (kda_dict N hp hd).mapOf (by rw [hl]; exact h _)
theorem id_gone {Q : Value → Shared → Prop} (N : News h₀ L s.heap news) (hp : (d, o) ∈ news) (hd : o.IsDictOf (intKind prog w) kvs) (lo : (d == sysModules) = false) (hl : valueAt kvs k = none) (h : ∀ tk, Q (.bool true) { s with toks := tk }) :
    wpAny (model prog w) A (compareOp .NotIn (.int k t) (.ref d)) Q E s := wpAny_notIn_of (intKind_is _ _ _ _) lo (kda_dict N hp hd).mapOf (by rw [hl]; exact h _)
theorem id_item {value slice : PySem.Expr} {Q : Value → Shared → Prop} (N : News h₀ L s.heap news) (hp : (d, o) ∈ news) (hd : o.IsDictOf (intKind prog w) kvs) (hl : valueAt kvs k = some v) (h : ∀ tk, Q v { s with toks := tk })
    (hs : subscripted slice false (.ref d) (.int k t) = operate [.ref d, .int k t] (getItem (.ref d) (.int k t)) := by with_unfolding_all rfl) (hg : ∀ r, letTemporaryGo value (.ref d) r = pure () := by intro _; with_unfolding_all rfl) :
    wpAny (model prog w) A (subscriptTail value slice (.ref d) (.int k t)) Q E s := kda_item N hp hd (intKind_is _ _ _ _) hl (h _) hs hg
theorem id_set {Q : Unit → Shared → Prop} (F : Fr h₀ L s.heap m) (N : News h₀ L s.heap ((d, o) :: rest)) (off : Off d rest) (hd : o.IsDictOf (intKind prog w) kvs) (hz : kvs.length ≤ 1000000)
    (h : ∀ h' o' tk, Fr h₀ L h' m → News h₀ L h' ((d, o') :: rest) → o'.IsDictOf (intKind prog w) (stored kvs k v) → Q () { s with heap := h', toks := tk }) : wpAny (model prog w) A (setItem (.ref d) (.int k t) v) Q E s :=
  kda_set F N (.head off) hd (intKind_is _ _ _ _) (by rw [sizeLine_eq]; omega) fun h' o' F' N' hd' => h h' o' _ F' N' hd'
theorem id_pop {Q : Value → Shared → Prop} (F : Fr h₀ L s.heap m) (N : News h₀ L s.heap ((d, o) :: rest)) (off : Off d rest) (hd : o.IsDictOf (intKind prog w) kvs) (hl : valueAt kvs k = some v) (hz : kvs.length ≤ 1000000)
    (h : ∀ h' o' tk, Fr h₀ L h' m → News h₀ L h' ((d, o') :: rest) → o'.IsDictOf (intKind prog w) (without kvs k) → Q v { s with heap := h', toks := tk }) : wpAny (model prog w) A (call (.builtin "dict.pop") [.ref d, .int k t]) Q E s :=
  kob_pop F N (.head off) hd (intKind_is _ _ _ _) (.inl rfl) rfl (PySem.F.args_dict_pop_2 _ _) hl (by rw [sizeLine_eq]; omega) fun h' o' F' N' hd' => h h' o' _ F' N' hd'
theorem id_len {Q : Value → Shared → Prop} (N : News h₀ L s.heap news) (hp : (d, o) ∈ news) (hd : o.IsDictOf (intKind prog w) kvs) (lo : (d == sysModules) = false) (hz : kvs.length ≤ 1000000) (h : ∀ t tk, Q (.int (kvs.length : Nat) t) { s with toks := tk }) :
    wpAny (model prog w) A (call (.builtin "len") [.ref d]) Q E s := kda_len N hp hd lo (by omega) (h _ _)
theorem id_method {name : Str} {id : String} {pl : Sem Bool} {Q : Value × List Value → Shared → Prop} (slot : Slot "dict" name id) (ty : typeOf (.builtin id) = pure (.type "method_descriptor")) (N : News h₀ L s.heap news) (hp : (d, o) ∈ news) (hd : o.IsDictOf (intKind prog w) kvs) (h : Q (.builtin id, [.ref d]) s) :
    wpAny (model prog w) A (getMethod (.ref d) name pl) Q E s := kob_method slot ty N hp hd h
end
end
section
section
variable {ε : Type} {ad : ε → List Addr} {ft : ε → List (Addr × Obj)}
noncomputable def feetG (ft : ε → List (Addr × Obj)) (l : List ε) : List (Addr × Obj) := l.flatMap ft
variable {wd : Addr} {W : Obj} {l l' pre post : List ε} {e : ε} {r r' new : List (Addr × Obj)} {a : Addr}
theorem feetG_app {a b : List ε} : feetG ft (a ++ b) = feetG ft a ++ feetG ft b := List.flatMap_append
theorem feetG_cons : feetG ft (e :: l) = ft e ++ feetG ft l := rfl
theorem feetG_mid : feetG ft (pre ++ e :: post) = feetG ft pre ++ (ft e ++ feetG ft post) := by rw [feetG_app, feetG_cons]
theorem feetG_mem (he : e ∈ l) : ∀ p ∈ ft e, p ∈ feetG ft l := fun p hp => List.mem_flatMap.mpr ⟨e, he, hp⟩
variable {h₀ h : Heap} {L : Addr} {w : Addr × Obj}
end
end
section
structure WE where
  i : Int
  ka : Addr
  x : Addr
  c : DgC
  d : DgS
noncomputable def wsOf (l : List WE) : List (List Int × Addr × Value) := l.map fun e => (keyL e.i, e.ka, .ref e.x)
noncomputable def feet (P : Params) (most : Nat) (l : List WE) : List (Addr × Obj) := l.flatMap fun e => foot P most e.c e.d
structure ReIn (P : Params) (im : List (Addr × Obj)) (l : List WE) : Prop where
  keys : ∀ e ∈ l, ∃ T n, (e.ka, keyObj T n e.i) ∈ im
  dgs : ∀ e ∈ l, DgIn P im e.i e.x e.c e.d
  nd : (l.map (·.i)).Nodup
theorem ReIn.mono {P : Params} {im im' : List (Addr × Obj)} {l : List WE} (hs : Ext im im') (R : ReIn P im l) : ReIn P im' l :=
  ⟨fun e he => let ⟨T, n, h⟩ := R.keys e he; ⟨T, n, hs _ h⟩, fun e he => (R.dgs e he).mono hs, R.nd⟩
theorem ReIn.keysIn {P : Params} {im : List (Addr × Obj)} {l : List WE} (R : ReIn P im l) : KeysIn im (wsOf l) := fun x hx => by
  obtain ⟨e, he, rfl⟩ := List.mem_map.mp hx
  obtain ⟨T, n, h⟩ := R.keys e he
  exact ⟨T, n, e.i, rfl, h⟩
theorem keyL_inj {i j : Int} (h : keyL i = keyL j) : i = j := by simpa [keyL] using h
theorem ReIn.nodup {P : Params} {im : List (Addr × Obj)} {l : List WE} (R : ReIn P im l) : ((wsOf l).map (·.1)).Nodup := by
  have : (wsOf l).map (·.1) = (l.map (·.i)).map keyL := by simp [wsOf]
  rw [this, List.nodup_iff_pairwise_ne, List.pairwise_map]
  have := List.nodup_iff_pairwise_ne.mp R.nd
  exact this.imp fun hne e => hne (keyL_inj e)
theorem ReIn.sub {P : Params} {im : List (Addr × Obj)} {l l' : List WE} (R : ReIn P im l) (h : l'.Sublist l) : ReIn P im l' :=
  ⟨fun e he => R.keys e (h.subset he), fun e he => R.dgs e (h.subset he), R.nd.sublist (h.map _)⟩
theorem atKey_ws {i : Int} : ∀ {l : List WE}, (l.map (·.i)).Nodup → ∀ {e : WE}, e ∈ l → e.i = i → atKey (wsOf l) (keyL i) = some (e.ka, .ref e.x)
  | [], _, e, he, _ => nomatch he
  | x :: r, nd, e, he, hi => by
    have nd' := List.nodup_cons.mp (by simpa using nd : (x.i :: r.map (·.i)).Nodup)
    rcases List.mem_cons.mp he with rfl | he
    · subst hi; simp [wsOf, atKey]
    · have hne : x.i ≠ i := fun q => nd'.1 (by rw [q, ← hi]; exact List.mem_map_of_mem he)
      have ih := atKey_ws nd'.2 he hi
      have hk : keyL x.i ≠ keyL i := fun q => hne (keyL_inj q)
      simpa [wsOf, atKey, hk] using ih
theorem atKey_no {i : Int} {l : List WE} (h : ∀ e ∈ l, e.i ≠ i) : atKey (wsOf l) (keyL i) = none := by
  unfold atKey
  rw [Option.map_eq_none_iff, List.find?_eq_none]
  intro x hx
  obtain ⟨e, he, rfl⟩ := List.mem_map.mp hx
  simpa using fun q => h e he (keyL_inj q)
theorem dropK_ws {i : Int} {l : List WE} : dropK (wsOf l) (keyL i) = wsOf (l.filter fun e => decide (e.i ≠ i)) := by
  unfold dropK wsOf
  rw [List.filter_map]
  congr 1
  apply List.filter_congr
  intro e _
  simp only [Function.comp, ne_eq, decide_eq_decide]
  exact ⟨fun h q => h (by rw [q]), fun h q => h (keyL_inj q)⟩
theorem feet_mem {P : Params} {most : Nat} {l : List WE} {e : WE} (he : e ∈ l) : ∀ p ∈ foot P most e.c e.d, p ∈ feet P most l := fun p hp => List.mem_flatMap.mpr ⟨e, he, hp⟩
theorem feet_dd {P : Params} {most : Nat} {l : List WE} {e : WE} (he : e ∈ l) : (e.c.dd, dgObj P e.c.TT e.d.began most e.c.hx e.c.lp e.c.ev e.d.ahead e.c.fv e.d.size) ∈ feet P most l := feet_mem he _ (.head _)
theorem feet_lp {P : Params} {most : Nat} {l : List WE} {e : WE} (he : e ∈ l) : (e.c.lp, W.listOf e.c.vp.toArray e.c.np) ∈ feet P most l := feet_mem he _ (.tail _ (.tail _ (.head _)))
noncomputable def totalOf (l : List DgS) : Nat := (l.map (·.size)).sum
theorem filter_head {e : WE} {r : List WE} (nd : ((e :: r).map (·.i)).Nodup) : (e :: r).filter (fun q => decide (q.i ≠ e.i)) = r := by
  have nd' := List.nodup_cons.mp (by simpa using nd : (e.i :: r.map (·.i)).Nodup)
  rw [List.filter_cons_of_neg (by simp)]
  exact List.filter_eq_self.mpr fun q hq => by
    have : q.i ≠ e.i := fun z => nd'.1 (z ▸ List.mem_map_of_mem (f := (·.i)) hq)
    simpa using this
theorem feet_app {P : Params} {most : Nat} (a b : List WE) : feet P most (a ++ b) = feet P most a ++ feet P most b := List.flatMap_append
theorem feet_cons {P : Params} {most : Nat} (e : WE) (r : List WE) : feet P most (e :: r) = foot P most e.c e.d ++ feet P most r := rfl
noncomputable def OutIs (P : Params) (im : List (Addr × Obj)) (i : Int) (v : Value) : Option Spec → Prop
  | none => v = .none
  | some sp => PieceIs P im v i sp
noncomputable def absE (e : WE) : Int × DgS := (e.i, e.d)
noncomputable def newDg (most : Nat) (now : Int) : DgS := ⟨now, [(0, most)], [], none, 0, none, 0⟩
noncomputable def entryOf (most : Nat) (st : List (Int × DgS)) (i now : Int) : List (Int × DgS) := if st.any (fun x => decide (x.1 = i)) = true then st else st ++ [(i, newDg most now)]
noncomputable def roomD (mo : Nat) : List (Int × DgS) → List (Int × DgS)
  | [] => []
  | e :: r => if mo < totalOf ((e :: r).map (·.2)) then roomD mo r else e :: r
noncomputable def RePutR (most mo : Nat) (st : List (Int × DgS)) (i : Int) (h : HdS) (pl : Array UInt8) (now : Int) (st' : List (Int × DgS)) (out : Option Spec) : Prop :=
  if h.off = 0 ∧ h.more = false then st' = st ∧ out = some ⟨h.more, (h.off : Int), h.opt, pl⟩
  else if (h.more && (decide (pl.size = 0) || decide (pl.size % 8 ≠ 0))) = true then st' = st ∧ out = none
  else ∃ pre d post, entryOf most st i now = pre ++ (i, d) :: post ∧
    match dgPut most d h pl with
    | none => st' = pre ++ post ∧ out = none
    | some d' => if (d'.en.isSome && (d'.first.isSome && decide (d'.rows.length = 0))) = true then
        st' = pre ++ post ∧ ∃ (xs : List (Nat × Array UInt8)) (f : HdS), d'.first = some f ∧ xs.Perm d'.parts ∧ xs.Pairwise (fun a b => a.1 < b.1) ∧ out = some ⟨false, 0, f.opt, (xs.map fun x => x.2.toList).flatten.toArray⟩
      else st' = roomD mo (pre ++ (i, d') :: post) ∧ out = none
theorem entry_yes {most : Nat} {l : List WE} {i now : Int} (h : ∃ e ∈ l, e.i = i) : entryOf most (l.map absE) i now = l.map absE := by
  unfold entryOf
  rw [if_pos]
  obtain ⟨e, he, hi⟩ := h
  exact List.any_eq_true.mpr ⟨absE e, List.mem_map_of_mem he, by simp [absE, hi]⟩
theorem entry_no {most : Nat} {l : List WE} {i now : Int} (h : ¬ ∃ e ∈ l, e.i = i) : entryOf most (l.map absE) i now = l.map absE ++ [(i, newDg most now)] := by
  unfold entryOf
  rw [if_neg]
  intro ha
  obtain ⟨x, hx, hi⟩ := List.any_eq_true.mp ha
  obtain ⟨e, he, rfl⟩ := List.mem_map.mp hx
  exact h ⟨e, he, of_decide_eq_true hi⟩
section
variable {h₀ h : Heap} {L : Addr} {W d1 d2 d3 n1 n2 n3 n4 n5 : Addr × Obj} {f r : List (Addr × Obj)}
end
theorem newDg_in {P : Params} {im : List (Addr × Obj)} {i now : Int} {most : Nat} {x dd hx hdx lp lr tp : Addr} {TT Tk : Nat → Tok} {np n k : Nat} {u u' : Tok} (h1 : (x, instObj 177 dd) ∈ im) (h2 : (hx, instObj 123 hdx) ∈ im) (h3 : (lr, W.listOf [Value.ref tp].toArray n) ∈ im) (h4 : (tp, tupOf #[.int (0 : Nat) u, .int (most : Int) u'] k) ∈ im) :
    DgIn P im i x ⟨dd, hdx, lp, hx, lr, TT, Tk, np, n, [], [.ref tp], .none, .none⟩ (newDg most now) :=
  ⟨h1, h2, h3, ⟨⟨tp, k, u, u', rfl, h4⟩, trivial⟩, trivial, rfl, rfl⟩
theorem ReIn.snoc {P : Params} {im : List (Addr × Obj)} {l : List WE} {e : WE} (R : ReIn P im l) (hex : ¬ ∃ q ∈ l, q.i = e.i) (hk : ∃ T n, (e.ka, keyObj T n e.i) ∈ im) (hd : DgIn P im e.i e.x e.c e.d) : ReIn P im (l ++ [e]) := by
  refine ⟨fun q hq => ?_, fun q hq => ?_, ?_⟩
  · rcases List.mem_append.mp hq with hq | hq
    · exact R.keys q hq
    · rw [List.mem_singleton.mp hq]; exact hk
  · rcases List.mem_append.mp hq with hq | hq
    · exact R.dgs q hq
    · rw [List.mem_singleton.mp hq]; exact hd
  · rw [List.map_append, List.nodup_append]
    refine ⟨R.nd, by simp, fun a ha b hb q => ?_⟩
    simp only [List.map_cons, List.map_nil, List.mem_singleton] at hb
    subst q hb
    obtain ⟨q, hq, he⟩ := List.mem_map.mp ha
    exact hex ⟨q, hq, he⟩
end
section
structure TE where
  i : Int
  sx : Addr
  pd : Addr
  n : Nat
  tb : Tok
  ta : Tok
  ev : Value
  fv : Value
  po : Obj
  kv : List (Int × Value)
  d : TwS
noncomputable abbrev tft (e : TE) : List (Addr × Obj) := [(e.sx, stL e.d.began e.tb e.pd e.ev e.d.ahead e.ta e.fv e.n), (e.pd, e.po)]
noncomputable def tkv (l : List TE) : List (Int × Value) := l.map fun e => (e.i, .ref e.sx)
structure TwIn (prog : Program) (w : World) (im : List (Addr × Obj)) (e : TE) : Prop where
  dict : e.po.IsDictOf (intKind prog w) e.kv
  pl : PlAre e.kv e.d.places
  en : OptIs e.ev e.d.en
  first : FirstIs w.params im e.i e.fv e.d.first
  lo : (e.pd == sysModules) = false
theorem TwIn.mono {prog : Program} {w : World} {im im' : List (Addr × Obj)} {e : TE} (hs : Ext im im') (T : TwIn prog w im e) : TwIn prog w im' e := ⟨T.dict, T.pl, T.en, T.first.mono hs, T.lo⟩
structure TwsIn (prog : Program) (w : World) (im : List (Addr × Obj)) (l : List TE) : Prop where
  each : ∀ e ∈ l, TwIn prog w im e
  nd : (l.map (·.i)).Nodup
section
variable {prog : Program} {w : World} {im im' : List (Addr × Obj)} {l l' pre post : List TE} {e e' : TE} {i : Int}
theorem TwsIn.mono (hs : Ext im im') (T : TwsIn prog w im l) : TwsIn prog w im' l := ⟨fun e he => (T.each e he).mono hs, T.nd⟩
theorem TwsIn.sub (T : TwsIn prog w im l) (h : l'.Sublist l) : TwsIn prog w im l' := ⟨fun e he => T.each e (h.subset he), T.nd.sublist (h.map _)⟩
theorem TwsIn.swap (T : TwsIn prog w im (pre ++ e :: post)) (hi : e'.i = e.i) (D : TwIn prog w im e') : TwsIn prog w im (pre ++ e' :: post) := by
  refine ⟨fun q hq => ?_, ?_⟩
  · rcases List.mem_append.mp hq with hq | hq
    · exact T.each q (List.mem_append_left _ hq)
    · rcases List.mem_cons.mp hq with rfl | hq
      · exact D
      · exact T.each q (List.mem_append_right _ (.tail _ hq))
  · have : (pre ++ e' :: post).map (·.i) = (pre ++ e :: post).map (·.i) := by simp [hi]
    rw [this]
    exact T.nd
theorem TwsIn.snoc (T : TwsIn prog w im l) (hex : ¬ ∃ q ∈ l, q.i = e.i) (D : TwIn prog w im e) : TwsIn prog w im (l ++ [e]) := by
  refine ⟨fun q hq => ?_, ?_⟩
  · rcases List.mem_append.mp hq with hq | hq
    · exact T.each q hq
    · rw [List.mem_singleton.mp hq]; exact D
  · rw [List.map_append, List.nodup_append]
    refine ⟨T.nd, by simp, fun a ha b hb q => ?_⟩
    simp only [List.map_cons, List.map_nil, List.mem_singleton] at hb
    subst q hb
    obtain ⟨q, hq, he⟩ := List.mem_map.mp ha
    exact hex ⟨q, hq, he⟩
theorem tkv_at : ∀ {l : List TE}, (l.map (·.i)).Nodup → ∀ {e : TE}, e ∈ l → e.i = i → valueAt (tkv l) i = some (.ref e.sx)
  | [], _, e, he, _ => nomatch he
  | x :: r, nd, e, he, hi => by
    have nd' := List.nodup_cons.mp (by simpa using nd : (x.i :: r.map (·.i)).Nodup)
    rcases List.mem_cons.mp he with rfl | he
    · subst hi; simp [tkv, valueAt]
    · have hne : x.i ≠ i := fun q => nd'.1 (by rw [q, ← hi]; exact List.mem_map_of_mem he)
      have ih := tkv_at nd'.2 he hi
      simpa [tkv, valueAt, hne] using ih
theorem tkv_no (h : ∀ e ∈ l, e.i ≠ i) : valueAt (tkv l) i = none := by
  unfold valueAt
  rw [Option.map_eq_none_iff, List.find?_eq_none]
  intro x hx
  obtain ⟨e, he, rfl⟩ := List.mem_map.mp hx
  simpa using h e he
theorem tkv_snoc : tkv (l ++ [e]) = tkv l ++ [(e.i, .ref e.sx)] := by unfold tkv; rw [List.map_append]; rfl
theorem tkv_drop (nd : ((pre ++ e :: post).map (·.i)).Nodup) (hi : e.i = i) : without (tkv (pre ++ e :: post)) i = tkv (pre ++ post) := by
  subst hi
  rw [List.map_append, List.map_cons, List.nodup_append] at nd
  obtain ⟨n1, n2, n3⟩ := nd
  have n4 := List.nodup_cons.mp n2
  unfold without tkv
  rw [List.filter_map, List.filter_append, List.filter_cons_of_neg (by simp), List.map_append, List.map_append]
  congr 2
  · exact List.filter_eq_self.mpr fun q hq => by
      have := n3 _ (List.mem_map_of_mem (f := (·.i)) hq) e.i (.head _)
      simpa using this
  · exact List.filter_eq_self.mpr fun q hq => by
      have : q.i ≠ e.i := fun z => n4.1 (z ▸ List.mem_map_of_mem (f := (·.i)) hq)
      simpa using this
theorem tkv_swap (h1 : e'.i = e.i) (h2 : e'.sx = e.sx) : tkv (pre ++ e' :: post) = tkv (pre ++ e :: post) := by unfold tkv; simp [h1, h2]
end
noncomputable def absT (e : TE) : Int × TwS := (e.i, e.d)
noncomputable def newTw (now : Int) : TwS := ⟨now, [], none, 0, none⟩
noncomputable def entryT (st : List (Int × TwS)) (i now : Int) : List (Int × TwS) := if st.any (fun x => decide (x.1 = i)) = true then st else st ++ [(i, newTw now)]
noncomputable def twPl (off : Nat) (pl : Array UInt8) (ps : List (Nat × UInt8)) : Nat → List (Nat × UInt8)
  | 0 => ps
  | k + 1 => let q := twPl off pl ps k; if octAt q (off + k) = none then q ++ [(off + k, pl.toList.getD k 0)] else q
noncomputable def twNext (d : TwS) (h : HdS) (pl : Array UInt8) : TwS where
  began := d.began
  places := twPl h.off pl d.places pl.size
  en := if h.more = true then d.en else some (h.off + pl.size)
  ahead := if h.more = true then max d.ahead (h.off + pl.size) else d.ahead
  first := firstOf d.first h
noncomputable def totalT (l : List TwS) : Nat := (l.map fun d => d.places.length).sum
noncomputable def roomT (mo : Nat) : List (Int × TwS) → List (Int × TwS)
  | [] => []
  | e :: r => if mo < totalT ((e :: r).map (·.2)) then roomT mo r else e :: r
noncomputable def wholeT (d : TwS) : Bool := match d.en with | some z => decide (d.places.length = z) | none => false
noncomputable def octsT (ps : List (Nat × UInt8)) (z : Nat) : List UInt8 := (List.range z).map fun a => (octAt ps a).getD 0
noncomputable def TwPutR (most mo : Nat) (st : List (Int × TwS)) (i : Int) (h : HdS) (pl : Array UInt8) (now : Int) (st' : List (Int × TwS)) (out : Option Spec) : Prop :=
  if h.off = 0 ∧ h.more = false then st' = st ∧ out = some ⟨h.more, (h.off : Int), h.opt, pl⟩
  else if (h.more && (decide (pl.size = 0) || decide (pl.size % 8 ≠ 0))) = true then st' = st ∧ out = none
  else ∃ pre d post, entryT st i now = pre ++ (i, d) :: post ∧
    if twDenies most d.places d.en d.ahead (h.off + pl.size) h.more = true then st' = pre ++ post ∧ out = none
    else if wholeT (twNext d h pl) = true then st' = pre ++ post ∧ ∃ (f : HdS) (z : Nat), (twNext d h pl).first = some f ∧ (twNext d h pl).en = some z ∧ out = some ⟨false, 0, f.opt, (octsT (twNext d h pl).places z).toArray⟩
    else st' = roomT mo (pre ++ (i, twNext d h pl) :: post) ∧ out = none
section
variable {l pre post : List TE} {e : TE} {i now : Int} {mo : Nat}
theorem entryT_yes (h : ∃ e ∈ l, e.i = i) : entryT (l.map absT) i now = l.map absT := by
  unfold entryT
  rw [if_pos]
  obtain ⟨e, he, hi⟩ := h
  exact List.any_eq_true.mpr ⟨absT e, List.mem_map_of_mem he, by simp [absT, hi]⟩
theorem entryT_no (h : ¬ ∃ e ∈ l, e.i = i) : entryT (l.map absT) i now = l.map absT ++ [(i, newTw now)] := by
  unfold entryT
  rw [if_neg]
  intro ha
  obtain ⟨x, hx, hi⟩ := List.any_eq_true.mp ha
  obtain ⟨e, he, rfl⟩ := List.mem_map.mp hx
  exact h ⟨e, he, of_decide_eq_true hi⟩
theorem absT_mid (hei : e.i = i) : (pre ++ e :: post).map absT = pre.map absT ++ (i, e.d) :: post.map absT := by subst hei; simp [absT]
noncomputable def roomTE (mo : Nat) : List TE → List TE
  | [] => []
  | e :: r => if mo < totalT ((e :: r).map (·.d)) then roomTE mo r else e :: r
theorem roomTE_abs : ∀ {l : List TE}, (roomTE mo l).map absT = roomT mo (l.map absT)
  | [] => rfl
  | e :: r => by
    have h : ((e :: r).map absT).map (·.2) = (e :: r).map (·.d) := by simp [absT]
    show (if _ then _ else _ : List TE).map absT = if mo < totalT (((e :: r).map absT).map (·.2)) then roomT mo (r.map absT) else (e :: r).map absT
    rw [h]
    split
    · exact roomTE_abs
    · rfl
end
section
variable {ε : Type} {ad : ε → List Addr} {ft : ε → List (Addr × Obj)} {wd : Addr} {W : Obj} {l : List ε} {r new G : List (Addr × Obj)}
end
theorem midSub {ε : Type} {pre post : List ε} {e : ε} : (pre ++ post).Sublist (pre ++ e :: post) := List.Sublist.append (List.Sublist.refl _) (List.sublist_cons_self _ _)
theorem twPl_some {off k : Nat} {pl : Array UInt8} {ps : List (Nat × UInt8)} {o : UInt8} (h : octAt (twPl off pl ps k) (off + k) = some o) : twPl off pl ps (k + 1) = twPl off pl ps k := if_neg (by rw [h]; exact fun z => nomatch z)
theorem twPl_none {off k : Nat} {pl : Array UInt8} {ps : List (Nat × UInt8)} (h : octAt (twPl off pl ps k) (off + k) = none) : twPl off pl ps (k + 1) = twPl off pl ps k ++ [(off + k, pl.toList.getD k 0)] := if_pos h
theorem twAh1 {d : TwS} {h : HdS} {pl : Array UInt8} (hm : h.more = true) : (if (h.off : Int) + (pl.size : Int) > (d.ahead : Int) then (h.off : Int) + (pl.size : Int) else (d.ahead : Int)) = (((twNext d h pl).ahead : Nat) : Int) := by
  unfold twNext
  dsimp only
  rw [if_pos hm]
  split <;> omega
theorem twAh2 {d : TwS} {h : HdS} {pl : Array UInt8} (hm : h.more = false) : ((d.ahead : Nat) : Int) = (((twNext d h pl).ahead : Nat) : Int) := by
  unfold twNext
  dsimp only
  rw [if_neg (by rw [hm]; decide)]
theorem twEn1 {d : TwS} {h : HdS} {pl : Array UInt8} {v : Value} (hm : h.more = true) (o : OptIs v d.en) : OptIs v (twNext d h pl).en := by
  unfold twNext
  dsimp only
  rw [if_pos hm]
  exact o
theorem twEn2 {d : TwS} {h : HdS} {pl : Array UInt8} {t : Tok} (hm : h.more = false) : OptIs (.int ((h.off : Int) + (pl.size : Int)) t) (twNext d h pl).en := by
  unfold twNext
  dsimp only
  rw [if_neg (by rw [hm]; decide)]
  exact ⟨t, rfl⟩
theorem whole0 {d : TwS} (h : d.en = none) : wholeT d = false := by unfold wholeT; rw [h]
theorem whole1 {d : TwS} {z k : Nat} (h : d.en = some z) (e : k = d.places.length) (q : (k : Int) = (z : Int)) : wholeT d = true := by unfold wholeT; rw [h]; exact decide_eq_true (by omega)
theorem whole2 {d : TwS} {z k : Nat} (h : d.en = some z) (e : k = d.places.length) (q : ¬ (k : Int) = (z : Int)) : wholeT d = false := by unfold wholeT; rw [h]; exact decide_eq_false (by omega)
section
variable {most mo : Nat} {st p q : List (Int × TwS)} {i now : Int} {h : HdS} {pl : Array UInt8} {d : TwS}
theorem twp1 (h1 : h.off = 0 ∧ h.more = false) : TwPutR most mo st i h pl now st (some ⟨h.more, (h.off : Int), h.opt, pl⟩) := by unfold TwPutR; rw [if_pos h1]; exact ⟨rfl, rfl⟩
theorem twp2 (h1 : ¬ (h.off = 0 ∧ h.more = false)) (h2 : (h.more && (decide (pl.size = 0) || decide (pl.size % 8 ≠ 0))) = true) : TwPutR most mo st i h pl now st none := by unfold TwPutR; rw [if_neg h1, if_pos h2]; exact ⟨rfl, rfl⟩
theorem twp3 (h1 : ¬ (h.off = 0 ∧ h.more = false)) (h2 : (h.more && (decide (pl.size = 0) || decide (pl.size % 8 ≠ 0))) = false) (he : entryT st i now = p ++ (i, d) :: q) (hd : twDenies most d.places d.en d.ahead (h.off + pl.size) h.more = true) : TwPutR most mo st i h pl now (p ++ q) none := by
  unfold TwPutR
  rw [if_neg h1, if_neg (by rw [h2]; decide)]
  exact ⟨p, d, q, he, by rw [if_pos hd]; exact ⟨rfl, rfl⟩⟩
theorem twp4 {f : HdS} {z : Nat} (h1 : ¬ (h.off = 0 ∧ h.more = false)) (h2 : (h.more && (decide (pl.size = 0) || decide (pl.size % 8 ≠ 0))) = false) (he : entryT st i now = p ++ (i, d) :: q) (hd : twDenies most d.places d.en d.ahead (h.off + pl.size) h.more = false)
    (hw : wholeT (twNext d h pl) = true) (hf : (twNext d h pl).first = some f) (hz : (twNext d h pl).en = some z) : TwPutR most mo st i h pl now (p ++ q) (some ⟨false, 0, f.opt, (octsT (twNext d h pl).places z).toArray⟩) := by
  unfold TwPutR
  rw [if_neg h1, if_neg (by rw [h2]; decide)]
  exact ⟨p, d, q, he, by rw [if_neg (by rw [hd]; decide), if_pos hw]; exact ⟨rfl, f, z, hf, hz, rfl⟩⟩
theorem twp5 (h1 : ¬ (h.off = 0 ∧ h.more = false)) (h2 : (h.more && (decide (pl.size = 0) || decide (pl.size % 8 ≠ 0))) = false) (he : entryT st i now = p ++ (i, d) :: q) (hd : twDenies most d.places d.en d.ahead (h.off + pl.size) h.more = false)
    (hw : wholeT (twNext d h pl) = false) : TwPutR most mo st i h pl now (roomT mo (p ++ (i, twNext d h pl) :: q)) none := by
  unfold TwPutR
  rw [if_neg h1, if_neg (by rw [h2]; decide)]
  exact ⟨p, d, q, he, by rw [if_neg (by rw [hd]; decide), if_neg (by rw [hw]; decide)]; exact ⟨rfl, rfl⟩⟩
end
inductive TOutIs (led : List (Addr × Obj)) (i : Int) (v : Value) : Option Spec → Prop
  | none : v = .none → TOutIs led i v none
  | some {lo t : Addr} {n k : Nat} {T : Nat → Tok} {u : Tok} {sp : Spec} : v = .ref lo → (lo, W.listOf #[.ref t, .bytes sp.pl u] n) ∈ led → (t, toldObj T k i sp.more sp.off sp.opt) ∈ led → TOutIs led i v (some sp)
theorem octsT_len {ps : List (Nat × UInt8)} {z : Nat} : (octsT ps z).length = z := by unfold octsT; rw [List.length_map, List.length_range]
theorem octsT_all {ps : List (Nat × UInt8)} {z : Nat} : (octsT ps z).take z = octsT ps z := List.take_of_length_le (by rw [octsT_len]; exact Nat.le_refl _)
theorem intsSnoc {ys : List Value} {ps : List (Nat × UInt8)} {z k : Nat} {o : UInt8} {t : Tok} (hI : IntsAre ys (((octsT ps z).take k).map fun b => ((b.toNat : Nat) : Int))) (hk : k < z) (ho : octAt ps k = some o) :
    IntsAre (ys ++ [.int (o.toNat : Int) t]) (((octsT ps z).take (k + 1)).map fun b => ((b.toNat : Nat) : Int)) := by
  have h1 : (octsT ps z)[k]? = some o := by unfold octsT; rw [List.getElem?_map, List.getElem?_range hk]; simp [ho]
  rw [List.take_add_one, h1, List.map_append]
  exact hI.append (.cons _ _ .nil)
theorem whole_z {d : TwS} {z k : Nat} (hw : wholeT d = true) (hz : d.en = some z) (hk : d.places.length ≤ k) (h : k ≤ 1000000) : z ≤ 1000000 := by
  unfold wholeT at hw
  rw [hz] at hw
  have := of_decide_eq_true hw
  omega
theorem TOutIs.told {led : List (Addr × Obj)} {lo t : Addr} {n k : Nat} {T : Nat → Tok} {t8 u : Tok} {i : Int} {o b : Array UInt8} (h1 : (lo, W.listOf #[.ref t, .bytes b u] n) ∈ led)
    (h2 : (t, ({ cls := .type "tuple", data := .seq #[.int 10 (T 0), .int 20 (T 1), .int 17 (T 2), .int i (T 3), .int 64 (T 4), .int 0 (T 5), .bool false, .bool false, .int 0 t8, .bytes o (T 7)] k } : Obj)) ∈ led) : TOutIs led i (.ref lo) (Option.some ⟨false, 0, o, b⟩) :=
  TOutIs.some (sp := ⟨false, 0, o, b⟩) (T := fun j => if j = 6 then t8 else T j) rfl h1 h2
end
section
open LCg
theorem intsAre_of : ∀ {vs : List Value} {ns : List Int}, vs.length = ns.length → (∀ (i : Nat) v, vs[i]? = some v → ∃ n t, ns[i]? = some n ∧ v = .int n t) → IntsAre vs ns
  | [], [], _, _ => .nil
  | v :: vs, n :: ns, hl, h => by
    obtain ⟨n', t, h1, rfl⟩ := h 0 v rfl
    obtain rfl : n = n' := Option.some.inj h1
    exact .cons n t (intsAre_of (Nat.succ.inj hl) fun i v hv => h (i + 1) v hv)
  | [], _ :: _, hl, _ => nomatch hl
  | _ :: _, [], hl, _ => nomatch hl
section
variable {prog : Program} {w : World} {A : Around} {E : Value → Shared → Prop} {s : Shared} {h₀ : Heap} {L d : Addr} {m : Str → Option Value} {news : List (Addr × Obj)} {o : Obj} {kvs : List (Int × Value)} {l : List TE}
theorem comp_idict {env : Env} {target elt iter : PySem.Expr} {ifs : List PySem.Expr} {scope : Scope} {cl : List (Str × Addr)} {pos : Pos} {Q : Value → Shared → Prop} (J : Nat → List Value → List (Addr × Obj) → Prop)
    (hh : A.handled = none) (F : Fr h₀ L s.heap m) (N : News h₀ L s.heap news) (lo : (d == sysModules) = false) (hd : o.IsDictOf (intKind prog w) kvs) (hJ : ∀ i ys nx, J i ys nx → (d, o) ∈ nx) (h0 : J 0 [] news) (hsz : kvs.length ≤ 1000000)
    (hcell : ∀ y ∈ scope.names, y.2 ≠ .cell) (hkind : scope.kind = .function)
    (turn : ∀ (i : Nat) p v t, kvs[i]? = some (p, v) → CompStep prog w A env target elt ifs scope cl h₀ L m s J i (.int p t))
    (done : ∀ D h tk ys nx, J kvs.length ys nx → Fr h₀ L h m → News h₀ L h ((D, lst ys) :: nx) → Off D nx → Q (.ref D) { s with heap := h, toks := tk }) :
    wpAny (model prog w) A (pyIter (.ref d)) (CompAt prog w A env target elt iter ifs scope cl pos none Q E) E s := by
  obtain ⟨es, ep, rfl, hes, hat⟩ := idict hd
  refine comp_dict (es := es) (ep := ep) J hh F N lo hJ h0 (by omega) hcell hkind (fun i e he => ?_) (by rw [hes]; exact done)
  obtain ⟨p, v, t, hkv, hek, -⟩ := hat i e he
  rw [hek]
  exact turn i p v t hkv
theorem id_list {Q : Value → Shared → Prop} (hh : A.handled = none) (F : Fr h₀ L s.heap m) (N : News h₀ L s.heap news) (lo : (d == sysModules) = false) (hd : o.IsDictOf (intKind prog w) kvs) (hm : (d, o) ∈ news) (hz : kvs.length ≤ 1000000)
    (h : ∀ D c ks h' tk, IntsAre ks (kvs.map (·.1)) → Und D news → Fr h₀ L h' m → News h₀ L h' ((D, W.listOf ks.toArray c) :: news) → Q (.ref D) { s with heap := h', toks := tk }) :
    wpAny (model prog w) A (call (.type "list") [.ref d]) Q E s := by
  obtain ⟨es, ep, rfl, hes, hat⟩ := idict hd
  refine d_list hh F N hm lo (by omega) fun D c h' tk hu F' N' => h D c _ h' tk ?_ hu F' N'
  refine intsAre_of (by rw [List.length_map, List.length_map, Array.length_toList, hes]) fun i v hv => ?_
  rw [List.getElem?_map, Option.map_eq_some_iff] at hv
  obtain ⟨e, he, rfl⟩ := hv
  obtain ⟨p, v, t, hkv, hek, -⟩ := hat i e (by simpa using he)
  exact ⟨p, t, by rw [List.getElem?_map, hkv]; rfl, hek⟩
theorem tkv_len : (tkv l).length = l.length := List.length_map _
theorem tkv_get {k : Nat} {p : Int} {v : Value} (h : (tkv l)[k]? = some (p, v)) : ∃ e, l[k]? = some e ∧ p = e.i := by
  unfold tkv at h
  rw [List.getElem?_map, Option.map_eq_some_iff] at h
  obtain ⟨e, he, q⟩ := h
  exact ⟨e, he, (congrArg (·.1) q).symm⟩
theorem comp_tw {env : Env} {target elt iter : PySem.Expr} {ifs : List PySem.Expr} {scope : Scope} {cl : List (Str × Addr)} {pos : Pos} {Q : Value → Shared → Prop} (J : Nat → List Value → List (Addr × Obj) → Prop)
    (hh : A.handled = none) (F : Fr h₀ L s.heap m) (N : News h₀ L s.heap news) (lo : (d == sysModules) = false) (hd : o.IsDictOf (intKind prog w) (tkv l)) (hJ : ∀ i ys nx, J i ys nx → (d, o) ∈ nx) (h0 : J 0 [] news) (hsz : l.length ≤ 1000)
    (hcell : ∀ y ∈ scope.names, y.2 ≠ .cell) (hkind : scope.kind = .function)
    (turn : ∀ (i : Nat) e t, l[i]? = some e → CompStep prog w A env target elt ifs scope cl h₀ L m s J i (.int e.i t))
    (done : ∀ D h tk ys nx, J l.length ys nx → Fr h₀ L h m → News h₀ L h ((D, lst ys) :: nx) → Off D nx → Q (.ref D) { s with heap := h, toks := tk }) :
    wpAny (model prog w) A (pyIter (.ref d)) (CompAt prog w A env target elt iter ifs scope cl pos none Q E) E s := by
  refine comp_idict J hh F N lo hd hJ h0 (by rw [tkv_len]; omega) hcell hkind (fun i p v t h => ?_) (by rw [tkv_len]; exact done)
  obtain ⟨e, he, rfl⟩ := tkv_get h
  exact turn i e t he
theorem list_tw {Q : Value → Shared → Prop} (hh : A.handled = none) (F : Fr h₀ L s.heap m) (N : News h₀ L s.heap news) (lo : (d == sysModules) = false) (hd : o.IsDictOf (intKind prog w) (tkv l)) (hm : (d, o) ∈ news) (hz : l.length ≤ 1000)
    (h : ∀ D c ks h' tk, IntsAre ks (l.map (·.i)) → Und D news → Fr h₀ L h' m → News h₀ L h' ((D, W.listOf ks.toArray c) :: news) → Q (.ref D) { s with heap := h', toks := tk }) :
    wpAny (model prog w) A (call (.type "list") [.ref d]) Q E s := by
  refine id_list hh F N lo hd hm (by rw [tkv_len]; omega) fun D c ks h' tk hI => h D c ks h' tk ?_
  unfold tkv at hI
  rw [List.map_map] at hI
  exact hI
end
theorem tkv_sum {prog : Program} {w : World} {im : List (Addr × Obj)} : ∀ {l : List TE}, TwsIn prog w im l → (l.map fun e => (e.kv.length : Int)).sum = ((totalT (l.map (·.d)) : Nat) : Int)
  | [], _ => rfl
  | e :: r, R => by
    have ih := tkv_sum (R.sub (List.sublist_cons_self e r))
    have h1 := (R.each e (.head _)).pl.len
    unfold totalT at ih ⊢
    simp only [List.map_cons, List.sum_cons] at ih ⊢
    omega
theorem intsTake {l : List TE} {k : Nat} {e : TE} {ys : List Value} {t : Tok} (h : l[k]? = some e) (hI : IntsAre ys ((l.take k).map fun e => (e.kv.length : Int))) : IntsAre (ys ++ [.int (e.kv.length : Int) t]) ((l.take (k + 1)).map fun e => (e.kv.length : Int)) := by
  rw [List.take_add_one, h, List.map_append]
  exact hI.append (.cons _ _ .nil)
theorem ints_head {ks : List Value} {n : Int} {ns : List Int} (h : IntsAre ks (n :: ns)) : ∃ t r, ks = .int n t :: r := by
  cases h with | cons n t h => exact ⟨t, _, rfl⟩
theorem roomTE_go {mo : Nat} {e : TE} {r : List TE} (h : mo < totalT ((e :: r).map (·.d))) : roomTE mo (e :: r) = roomTE mo r := if_pos h
theorem roomTE_stop {mo : Nat} : ∀ {l : List TE}, ¬ mo < totalT (l.map (·.d)) → roomTE mo l = l
  | [], _ => rfl
  | _ :: _, h => if_neg h
theorem swapLen {pre post : List TE} {e e' : TE} {n : Nat} (h : (pre ++ e :: post).length ≤ n) : (pre ++ e' :: post).length ≤ n := by rw [List.length_append, List.length_cons] at h ⊢; exact h
theorem dictSwap {prog : Program} {w : World} {pre post l2 : List TE} {e e' : TE} {o : Obj} (hl : l2 = pre ++ e' :: post) (h1 : e'.i = e.i) (h2 : e'.sx = e.sx) (hd : o.IsDictOf (intKind prog w) (tkv (pre ++ e :: post))) : o.IsDictOf (intKind prog w) (tkv l2) := by
  rw [hl, tkv_swap h1 h2]; exact hd
theorem small2 {prog : Program} {w : World} {im : List (Addr × Obj)} {l pre post : List TE} {e e' : TE} {i now : Int} (hdd : ∀ e ∈ l, e.d.places.length ≤ 1000) (habs : (pre ++ e :: post).map absT = entryT (l.map absT) i now)
    (R : TwsIn prog w im (pre ++ e :: post)) (hz : e'.kv.length ≤ 1000000) : ∀ q ∈ pre ++ e' :: post, q.kv.length ≤ 1000000 := by
  have key : ∀ q ∈ pre ++ e :: post, q.kv.length ≤ 1000000 := fun q hq => by
    rw [(R.each q hq).pl.len]
    have hm := List.mem_map_of_mem (f := absT) hq
    rw [habs] at hm
    unfold entryT at hm
    have h2 : absT q ∈ l.map absT ∨ absT q = (i, newTw now) := by
      split at hm
      · exact .inl hm
      · exact (List.mem_append.mp hm).imp_right List.mem_singleton.mp
    rcases h2 with h2 | h2
    · obtain ⟨r, hr, hx⟩ := List.mem_map.mp h2
      have := hdd r hr
      have hd : r.d = q.d := congrArg (·.2) hx
      rw [← hd]; omega
    · have hd : q.d = newTw now := congrArg (·.2) h2
      rw [hd]; exact Nat.zero_le _
  intro q hq
  rcases List.mem_append.mp hq with hq | hq
  · exact key q (List.mem_append_left _ hq)
  · rcases List.mem_cons.mp hq with rfl | hq
    · exact hz
    · exact key q (List.mem_append_right _ (.tail _ hq))
theorem roomLt {prog : Program} {w : World} {im : List (Addr × Obj)} {l : List TE} {mo : Nat} (R : TwsIn prog w im l) (h : (mo : Int) < (l.map fun e => (e.kv.length : Int)).sum) : mo < totalT (l.map (·.d)) := by
  rw [tkv_sum R] at h; omega
theorem roomGe {prog : Program} {w : World} {im : List (Addr × Obj)} {l : List TE} {mo : Nat} (R : TwsIn prog w im l) (h : ¬ (mo : Int) < (l.map fun e => (e.kv.length : Int)).sum) : ¬ mo < totalT (l.map (·.d)) := by
  rw [tkv_sum R] at h; omega
theorem roomNe {l : List TE} {mo : Nat} (h : mo < totalT (l.map (·.d))) : ∃ e r, l = e :: r := by
  cases l with
  | nil => exact absurd h (Nat.not_lt_zero _)
  | cons e r => exact ⟨e, r, rfl⟩
theorem roomEnd {l l2 : List TE} {mo : Nat} (h : roomTE mo l = roomTE mo l2) (hg : ¬ mo < totalT (l.map (·.d))) : roomT mo (l2.map absT) = l.map absT := by
  rw [roomTE_stop hg] at h
  rw [h, roomTE_abs]
theorem tkv_drop0 {e : TE} {post : List TE} (nd : ((e :: post).map (·.i)).Nodup) : without (tkv (e :: post)) e.i = tkv post := tkv_drop (pre := []) nd rfl
section
variable {prog : Program} {w : World} {A : Around} {E : Value → Shared → Prop} {s : Shared} {h₀ : Heap} {L d : Addr} {news : List (Addr × Obj)} {o : Obj} {kvs : List (Int × Value)} {k : Int} {t : Tok} {v : Value} {Q : Value → Shared → Prop}
theorem id_in (N : News h₀ L s.heap news) (hp : (d, o) ∈ news) (hd : o.IsDictOf (intKind prog w) kvs) (lo : (d == sysModules) = false) (hl : valueAt kvs k = some v) (h : ∀ tk, Q (.bool true) { s with toks := tk }) :
    wpAny (model prog w) A (compareOp .In (.int k t) (.ref d)) Q E s := wpAny_in_of (intKind_is _ _ _ _) lo (kda_dict N hp hd).mapOf (by rw [hl]; exact h _)
theorem id_off (N : News h₀ L s.heap news) (hp : (d, o) ∈ news) (hd : o.IsDictOf (intKind prog w) kvs) (lo : (d == sysModules) = false) (hl : valueAt kvs k = none) (h : ∀ tk, Q (.bool false) { s with toks := tk }) :
    wpAny (model prog w) A (compareOp .In (.int k t) (.ref d)) Q E s := wpAny_in_of (intKind_is _ _ _ _) lo (kda_dict N hp hd).mapOf (by rw [hl]; exact h _)
end
end
section
section
variable {w : World} {c : Cx} {sc : Scope} {m : Nms} {n n' G : Led} {pos : Pos} {e1 e2 : PySem.Expr} {K : Value → Led → Prop} {dd u : Nat} {d : Addr} {o : Obj} {kvs : List (Int × Value)} {k : Int} {v v1 : Value} {P1 P2 : Value → Prop} {f : Obj → Led}
theorem cit_idict (hm : (d, o) ∈ G) (lo : (d == sysModules) = false) (hd : o.IsDictOf (intKind PR w) kvs) (hz : kvs.length ≤ 1000000) : CIt w c sc (.ref d) G kvs.length (fun i v => ∃ p u, kvs[i]? = some (p, u) ∧ IsI p v) :=
  ⟨fun J F N h0 hG hc hk turn done => comp_idict J rfl F N lo hd (fun i ys nx h => hG i ys nx h _ hm) h0 hz hc hk (fun i p u t h => turn i _ (by
    rcases Nat.lt_or_ge i kvs.length with g | g
    · exact g
    · rw [List.getElem?_eq_none g] at h; cases h) ⟨p, u, h, .mk⟩) done⟩
theorem ge_lenD (hm : (d, o) ∈ n) (lo : (d == sysModules) = false) (hd : o.IsDictOf (intKind PR w) kvs) (hz : kvs.length ≤ 1000000) (kk : ∀ v, IsI (kvs.length : Int) v → K v n) : GE w c sc m (call (.builtin "len") [.ref d]) n K := fun s Q E F N r =>
  id_len N.N hm hd lo hz fun t tk => r _ _ _ _ (kk _ .mk) F N
theorem cp_notin (hm : (d, o) ∈ n) (lo : (d == sysModules) = false) (hd : o.IsDictOf (intKind PR w) kvs) (h1 : IsI k v1) (kk : K (.bool (decide (valueAt kvs k = none))) n) : GE w c sc m (compareOp .NotIn v1 (.ref d)) n K := fun s Q E F N r => by
  obtain ⟨t, rfl⟩ := h1
  cases hl : valueAt kvs k with
  | none => exact id_gone N.N hm hd lo hl fun tk => r _ _ _ _ (by rw [hl] at kk; exact kk) F N
  | some v => exact id_there N.N hm hd lo hl fun tk => r _ _ _ _ (by rw [hl] at kk; exact kk) F N
theorem ge_popD (S : ∀ o', Sw d o o' n (f o')) (hd : o.IsDictOf (intKind PR w) kvs) (h1 : IsI k v1) (hl : valueAt kvs k = some v) (hz : kvs.length ≤ 1000000) (kk : ∀ o', o'.IsDictOf (intKind PR w) (without kvs k) → K v (f o')) : GE w c sc m (call (.builtin "dict.pop") [.ref d, v1]) n K := fun s Q E F N r => by
  obtain ⟨t, rfl⟩ := h1
  exact id_pop (rest := offL d n) F (newsFront N.N ((S (W.listOf #[] 0)).upd N.D)) offL_ne hd hl hz fun h' o' tk F' N' hd' => r _ _ _ _ (kk o' hd') F' (N.sw (S _) (newsBack N' ((S _).upd N.D)))
end
end
section
open LCg
section
variable {w : World} {c : Cx} {sc cs : Scope} {m : Nms} {n n' G : Led} {x y : Str} {v it : Value} {pos xp yp tp px py : Pos} {e e1 e2 iter elt test : PySem.Expr} {P P1 P2 : Value → Prop} {i j : Int} {b : Bool} {C : Addr} {cl : List (Str × Addr)} {oC : Obj} {mC : Nms} {K : Value → Led → Prop} {dd u : Nat}
noncomputable def EvCT (w : World) (c : Cx) (sc : Scope) (m : Nms) (n : Led) (cs : Scope) (cl : List (Str × Addr)) (C : Addr) (e : PySem.Expr) (b : Bool) : Prop :=
  ∀ (s : Shared) (Q : Bool → Shared → Prop) (E : Value → Shared → Prop), Fr c.h₀ c.L s.heap m → LedOk c s.heap n →
    (∀ h' tk', Fr c.h₀ c.L h' m → LedOk c h' n → Q b { s with heap := h', toks := tk' }) → wpAny (model PR w) (c.ar sc) (isTrue e (compEnvC cs cl C (c.en sc)) (eval e (compEnvC cs cl C (c.en sc)))) Q E s
theorem evc_cmpT {op : CmpOp} (a : EvC w c sc m n cs cl C e1 P1) (b' : EvC w c sc m n cs cl C e2 P2) (k : Cp w op P1 P2 b) (hm : behindInMarks op e2 = false := by with_unfolding_all rfl) : EvCT w c sc m n cs cl C (.Compare e1 [op] [e2] pos) b :=
  fun _ _ _ F N q => wpAny_isTrue_Compare1 (a _ _ _ F N fun v1 _ _ p1 F N => b' _ _ _ F N fun v2 _ _ p2 F N => k v1 v2 p1 p2 _ _ _ _ fun tk' => wpAny_truthy_bool (q _ tk' F N)) hm
inductive CompKT (w : World) (c : Cx) (sc : Scope) (m : Nms) (x : Str) (elt test : PySem.Expr) (cs : Scope) (cl : List (Str × Addr)) (K : Value → Led → Prop) (it : Value) (G : Led) : Prop
  | mk {k : Nat} {P : Nat → Value → Prop} (R : Nat → List Value → Prop) (hit : CIt w c sc it G k P) (h0 : R 0 [])
      (turn : ∀ i v ys, i < k → P i v → R i ys → ∃ b : Bool, (b = false → R (i + 1) ys) ∧ ∀ C oC mC n', (C, oC) ∈ n' → NsObj oC mC → mC x = some v → (∀ p ∈ G, p ∈ n') → EvCT w c sc m n' cs cl C test b ∧ (b = true → EvC w c sc m n' cs cl C elt (fun y => R (i + 1) (ys ++ [y]))))
      (done : ∀ D ys, R k ys → K (.ref D) ((D, lst ys) :: G)) : CompKT w c sc m x elt test cs cl K it G
theorem ge_compT (hclos : closureFor cs (c.en sc) = pure cl) (hkind : cs.kind = .function) (hnames : ∀ y ∈ cs.names, y.2 = .local → cs.names.lookup y.1 = some .local) (hcell : ∀ y ∈ cs.names, y.2 ≠ .cell) (hl : okL cs x = true)
    (h : GE w c sc m (eval iter (c.en sc)) n (CompKT w c sc m x elt test cs cl K)) (hs : ∀ env x, foldedSetIterable iter env x = pure x := by intro _ _; rfl) :
    GE w c sc m (eval (.ListComp elt [⟨.Name x px, iter, [test], 0⟩] cs pos) (c.en sc)) n K := fun s Q E F N q =>
  comp_rule hclos hkind hnames (h s _ E F N fun it G h' tk' k F N => by
    obtain ⟨R, hit, h0, turn, done⟩ := k
    refine hit.go (fun i ys nx => nx = G ∧ R i ys) F N.N ⟨rfl, h0⟩ (fun _ _ _ h _ hp => h.1 ▸ hp) hcell hkind ?_ ?_
    · rintro i v hi hp ys nx I oI oC C D mC h tk ⟨rfl, hR⟩ hn F₁ N₁ off ne
      obtain ⟨b, b0, go⟩ := turn i v ys hi hp hR
      refine cstore F₁ N₁ hn off ne (fun h₁ oC₁ tk₁ F₂ N₂ hn₂ => compTests_one ?_) hkind (okL_and hl).2.1
      obtain ⟨g1, g2⟩ := go C oC₁ _ ((I, oI) :: (C, oC₁) :: (D, lst ys) :: nx) (.tail _ (.head _)) hn₂ (if_pos rfl) (fun p h => .tail _ (.tail _ (.tail _ h)))
      refine g1 _ _ _ F₂ (ledC N₂ off ne N.D) fun h₃ tk₃ F₃ N₃ => ?_
      cases b with
      | false =>
        rw [if_neg (by decide)]
        exact compTurn_0 F₃ N₃.N hn₂ off ⟨rfl, b0 rfl⟩
      | true =>
        rw [if_pos rfl]
        refine g2 rfl _ _ _ F₃ N₃ fun y h₄ tk₄ hy F₄ N₄ => ?_
        exact ⟨h₄, tk₄, oC₁, _, nx, rfl, F₄, N₄.N, hn₂, off, rfl, hy⟩
    · rintro D h tk ys nx ⟨rfl, hR⟩ F₁ N₁ oD
      exact q _ _ _ _ (done D ys hR) F₁ ⟨N₁, nodup_off oD N.D⟩) (hs _)
theorem evc_cellL {a : Addr} {o : Obj} (hc : cl.lookup x = some a) (hm : (a, o) ∈ n) (hd : o.data = .cell (some v)) (hk : (compEnvC cs cl C (c.en sc)).scope.kind = .function) (hx : (compEnvC cs cl C (c.en sc)).kindOf x = some .cell) (hb : (x == ("__debug__" : Str)) = false) (hp : P v) : EvC w c sc m n cs cl C (.Name x pos) P := fun _ _ _ F N k =>
  kcf_cell N.N hc hm hd (k _ _ _ hp F N) hk hx hb
theorem ev_cellL {a : Addr} {o : Obj} (hc : c.cl.lookup x = some a) (hm : (a, o) ∈ n) (hd : o.data = .cell (some v)) (hk : ((sc.kind == .function) && (sc.names.lookup x == some .cell) && !(x == ("__debug__" : Str))) = true) (hp : P v) : EvP w c sc m n (.Name x pos) P := fun _ _ _ F N k => by
  simp only [Bool.and_eq_true, beq_iff_eq, Bool.not_eq_true'] at hk
  exact nameX_C N.N hc hm hd (k _ _ _ hp F N) hk.1.1 hk.1.2 hk.2
theorem gs_letC {R : Flow → Nms → Led → Prop} {rest : List Stmt} {a : Addr} {o : Obj} {v₀ : Option Value} {f : Obj → Led} (hc : c.cl.lookup x = some a) (hk : ((sc.kind == .function) && (sc.names.lookup x == some .cell)) = true) (hcm : noComp e = true)
    (h : GE w c sc m (eval e (c.en sc)) n (fun v n' => ∃ (o : Obj) (v₀ : Option Value) (f : Obj → Led), o.data = .cell v₀ ∧ (∀ o', Sw a o o' n' (f o')) ∧ ∀ o', o'.data = .cell (some v) → GS w c sc m (execs rest (c.en sc)) (f o') R)) : GS w c sc m (execs (.Assign [.Name x tp] e pos :: rest) (c.en sc)) n R :=
  .cons fun s Q E F N q => wpAny_Assign_Name (h s _ E F N fun v n' h' tk' ⟨o, v₀, f, hd, S, k⟩ F N => by
    simp only [Bool.and_eq_true, beq_iff_eq] at hk
    exact storeX_C F (newsFront N.N ((S (W.listOf #[] 0)).upd N.D)) hc (.head offL_ne) hd (fun h' o' F' N' hd' => q _ _ _ _ _ (rk_next (k o' hd')) F' (N.sw (S _) (newsBack N' ((S _).upd N.D)))) hk.1 hk.2) (swaps_no hcm)
theorem ge_orV (h : GE w c sc m (eval e1 (c.en sc)) n (fun v n' => ∃ b, v = .bool b ∧ (b = true → K (.bool true) n') ∧ (b = false → GE w c sc m (eval e2 (c.en sc)) n' K))) : GE w c sc m (eval (.BoolOp .Or [e1, e2] pos) (c.en sc)) n K := fun s Q E F N r =>
  BoolOp_or (h s _ E F N fun v n' h' tk' ⟨b, e, k1, k2⟩ F N => by
    subst e
    refine wpAny_truthy_bool ?_
    cases b with
    | true => exact r _ _ _ _ (k1 rfl) F N
    | false => exact BoolOp_one (k2 rfl _ Q E F N r))
theorem boolP {P : Value → Led → Prop} {b q : Bool} (e : b = q) (h : P (.bool b) n) : P (.bool q) n := e ▸ h
theorem ev_itemD {d : Addr} {o : Obj} {kvs : List (Int × Value)} {k : Int} (a : EvP w c sc m n e1 (Is (.ref d))) (b : EvP w c sc m n e2 (IsI k)) (hm : (d, o) ∈ n) (hd : o.IsDictOf (intKind PR w) kvs) (hl : valueAt kvs k = some v) (hp : P v)
    (hs : ∀ l k u, subscripted e2 false (.ref l) (.int k u) = operate [.ref l, .int k u] (getItem (.ref l) (.int k u)) := by intro _ _ _; with_unfolding_all rfl) : EvP w c sc m n (.Subscript e1 e2 pos) P := fun s Q E F N r =>
  Subscript_ (a s _ E F N fun v1 h1 tk1 p1 F N => b _ _ E F N fun v2 h2 tk2 ⟨t, p2⟩ F N => by
    obtain rfl : v1 = _ := p1
    subst p2
    exact kba_turn (value' := PySem.Expr.Name (PySem.Str.ofString "_") ⟨0, 0, 0, 0⟩) (fun _ => rfl) (id_item N.N hm hd hl (fun tk => r _ _ _ hp F N) (hs _ _ _) fun _ => rfl))
theorem evc_itemD {d : Addr} {o : Obj} {kvs : List (Int × Value)} {k : Int} (a : EvC w c sc m n cs cl C e1 (Is (.ref d))) (b : EvC w c sc m n cs cl C e2 (IsI k)) (hm : (d, o) ∈ n) (hd : o.IsDictOf (intKind PR w) kvs) (hl : valueAt kvs k = some v) (hp : P v)
    (hs : ∀ l k u, subscripted e2 false (.ref l) (.int k u) = operate [.ref l, .int k u] (getItem (.ref l) (.int k u)) := by intro _ _ _; with_unfolding_all rfl) : EvC w c sc m n cs cl C (.Subscript e1 e2 pos) P := fun s Q E F N r =>
  Subscript_ (a s _ E F N fun v1 h1 tk1 p1 F N => b _ _ E F N fun v2 h2 tk2 ⟨t, p2⟩ F N => by
    obtain rfl : v1 = _ := p1
    subst p2
    exact kba_turn (value' := PySem.Expr.Name (PySem.Str.ofString "_") ⟨0, 0, 0, 0⟩) (fun _ => rfl) (id_item N.N hm hd hl (fun tk => r _ _ _ hp F N) (hs _ _ _) fun _ => rfl))
theorem ev_itemK {l : Addr} {its : Array Value} {k : Nat} {z : Int} {pk : Nat} {zp : Pos} (a : EvP w c sc m n e1 (Is (.ref l))) (hm : (l, W.listOf its k) ∈ n) (hx : nth? its.toList z.toNat = some v) (hp : P v) (h0 : 0 ≤ z := by decide) (hz : z < 2 ^ 63 := by decide) : EvP w c sc m n (.Subscript e1 (.Constant (.int z) pk zp) pos) P := fun s Q E F N r =>
  Subscript_ (a s _ E F N fun v1 h1 tk1 p1 F N => wpAny_Constant_int (by
    obtain rfl : v1 = _ := p1
    exact item_made N.N hm h0 hz hx (r _ _ _ hp F N) (by with_unfolding_all rfl)))
theorem evc_itemK {l : Addr} {its : Array Value} {k : Nat} {z : Int} {pk : Nat} {zp : Pos} (a : EvC w c sc m n cs cl C e1 (Is (.ref l))) (hm : (l, W.listOf its k) ∈ n) (hx : nth? its.toList z.toNat = some v) (hp : P v) (h0 : 0 ≤ z := by decide) (hz : z < 2 ^ 63 := by decide) : EvC w c sc m n cs cl C (.Subscript e1 (.Constant (.int z) pk zp) pos) P := fun s Q E F N r =>
  Subscript_ (a s _ E F N fun v1 h1 tk1 p1 F N => wpAny_Constant_int (by
    obtain rfl : v1 = _ := p1
    exact item_made N.N hm h0 hz hx (r _ _ _ hp F N) (by with_unfolding_all rfl)))
theorem ev_itemT {l : Addr} {its : Array Value} {k : Nat} {z : Int} {pk : Nat} {zp : Pos} (a : EvP w c sc m n e1 (Is (.ref l))) (hm : (l, tupOf its k) ∈ n) (hx : nth? its.toList z.toNat = some v) (hp : P v) (h0 : 0 ≤ z := by decide) (hz : z < 2 ^ 63 := by decide) : EvP w c sc m n (.Subscript e1 (.Constant (.int z) pk zp) pos) P := fun s Q E F N r =>
  Subscript_ (a s _ E F N fun v1 h1 tk1 p1 F N => wpAny_Constant_int (by
    obtain rfl : v1 = _ := p1
    exact kba_turn (value' := PySem.Expr.Name (PySem.Str.ofString "_") ⟨0, 0, 0, 0⟩) (fun _ => rfl) (tup_made N.N hm h0 hz hx (r _ _ _ hp F N) (by with_unfolding_all rfl) fun _ => rfl)))
theorem ev_itemB {bs : Array UInt8} {k : Nat} (a : EvP w c sc m n e1 (IsY bs)) (b : EvP w c sc m n e2 (IsI (k : Int))) (hz : bs.size ≤ 1000) (hk : k < bs.size)
    (hs : ∀ (b : Array UInt8) t i ui, subscripted e2 false (.bytes b t) (.int i ui) = operate [.bytes b t, .int i ui] (getItem (.bytes b t) (.int i ui)) := by intro _ _ _ _; with_unfolding_all rfl)
    (ht : ∀ (b : Array UInt8) t r, letTemporaryGo e1 (.bytes b t) r = pure () := by intro _ _ _; with_unfolding_all rfl) : EvP w c sc m n (.Subscript e1 e2 pos) (IsI ((bs.toList.getD k 0).toNat : Int)) := fun s Q E F N r =>
  Subscript_ (a s _ E F N fun v1 h1 tk1 ⟨t1, p1⟩ F N => b _ _ E F N fun v2 h2 tk2 ⟨t, p2⟩ F N => by
    subst p1
    subst p2
    exact bytes_item (by omega) (by omega) (by omega) rfl (r _ _ _ .mk F N) (hs · _ _ _) (ht · _))
theorem gu_setL {l : Addr} {its : Array Value} {q : List Value} {k : Nat} {z : Int} {P : Nms → Led → Prop} (a : EvP w c sc m n e1 (Is (.ref l))) (b : EvP w c sc m n e2 (IsI z)) (hq : ki_setL its.toList z.toNat v = some q) (S : Sw l (W.listOf its k) (W.listOf q.toArray k) n n') (kk : P m n') (h0 : 0 ≤ z := by decide) (hz : z < 2 ^ 63 := by decide) : GU w c sc m (assign (.Subscript e1 e2 pos) (c.en sc) v) n P := fun s Q E F N r =>
  kas_sub (a s _ E F N fun v1 h1 tk1 p1 F N => b _ _ E F N fun v2 h2 tk2 ⟨t, p2⟩ F N => by
    obtain rfl : v1 = _ := p1
    subst p2
    exact W.ki_set F N.N h0 hz hq (S.upd N.D) fun h' F' N' => r _ _ _ _ kk F' (N.sw S N'))
theorem gu_setD {d : Addr} {o : Obj} {kvs : List (Int × Value)} {k : Int} {f : Obj → Led} {P : Nms → Led → Prop} (a : EvP w c sc m n e1 (Is (.ref d))) (b : EvP w c sc m n e2 (IsI k)) (S : ∀ o', Sw d o o' n (f o')) (hd : o.IsDictOf (intKind PR w) kvs) (hz : kvs.length ≤ 1000000) (kk : ∀ o', o'.IsDictOf (intKind PR w) (stored kvs k v) → P m (f o')) : GU w c sc m (assign (.Subscript e1 e2 pos) (c.en sc) v) n P := fun s Q E F N r =>
  kas_sub (a s _ E F N fun v1 h1 tk1 p1 F N => b _ _ E F N fun v2 h2 tk2 ⟨t, p2⟩ F N => by
    obtain rfl : v1 = _ := p1
    subst p2
    exact id_set (rest := offL d n) F (newsFront N.N ((S (W.listOf #[] 0)).upd N.D)) offL_ne hd hz fun h' o' tk F' N' hd' => r _ _ _ _ (kk o' hd') F' (N.sw (S _) (newsBack N' ((S _).upd N.D))))
theorem ge_dict0 {K : Value → Led → Prop} (ok : CxOk w c sc dd u) (kk : ∀ (d : Addr) (o : Obj), (d == sysModules) = false → o.IsDictOf (intKind PR w) [] → K (.ref d) ((d, o) :: n)) : GE w c sc m (eval (.Dict [] [] pos) (c.en sc)) n K := fun s Q E F N r => by
  obtain ⟨B, X, T, -, -, -⟩ := ok
  exact newDict_K F N.N T.nolimit fun d h' o F' N' l1 lo _ _ hd _ => r _ _ _ _ (kk d o lo hd) F' (N.new l1 N')
theorem bm_popD {d : Addr} {o : Obj} {kvs : List (Int × Value)} (hm : (d, o) ∈ n) (hd : o.IsDictOf (intKind PR w) kvs) : BMeth w c sc m n (.ref d) (Str.ofString "pop") "dict.pop" := fun pl s Q E F N q =>
  id_method PySem.F.slot_dict_pop PySem.F.type_dict_pop N.N hm hd q
theorem evc_lenD {d : Addr} {o : Obj} {kvs : List (Int × Value)} (ok : CxOk w c sc dd u) (a : EvC w c sc m n cs cl C e1 (Is (.ref d))) (hm : (d, o) ∈ n) (lo : (d == sysModules) = false) (hd : o.IsDictOf (intKind PR w) kvs) (hz : kvs.length ≤ 1000000)
    (hk : (compEnvC cs cl C (c.en sc)).scope.kind = .function) (hx : (compEnvC cs cl C (c.en sc)).kindOf (Str.ofString "len") = some .globalImplicit)
    (s1 : ∀ env, starEach [e1] env = (false, eval e1 env) :: starEach [] env := by intro _; rfl) : EvC w c sc m n cs cl C (.Call (.Name (Str.ofString "len") xp) [e1] [] pos) (IsI (kvs.length : Int)) := fun s Q E F N r => by
  obtain ⟨B, X, T, -, -, -⟩ := ok
  refine Call_ (LCgL.ld_built F X T (by k_is) (by boot_fast) (by decide) (callWith_builtin1 (PyProof.Rows.args_cons (a _ _ _ F N fun v h' tk' p F N => PyProof.Rows.args_nil ?_) (s1 _)) (s1 _) rfl) rfl rfl hk hx)
  obtain rfl : v = _ := p
  exact id_len N.N hm hd lo hz fun t tk => r _ _ _ .mk F N
theorem ge_sum {l : Addr} {vs : List Value} {k : Nat} {ns : List Int} (hm : (l, W.listOf vs.toArray k) ∈ n) (hi : IntsAre vs ns) (kk : ∀ v, IsI ns.sum v → K v n) : GE w c sc m (call (.builtin "sum") [.ref l]) n K := fun s Q E F N r =>
  sum_made rfl F N.N hm hi fun h' tk t F' N' => r _ _ _ _ (kk _ .mk) F' ⟨N', N.D⟩
theorem ge_intI {v1 : Value} (ok : CxOk w c sc dd u) (h1 : IsI i v1) (kk : ∀ v, IsI i v → K v n) : GE w c sc m (call (.type "int") [v1]) n K := fun s Q E F N r => by
  obtain ⟨t, rfl⟩ := h1
  obtain ⟨B, X, T, -, -, -⟩ := ok
  obtain ⟨N, D⟩ := N
  k_steps
  exact r _ _ _ _ (kk _ .mk) (by k_asm) ⟨by k_asm, D⟩
theorem ge_listT {d : Addr} {o : Obj} {l : List TE} (hm : (d, o) ∈ n) (lo : (d == sysModules) = false) (hd : o.IsDictOf (intKind PR w) (tkv l)) (hz : l.length ≤ 1000) (kk : ∀ D c ks, IntsAre ks (l.map (·.i)) → K (.ref D) ((D, W.listOf ks.toArray c) :: n)) : GE w c sc m (call (.type "list") [.ref d]) n K := fun s Q E F N r =>
  list_tw rfl F N.N lo hd hm hz fun D cc ks h' tk hI hu F' N' => r _ _ _ _ (kk D cc ks hI) F' (N.new hu N')
theorem cit_tw {d : Addr} {o : Obj} {l : List TE} (hm : (d, o) ∈ G) (lo : (d == sysModules) = false) (hd : o.IsDictOf (intKind PR w) (tkv l)) (hz : l.length ≤ 1000) : CIt w c sc (.ref d) G l.length (fun i v => ∃ e, l[i]? = some e ∧ IsI e.i v) :=
  ⟨fun J F N h0 hG hc hk turn done => comp_tw J rfl F N lo hd (fun i ys nx h => hG i ys nx h _ hm) h0 hz hc hk (fun i e t h => turn i _ (by
    rcases Nat.lt_or_ge i l.length with g | g
    · exact g
    · rw [List.getElem?_eq_none g] at h; cases h) ⟨e, h, .mk⟩) done⟩
end
end
section
open LCg
section
variable {α : Type} {w : World} {c : Cx} {sc : Scope} {m : Nms} {n n' : Led} {d u : Nat} {K P : Value → Led → Prop} {R : Flow → Nms → Led → Prop} {rest : List Stmt} {st : Stmt} {v : Value} {t : Sem Value}
theorem GE.fin (h : GE w c sc m t n (fun v n' => ∃ nw n3, n'.Perm (nw ++ n3) ∧ K v n3)) : GE w c sc m t n K := fun s Q E F N r => h s Q E F N fun v n' h' tk' ⟨nw, n3, p, k⟩ F' N' => r v n3 h' tk' k F' (LedOk.app (N'.perm p))
theorem GS.abs {t : Sem Flow} (h : ∀ R' : Flow → Nms → Led → Prop, (∀ f m n, R f m n → R' f m n) → GS w c sc m t n R') : GS w c sc m t n R := h R fun _ _ _ => id
noncomputable def JN (m : Nms) (led : α → Led) (J : α → Prop) (R : Flow → Nms → Led → Prop) : Flow → Nms → Led → Prop
  | .next, m', n => m' = m ∧ ∃ a, n = led a ∧ J a
  | f, m', n => R f m' n
theorem jn_next {led : α → Led} {J : α → Prop} (a : α) (h : J a) : JN m led J R .next m (led a) := ⟨rfl, a, rfl, h⟩
theorem gs_joinN (led : α → Led) (J : α → Prop) (h1 : GS w c sc m (execs [st] (c.en sc)) n (JN m led J R)) (h2 : ∀ a, J a → GS w c sc m (execs rest (c.en sc)) (led a) R) : GS w c sc m (execs (st :: rest) (c.en sc)) n R :=
  .cons fun s Q E F N q => exec_one (h1 s Q E F N fun f m' n' h' tk' k F N => q _ _ _ _ _ (by
    cases f with
    | next => obtain ⟨rfl, a, rfl, j⟩ := k; exact rk_next (h2 _ j)
    | _ => exact k) F N)
theorem gs_if20 {body : List Stmt} {e : PySem.Expr} {pos : Pos} (h : GE w c sc m (isTrue e (c.en sc) (eval e (c.en sc))) n (fun b n' => (b = true → GS w c sc m (execs body (c.en sc)) n' (RK w c sc rest R)) ∧ (b = false → GS w c sc m (execs rest (c.en sc)) n' R))) :
    GS w c sc m (execs (.If e body [] pos :: rest) (c.en sc)) n R := gs_if2 (h.mono fun _ _ k => ⟨k.1, fun hb => gs_nil (rk_next (k.2 hb))⟩)
theorem evt_and3 {e1 e2 e3 : PySem.Expr} {pos : Pos} {b q r : Bool} (a : EvT w c sc m n e1 b) (k : b = true → EvT w c sc m n e2 q) (k2 : b = true → q = true → EvT w c sc m n e3 r) : EvT w c sc m n (.BoolOp .And [e1, e2, e3] pos) (b && (q && r)) := fun s Q E F N z =>
  isTrue_and (a s _ E F N fun h' tk' F N => by
    cases b with
    | false => exact z _ _ F N
    | true => exact isTrue_and (k rfl _ _ E F N fun h' tk' F N => by
        cases q with
        | false => exact z _ _ F N
        | true => exact isTrue_and (k2 rfl rfl _ _ E F N fun h' tk' F N => by
            cases r with
            | false => exact z _ _ F N
            | true => exact isTrue_and_nil (z _ _ F N))))
theorem gu_list5 {bm : Nms} {l : List (Str × Value)} {P : Nms → Led → Prop} {x1 x2 x3 x4 x5 : Str} {p1 p2 p3 p4 p5 pos : Pos} {v1 v2 v3 v4 v5 : Value} {t : Addr} {k tk : Nat} (hm : (t, W.listOf #[v1, v2, v3, v4, v5] k) ∈ n) (h1 : okL sc x1 = true) (h2 : okL sc x2 = true) (h3 : okL sc x3 = true) (h4 : okL sc x4 = true) (h5 : okL sc x5 = true)
    (kk : P (NM bm ((x5, v5) :: (x4, v4) :: (x3, v3) :: (x2, v2) :: (x1, v1) :: l)) n) : GU w c sc (NM bm l) (assign (.Tuple [.Name x1 p1, .Name x2 p2, .Name x3 p3, .Name x4 p4, .Name x5 p5] tk pos) (c.en sc) (.ref t)) n P := fun s Q E F N r => by
  refine kun_list F N.N ⟨_, N.N.get hm, rfl, _, rfl⟩ rfl rfl rfl fun h' F' N' => ?_
  refine assignInOrder_cons (wpAny_assign_Name (storeX_L F' N' (fun _ F2 N2 => ?_) (okL_and h1).1 (okL_and h1).2.1))
  refine assignInOrder_cons (wpAny_assign_Name (storeX_L (nm_set ▸ F2) N2 (fun _ F3 N3 => ?_) (okL_and h2).1 (okL_and h2).2.1))
  refine assignInOrder_cons (wpAny_assign_Name (storeX_L (nm_set ▸ F3) N3 (fun _ F3 N3 => ?_) (okL_and h3).1 (okL_and h3).2.1))
  refine assignInOrder_cons (wpAny_assign_Name (storeX_L (nm_set ▸ F3) N3 (fun _ F3 N3 => ?_) (okL_and h4).1 (okL_and h4).2.1))
  refine assignInOrder_cons (wpAny_assign_Name (storeX_L (nm_set ▸ F3) N3 (fun _ F3 N3 => ?_) (okL_and h5).1 (okL_and h5).2.1))
  exact assignInOrder_nil (r _ _ _ _ kk (nm_set ▸ F3) ⟨N3, N.D⟩)
theorem cp_inD {dd : Addr} {o : Obj} {kvs : List (Int × Value)} {k : Int} {v1 : Value} (hm : (dd, o) ∈ n) (lo : (dd == sysModules) = false) (hd : o.IsDictOf (intKind PR w) kvs) (h1 : IsI k v1) (kk : K (.bool (decide (valueAt kvs k ≠ none))) n) : GE w c sc m (compareOp .In v1 (.ref dd)) n K := fun s Q E F N r => by
  obtain ⟨t, rfl⟩ := h1
  cases hl : valueAt kvs k with
  | none => exact id_off N.N hm hd lo hl fun tk => r _ _ _ _ (by rw [hl] at kk; exact kk) F N
  | some v => exact id_in N.N hm hd lo hl fun tk => r _ _ _ _ (by rw [hl] at kk; exact kk) F N
theorem g_enterC2 {name qual : Str} {params : Arguments} {body : List Stmt} {scope : Scope} {dV kV doc pm cdv ct oc : Value} {an od : Option Addr} {osl : Array (Option Value)} {f : Addr} {vs : List Value} {P : Value → Led → Prop} (binds : List (Str × Value)) {l : List (Str × Value)} {x y : Str} {vx vy : Option Value}
    (hbl : (binds.filter fun x => decide (scope.names.lookup x.1 = some .local)).reverse = l) (hcf : ∀ k, cellsFrom k scope.names [] = [(x, k + 1), (y, k)]) (hvx : bindC (fun y => scope.names.lookup y) binds (fun _ => none) x = vx) (hvy : bindC (fun y => scope.names.lookup y) binds (fun _ => none) y = vy) (hxy : x ≠ y)
    (ok : CxOk w c sc (d + 1) (u + 3)) (ho : (t1.heap_1_1 w.params).lookup f = some ⟨oc, od, .func (fnOf name qual params body scope dV kV doc pm an cdv ct), osl⟩) (hcd : codeIn (t1.heap_1_1 w.params) cdv qual = true)
    (hbind : ∀ s : Shared, BindsTo s (fnOf name qual params body scope dV kV doc pm an cdv ct) ⟨vs, []⟩ binds) (hloc : (binds.all fun y => scope.names.lookup y.1 == some .local || scope.names.lookup y.1 == some .cell) = true)
    (hco : (scope.isCoroutine || scope.isGenerator || !(scope.kind == .function)) = false)
    (h : ∀ (c' : Cx) (a b : Addr) (o o' : Obj), CxOk w c' scope d u → c'.cl = [(x, a), (y, b)] → o.data = .cell vx → o'.data = .cell vy → GS w c' scope (NM nm0 l) (execs body (c'.en scope)) ((a, o) :: (b, o') :: n) (fun fl _ n' => P (match (generalizing := false) fl with | .ret v => v | _ => .none) n')) :
    GE w c sc m (call (.ref f) vs) n P := fun s Q E F N q => by
  obtain ⟨B, X, T, hk, hdp, hun⟩ := ok
  subst hbl
  simp only [Bool.or_eq_false_iff, Bool.not_eq_false', beq_iff_eq] at hco
  refine wpAny_call (code_defC (env := c.en sc) (outer := c.outer) B F X N.N T rfl rfl hk ho hcd (Nat.lt_of_le_of_lt (Nat.le_add_right _ _) hdp) (hbind s) hloc (by rw [hcf]; simpa using hxy) ?_ hco.1.1 hco.1.2 hco.2)
  intro g L' h₁ tk cells FG F' N' Y B' X' T' l1
  rw [hcf] at Y
  obtain ⟨o, o', rfl, hd1, hd2⟩ := Y.two
  have hd1 : o.data = .cell vx := hd1.trans (congrArg _ hvx)
  have hd2 : o'.data = .cell vy := hd2.trans (congrArg _ hvy)
  have D9 : (((L' + 1 + 1, o) :: (L' + 1, o') :: n).map (·.1)).Nodup := by
    have key : ∀ k, @LE.le Nat _ L' k → k ∉ n.map (·.1) := fun k hk hm => by
      obtain ⟨p, hp, e⟩ := List.mem_map.mp hm
      have q := l1 p hp
      have e : p.1 = k := e
      rw [e] at q
      exact Nat.lt_irrefl _ (Nat.lt_of_le_of_lt hk q)
    refine List.nodup_cons.mpr ⟨fun hm => ?_, List.nodup_cons.mpr ⟨key _ (Nat.le_succ _), N.D⟩⟩
    rcases List.mem_cons.mp hm with e | hm
    · exact absurd e (Nat.succ_ne_self (L' + 1))
    · exact key _ (Nat.le_add_right L' 2) hm
  have F9 : Fr g L' h₁ (NM nm0 (binds.filter fun x => decide (scope.names.lookup x.1 = some .local)).reverse) := by
    have e := bindL_eq (K := fun y => scope.names.lookup y) (b := nm0) (binds := binds) (l := [])
    rw [List.append_nil] at e
    rw [← e]
    exact F'
  have z := h ⟨c.dp + 1, c.un + 3, c.gd, qual, L', f, cdv, [(x, L' + 1 + 1), (y, L' + 1)], c.en sc :: c.outer, g⟩ (L' + 1 + 1) (L' + 1) o o' ⟨B', X', T', hco.2, by rw [Nat.add_assoc, Nat.add_comm 1]; exact hdp, by rw [Nat.add_assoc, Nat.add_comm 3]; exact hun⟩ rfl hd1 hd2
  have ee : envOfC qual scope L' f cdv = (⟨c.dp + 1, c.un + 3, c.gd, qual, L', f, cdv, [(x, L' + 1 + 1), (y, L' + 1)], c.en sc :: c.outer, g⟩ : Cx).en scope := by
    show envX qual scope L' f cdv (cellsFrom (L' + 1) scope.names []) = _
    rw [hcf]
  rw [ee]
  exact z _ _ _ F9 ⟨N', D9⟩ fun fl m' n' h' tk' p F'' N'' => leaveK_ F'' N''.N fun F N => q _ _ _ _ p F ⟨N, N''.D⟩
theorem ge_catT {a b : Addr} {xs ys zs : Array Value} {k k' : Nat} (h1 : (a, tupOf xs k) ∈ n) (h2 : (b, tupOf ys k') ∈ n) (hx : xs.toList ≠ []) (hy : ys.toList ≠ []) (hz : xs.toList.length + ys.toList.length ≤ 16384) (e : xs.toList ++ ys.toList = zs.toList) (kk : ∀ D, K (.ref D) ((D, tupOf zs 0) :: n)) : GE w c sc m (binaryOp .Add (.ref a) (.ref b)) n K := fun s Q E F N r =>
  kde_addT F N.N (News.isTup N.N h1) (News.isTup N.N h2) hx hy hz e fun D h' F' N' l1 => r _ _ _ _ (kk D) F' (N.new l1 N')
theorem ge_maxV {v1 v2 : Value} {i j : Int} (ok : CxOk w c sc d u) (h1 : IsI i v1) (h2 : IsI j v2) (k : ∀ v, IsI (if j > i then j else i) v → K v n) : GE w c sc m (call (.builtin "max") [v1, v2]) n K := by
  obtain ⟨_, rfl⟩ := h1
  obtain ⟨_, rfl⟩ := h2
  exact ge_max ok k
theorem clos_two {cs : Scope} {env : Env} {x y : Str} {a b : Addr} {cl : List (Str × Addr)} (h : closureFor cs { env with cells := [(x, a), (y, b)] } = pure cl) (e : env.cells = [(x, a), (y, b)]) : closureFor cs env = pure cl := by
  obtain ⟨⟩ := env
  dsimp only at e
  subst e
  exact h
theorem ev_lenDi {xp pos : Pos} {e1 : PySem.Expr} {dd : Addr} {o : Obj} {kvs : List (Int × Value)} (ok : CxOk w c sc d u) (a : EvP w c sc m n e1 (Is (.ref dd))) (hl : okG sc (Str.ofString "len") = true) (hm : (dd, o) ∈ n) (lo : (dd == sysModules) = false) (hd : o.IsDictOf (intKind PR w) kvs) (hz : kvs.length ≤ 1000000)
    (s1 : ∀ env, starEach [e1] env = (false, eval e1 env) :: starEach [] env := by intro _; rfl) : EvP w c sc m n (.Call (.Name (Str.ofString "len") xp) [e1] [] pos) (IsI (kvs.length : Int)) :=
  ev_b1 ok (by k_is) (by boot_fast) (by decide) hl a (fun _ h1 => by obtain rfl := h1; exact ge_lenD hm lo hd hz fun v hv => ⟨hv, rfl⟩) s1
end
section
variable {p q r s t : Addr × Obj} {A B X Y : Led}
theorem permIn : (t :: ((A ++ (p :: q :: B)) ++ X)).Perm (p :: q :: t :: ((A ++ B) ++ X)) := by
  have h1 : (A ++ (p :: q :: B)).Perm (p :: q :: (A ++ B)) := List.perm_middle.trans (List.Perm.cons p List.perm_middle)
  exact (((h1.append_right X).cons t).trans (.swap p t _)).trans (.cons p (.swap q t _))
theorem permAB : (p :: q :: r :: s :: X).Perm (r :: s :: p :: q :: X) := (List.perm_append_comm (l₁ := [p, q]) (l₂ := [r, s])).append_right X
end
section
variable {l pre post : List TE} {e : TE} {rest X : Led} {t : Addr × Obj}
theorem permTw (h : l = pre ++ e :: post) : (t :: (feetG tft l ++ rest)).Perm ((e.sx, stL e.d.began e.tb e.pd e.ev e.d.ahead e.ta e.fv e.n) :: (e.pd, e.po) :: t :: (feetG tft (pre ++ post) ++ rest)) := by
  rw [h, feetG_mid, feetG_app]
  exact permIn
end
theorem permTwR {a b p q t : Addr × Obj} {F X : Led} : (a :: b :: p :: q :: t :: (F ++ X)).Perm ([p, q] ++ (t :: (F ++ ([a, b] ++ X)))) := by
  refine (permAB (p := a) (q := b)).trans (.cons _ (.cons _ ?_))
  refine ((List.perm_append_comm (l₁ := [a, b]) (l₂ := [t])).append_right (F ++ X)).trans (.cons _ ?_)
  have := ((List.perm_append_comm (l₁ := [a, b]) (l₂ := F)).append_right X)
  rwa [List.append_assoc, List.append_assoc] at this
theorem permNewTw {p q r s t : Addr × Obj} {l : List TE} {X : Led} : (p :: q :: r :: s :: t :: (feetG tft l ++ X)).Perm (r :: s :: p :: q :: t :: (feetG tft (l ++ []) ++ X)) := by
  rw [List.append_nil]
  exact permAB
theorem permTold {a d r b t s u p q x y w : Addr × Obj} {F X : Led} : (a :: d :: r :: b :: t :: s :: u :: p :: q :: x :: y :: w :: (F ++ X)).Perm ([d, r, t, s, u, p, q, x, y] ++ (w :: (F ++ ([a, b] ++ X)))) := by
  refine List.Perm.trans (l₂ := d :: r :: a :: b :: t :: s :: u :: p :: q :: x :: y :: w :: (F ++ X)) ((List.perm_append_comm (l₁ := [a]) (l₂ := [d, r])).append_right _) (.cons _ (.cons _ ?_))
  refine (List.perm_append_comm_assoc [a, b] [t, s, u, p, q, x, y] (w :: (F ++ X))).trans (List.Perm.append_left [t, s, u, p, q, x, y] ?_)
  exact (List.perm_append_comm_assoc [a, b] [w] (F ++ X)).trans (.cons _ (List.perm_append_comm_assoc [a, b] F X))
section
variable {w : World} {c : Cx} {sc : Scope} {m : Nms} {n : Led} {K : Value → Led → Prop} {e1 : PySem.Expr} {pos zp : Pos} {z : Int} {pk : Nat}
inductive ItemK (z : Int) (K : Value → Led → Prop) (v1 : Value) (n : Led) : Prop
  | mk {l : Addr} {its : Array Value} {k : Nat} {v : Value} : v1 = .ref l → (l, W.listOf its k) ∈ n → nth? its.toList z.toNat = some v → K v n → ItemK z K v1 n
theorem ge_itemK (h : GE w c sc m (eval e1 (c.en sc)) n (ItemK z K)) (h0 : 0 ≤ z := by decide) (hz : z < 2 ^ 63 := by decide) : GE w c sc m (eval (.Subscript e1 (.Constant (.int z) pk zp) pos) (c.en sc)) n K := fun s Q E F N r =>
  Subscript_ (h s _ E F N fun v1 n1 h1 tk1 p1 F N => wpAny_Constant_int (by
    obtain ⟨rfl, hm, hx, k⟩ := p1
    exact item_made N.N hm h0 hz hx (r _ _ _ _ k F N) (by with_unfolding_all rfl)))
end
theorem ifB (b : Bool) {p q : Prop} (h1 : b = true → p) (h2 : b = false → q) : if b = true then p else q := by
  cases b with
  | true => exact h1 rfl
  | false => exact h2 rfl
end
section
section
variable {w : World} {c : Cx} {sc : Scope} {m : Nms} {n : Led} {d u : Nat} {e1 e2 : PySem.Expr} {xp pos : Pos} {i j : Int} {b : Bool} {P : Value → Prop}
theorem ev_intI (ok : CxOk w c sc d u) (a : EvP w c sc m n e1 (IsI i)) (hl : okG sc (Str.ofString "int") = true) (s1 : ∀ env, starEach [e1] env = (false, eval e1 env) :: starEach [] env := by intro _; rfl) : EvP w c sc m n (.Call (.Name (Str.ofString "int") xp) [e1] [] pos) (IsI i) :=
  EvP.of (ge_type ok (by k_is) (by boot_fast) (by decide) hl (ga_cons (ge_ev a fun v hv => ga_nil (ge_intI ok hv fun v hv => ⟨hv, rfl⟩)) s1) s1 fun _ => rfl)
theorem ev_intB (ok : CxOk w c sc d u) (a : EvP w c sc m n e1 (Is (.bool b))) (hl : okG sc (Str.ofString "int") = true) (s1 : ∀ env, starEach [e1] env = (false, eval e1 env) :: starEach [] env := by intro _; rfl) : EvP w c sc m n (.Call (.Name (Str.ofString "int") xp) [e1] [] pos) (IsI (if b = true then 1 else 0)) :=
  EvP.of (ge_type ok (by k_is) (by boot_fast) (by decide) hl (ga_v a (ga_nil (ge_intB ok fun v hv => ⟨hv, rfl⟩)) s1) s1 fun _ => rfl)
theorem ev_mulR (a : EvP w c sc m n e1 (IsI i)) (b : EvP w c sc m n e2 (IsI j)) (hb : Builtin.Int.intBits j ≤ 64) : EvP w c sc m n (.BinOp e1 .Mult e2 pos) (IsI (i * j)) := ev_mul a b (PySem.IntMulOk.of_right hb)
theorem ev_pow (a : EvP w c sc m n e1 (IsI i)) (b : EvP w c sc m n e2 (IsI j)) (hj : 0 ≤ j) (hz : (Builtin.Int.intBits i : Int) * j ≤ 2 ^ 27) : EvP w c sc m n (.BinOp e1 .Pow e2 pos) (IsI (i ^ j.toNat)) :=
  ev_bin a b fun _ _ ⟨_, e⟩ ⟨_, e'⟩ _ _ _ _ k => e ▸ e' ▸ PyProof.Rows.pow_int hj hz (k _ _ .mk)
theorem g_enterK {name qual : Str} {params : Arguments} {body : List Stmt} {scope : Scope} {dV kV doc pm cdv ct oc : Value} {an od : Option Addr} {osl : Array (Option Value)} {f : Addr} {vs : List Value} {P : Value → Led → Prop} (binds : List (Str × Value)) {l : List (Str × Value)} (hbl : binds.reverse = l)
    (ok : CxOk w c sc (d + 1) (u + 3)) (ho : (t1.heap_1_1 w.params).lookup f = some ⟨oc, od, .func (fnOf name qual params body scope dV kV doc pm an cdv ct), osl⟩) (hcd : codeIn (t1.heap_1_1 w.params) cdv qual = true)
    (hbind : ∀ s : Shared, BindsTo s (fnOf name qual params body scope dV kV doc pm an cdv ct) ⟨vs, []⟩ binds) (hloc : (binds.all fun x => decide (scope.names.lookup x.1 = some .local)) = true)
    (hco : (scope.isCoroutine || scope.isGenerator || !(scope.kind == .function) || scope.names.any fun x => x.2 == .cell) = false)
    (h : ∀ c' : Cx, c.h₀.StaysIn c'.h₀ → CxOk w c' scope d u → GS w c' scope (NM nm0 l) (execs body (c'.en scope)) n (fun fl _ n' => P (match (generalizing := false) fl with | .ret v => v | _ => .none) n')) :
    GE w c sc m (call (.ref f) vs) n P := fun s Q E F N q => by
  obtain ⟨B, X, T, hk, hdp, hun⟩ := ok
  subst hbl
  simp only [Bool.or_eq_false_iff, Bool.not_eq_false', beq_iff_eq] at hco
  refine wpAny_call (code_def (env := c.en sc) (outer := c.outer) B F X N.N T rfl rfl hk ho hcd (Nat.lt_of_le_of_lt (Nat.le_add_right _ _) hdp) (hbind s) (locs hloc) ?_ hco.1.1.1 hco.1.1.2 hco.1.2 ?_)
  · intro g L' h₁ FG F' N' B' X' T'
    refine h ⟨c.dp + 1, c.un + 3, c.gd, qual, L', f, cdv, [], c.en sc :: c.outer, g⟩ (fun b o e => FG.keep b o e) ⟨B', X', T', hco.1.2, ?_, ?_⟩ _ _ _ (nm_enter ▸ F') ⟨N', N.D⟩ fun fl m' n' h' tk' p F'' N'' => leaveK_ F'' N''.N fun F N => ?_
    · rw [Nat.add_assoc, Nat.add_comm 1]; exact hdp
    · rw [Nat.add_assoc, Nat.add_comm 3]; exact hun
    · exact q _ _ _ _ p F ⟨N, N''.D⟩
  · intro x hx e
    have := List.any_eq_false.mp hco.2 x hx
    rw [e] at this
    exact this rfl
end
end
section
theorem Sw.memL {d : Addr} {o o' : Obj} {n n' : Led} (h : Sw d o o' n n') : (d, o) ∈ n := by
  induction h with
  | head => exact .head _
  | tail _ ih => exact .tail _ ih
  | left _ ih => exact List.mem_append_left _ ih
  | right _ ih => exact List.mem_append_right _ ih
theorem nodTwo {a b : Nat} {oa ob : Obj} {n : Led} (hu : ∀ p ∈ n, @LT.lt Nat _ p.1 b) (hl : @LT.lt Nat _ b a) (D : (n.map (·.1)).Nodup) : (((a, oa) :: (b, ob) :: n).map (·.1)).Nodup :=
  List.nodup_cons.mpr ⟨fun hm => by
    rcases List.mem_cons.mp hm with e | hm
    · have e : a = b := e
      exact Nat.lt_irrefl _ (e ▸ hl : @LT.lt Nat _ a a)
    · obtain ⟨p, hp, e⟩ := List.mem_map.mp hm
      have q := hu p hp
      rw [e] at q
      exact Nat.lt_irrefl _ (Nat.lt_trans q hl), List.nodup_cons.mpr ⟨fun hm => by obtain ⟨p, hp, e⟩ := List.mem_map.mp hm; exact Nat.lt_irrefl _ (e ▸ hu p hp), D⟩⟩
section
variable {w : World} {c : Cx} {sc : Scope} {m : Nms} {n : Led} {d u : Nat} {x nm : Str} {v : Value} {xp tp pos : Pos} {e : PySem.Expr} {R : Flow → Nms → Led → Prop} {rest : List Stmt}
end
section
variable {w : World} {c : Cx} {sc : Scope} {m : Nms} {n : Led} {d u : Nat}
theorem g_make {name qual : Str} {params : Arguments} {body : List Stmt} {scope : Scope} {dV kV doc pm cdv ct oc : Value} {an od : Option Addr} {osl : Array (Option Value)} {C fI : Addr} {vs : List Value} {P : Value → Led → Prop} (binds : Addr → List (Str × Value)) {l : Addr → List (Str × Value)} (hbl : ∀ x, (binds x).reverse = l x)
    (ok : CxOk w c sc (d + 2) (u + 20)) (hm : makesIn (t1.heap_1_1 w.params) C = true) (hi : findIn (t1.heap_1_1 w.params) (.ref C) "__init__" = some (some (.ref fI))) (hf : isFn (t1.heap_1_1 w.params) (.ref fI) = true) (ho : (t1.heap_1_1 w.params).lookup fI = some ⟨oc, od, .func (fnOf name qual params body scope dV kV doc pm an cdv ct), osl⟩) (hcd : codeIn (t1.heap_1_1 w.params) cdv qual = true)
    (hbind : ∀ x (s : Shared), (t1.heap_1_1 w.params).In s.heap → BindsTo s (fnOf name qual params body scope dV kV doc pm an cdv ct) ⟨.ref x :: vs, []⟩ (binds x)) (hloc : ∀ x, ((binds x).all fun x => decide (scope.names.lookup x.1 = some .local)) = true)
    (hco : (scope.isCoroutine || scope.isGenerator || !(scope.kind == .function) || scope.names.any fun x => x.2 == .cell) = false)
    (h : ∀ (c' : Cx) (x dx : Addr), CxOk w c' scope d u → GS w c' scope (NM nm0 (l x)) (execs body (c'.en scope)) ((x, instObj C dx) :: (dx, dictOf [] 0) :: n) (fun fl _ n' => fl = .next ∧ P (.ref x) n')) :
    GE w c sc m (call (.ref C) vs) n P := fun s Q E F N q => by
  obtain ⟨B, X, T, hk, hdp, hun⟩ := ok
  simp only [Bool.or_eq_false_iff, Bool.not_eq_false', beq_iff_eq] at hco
  refine call_cls F X N.N hm hi hf fun x dx h1 F1 N1 l1 l2 => ?_
  have D1 := nodTwo (oa := instObj C dx) (ob := dictOf [] 0) l1 l2 N.D
  refine code_def (s := { s with heap := h1 }) (env := c.en sc) (outer := c.outer) B F1 X N1 T rfl rfl hk ho hcd ?_ (hbind x _ (X.keeps F1.keep)) (locs (hloc x)) ?_ hco.1.1.1 hco.1.1.2 hco.1.2 ?_
  · exact Nat.lt_of_le_of_lt (Nat.add_le_add_left (Nat.le_add_left 1 (d + 1)) c.dp) hdp
  · intro g L' h₁ FG F' N' B' X' T'
    rw [hbl] at F'
    refine h ⟨c.dp + 2, _, c.gd, qual, L', fI, cdv, [], c.en sc :: c.outer, g⟩ x dx ⟨B', X', T', hco.1.2, ?_, ?_⟩ _ _ _ (nm_enter ▸ F') ⟨N', D1⟩ fun fl m' n' h' tk' ⟨e, p⟩ F'' N'' => ?_
    · rw [Nat.add_assoc, Nat.add_comm 2]; exact hdp
    · exact Nat.lt_of_le_of_lt (Nat.le_trans (Nat.le_of_eq (Nat.add_assoc (c.un + 1) 3 u)) (by omega : c.un + 1 + (3 + u) ≤ c.un + (u + 20))) hun
    · subst e
      exact leaveK_ F'' N''.N fun F N => ⟨rfl, q _ _ _ _ p F ⟨N, N''.D⟩⟩
  · intro x hx e
    have := List.any_eq_false.mp hco.2 x hx
    rw [e] at this
    exact this rfl
end
end
section
section
variable {w : World} {c : Cx} {sc : Scope} {m : Nms} {n : Led} {d u : Nat} {x nm : Str} {v : Value} {xp tp pos : Pos} {e : PySem.Expr} {R : Flow → Nms → Led → Prop} {rest : List Stmt}
inductive SetN (w : World) (c : Cx) (sc : Scope) (m : Nms) (rest : List Stmt) (R : Flow → Nms → Led → Prop) (x nm : Str) (v : Value) (n : Led) : Prop
  | mk {a C dx : Addr} {es : List DictEntry} {k : Nat} {f : Obj → Led} (hv : m x = some (.ref a)) (h1 : (a, instObj C dx) ∈ n) (S : ∀ o', Sw dx (dictOf es k) o' n (f o')) (hs : SetIn w C nm) (p1 : (getL nm es).isSome = true) (p2 : ∀ tok, (putL nm (PyData.keyHash w.params nm) (.str nm tok) v es, putN nm es k) = (es ++ [⟨PyData.keyHash w.params nm, .str nm tok, v⟩], k + 1)) (p3 : Nat.blt es.length 1000 = true)
      (g : ∀ tok, GS w c sc m (execs rest (c.en sc)) (f (dictOf (es ++ [⟨PyData.keyHash w.params nm, .str nm tok, v⟩]) (k + 1))) R) : SetN w c sc m rest R x nm v n
theorem gs_setN (ok : CxOk w c sc d u) (hc : noComp e = true) (hl : okL sc x = true) (h : GE w c sc m (eval e (c.en sc)) n (SetN w c sc m rest R x nm)) :
    GS w c sc m (execs (.Assign [.Attribute (.Name x xp) nm tp] e pos :: rest) (c.en sc)) n R := .cons fun s Q E F N r => by
  refine plainObj_wpAny_Assign_Attribute (h s _ E F N fun v n' h' tk' kv F N => ?_) (swaps_no hc)
  obtain ⟨hv, h1, S, ⟨c1, c2, c3, c4⟩, p1, p2, p3, g⟩ := kv
  obtain ⟨B, X, T, -, -, -⟩ := ok
  refine nameX_L F hv ?_ (okL_and hl).1 (okL_and hl).2.1 (okL_and hl).2.2
  have h2 := (S (dictOf [] 0)).memL
  refine set_dict F X N.N (InstAt.of_news N.N h1 h2) rfl c1 c2 c3 c4 p1 (p2 (tk' + 1)) ((S _).upd N.D) ?_ fun h' F' N' => r _ _ _ _ _ (rk_next (g _)) F' (N.sw (S _) N')
  rw [List.length_append]
  exact Nat.le_of_ble_eq_true p3
theorem gs_init {C x0 dx : Addr} {es : List DictEntry} {k : Nat} (ok : CxOk w c sc d u) (hc : noComp e = true) (hl : okL sc x = true) (hv : m x = some (.ref x0)) (hs : SetIn w C nm) (he : EvP w c sc m ((x0, instObj C dx) :: (dx, dictOf es k) :: n) e (Is v))
    (p1 : (getL nm es).isSome = true) (p2 : ∀ tok, (putL nm (PyData.keyHash w.params nm) (.str nm tok) v es, putN nm es k) = (es ++ [⟨PyData.keyHash w.params nm, .str nm tok, v⟩], k + 1)) (p3 : Nat.blt es.length 1000 = true)
    (g : ∀ tok, GS w c sc m (execs rest (c.en sc)) ((x0, instObj C dx) :: (dx, dictOf (es ++ [⟨PyData.keyHash w.params nm, .str nm tok, v⟩]) (k + 1)) :: n) R) :
    GS w c sc m (execs (.Assign [.Attribute (.Name x xp) nm tp] e pos :: rest) (c.en sc)) ((x0, instObj C dx) :: (dx, dictOf es k) :: n) R :=
  gs_setN ok hc hl (ge_v he (.mk hv (.head _) (f := fun o => (x0, instObj C dx) :: (dx, o) :: n) (fun _ => .tail .head) hs p1 p2 p3 g))
end
section
variable {w : World} {c : Cx} {sc : Scope} {m : Nms} {n : Led} {d u : Nat} {v1 v2 v3 v4 : Value} {P : Value → Led → Prop} {xa : Addr} {i oo o' : Int} {mo mo' : Bool} {b b' pl : Array UInt8} {tb tp' : Tok}
theorem hdr_make_g (ok : CxOk w c sc 2 20) {v0 v1 v2 v3 v4 v5 v6 v7 v8 v9 : Value} (ret : ∀ x dx t0 t1 t2 t3 t4 t5 t6 t7 t8 t9, P (.ref x) ((x, instObj 74 dx) :: (dx, dictOf (hdrEs w.params t0 t1 t2 t3 t4 t5 t6 t7 t8 t9 v0 v1 v2 v3 v4 v5 v6 v7 v8 v9) 10) :: n)) :
    GE w c sc m (call (.ref 74) [v0, v1, v2, v3, v4, v5, v6, v7, v8, v9]) n P := by
  refine' g_make (d := 0) (u := 0) (fun x => [(Str.ofString "self", .ref x), (Str.ofString "source", v0), (Str.ofString "target", v1), (Str.ofString "protocol", v2), (Str.ofString "ident", v3), (Str.ofString "ttl", v4), (Str.ofString "tos", v5), (Str.ofString "dont", v6), (Str.ofString "more", v7), (Str.ofString "offset", v8), (Str.ofString "options", v9)]) (fun _ => by exact rfl) ok (by k_is) (by k_is) (by k_is) (by k_is) (by k_is) (by intro x s X; first | exact BindsTo.of_eq rfl | exact binds_K X rfl (by k_is) rfl rfl rfl) (fun _ => by exact rfl) (by exact rfl) ?_
  intro c' x dx ok'
  iterate 10 (refine gs_init ok' rfl rfl (by walk_at "nm") ⟨by k_is, by k_is, by k_is, by k_is⟩ (by walk_at "ev") rfl (fun _ => rfl) rfl fun _ => ?_)
  exact gs_nil ⟨rfl, ret _ _ _ _ _ _ _ _ _ _ _ _⟩
theorem hd_source {P : Params} {T : Nat → Tok} : ObjAt (Str.ofString "source") (hdrObj P T i mo oo b) (.int 10 (T 10)) := ⟨_, _, rfl, rfl, rfl⟩
theorem hd_target {P : Params} {T : Nat → Tok} : ObjAt (Str.ofString "target") (hdrObj P T i mo oo b) (.int 20 (T 11)) := ⟨_, _, rfl, rfl, rfl⟩
theorem hd_protocol {P : Params} {T : Nat → Tok} : ObjAt (Str.ofString "protocol") (hdrObj P T i mo oo b) (.int 17 (T 12)) := ⟨_, _, rfl, rfl, rfl⟩
theorem hd_ttl {P : Params} {T : Nat → Tok} : ObjAt (Str.ofString "ttl") (hdrObj P T i mo oo b) (.int 64 (T 14)) := ⟨_, _, rfl, rfl, rfl⟩
theorem hd_tos {P : Params} {T : Nat → Tok} : ObjAt (Str.ofString "tos") (hdrObj P T i mo oo b) (.int 0 (T 15)) := ⟨_, _, rfl, rfl, rfl⟩
theorem i74_source : AttrIn w 74 (Str.ofString "source") := ⟨_, by k_is, by k_is, by k_is, by k_is⟩
theorem i74_target : AttrIn w 74 (Str.ofString "target") := ⟨_, by k_is, by k_is, by k_is, by k_is⟩
theorem i74_protocol : AttrIn w 74 (Str.ofString "protocol") := ⟨_, by k_is, by k_is, by k_is, by k_is⟩
theorem i74_ttl : AttrIn w 74 (Str.ofString "ttl") := ⟨_, by k_is, by k_is, by k_is, by k_is⟩
theorem i74_tos : AttrIn w 74 (Str.ofString "tos") := ⟨_, by k_is, by k_is, by k_is, by k_is⟩
theorem hdr_out {sc : Scope} {m : Nms} {x nm : Str} {v : Value} {dx : Addr} {T : Nat → Tok} {xp pos : Pos} (ok : CxOk w c sc d u) (hv : m x = some (.ref xa)) (hl : okL sc x = true) (h1 : (xa, instObj 74 dx) ∈ n) (h2 : (dx, hdrObj w.params T i mo oo b) ∈ n) (hc : AttrIn w 74 nm) (ho : ObjAt nm (hdrObj w.params T i mo oo b) v) : EvP w c sc m n (.Attribute (.Name x xp) nm pos) (Is v) := ev_attr ok hv hl h1 h2 hc ho .mk
section
variable {sc : Scope} {m : Nms} {e : PySem.Expr} {es : List PySem.Expr} {pos : Pos} {j : Int} {K : List Value → Led → Prop} {v : Value}
theorem ev_fdiv {e1 e2 : PySem.Expr} {j' : Int} (a : EvP w c sc m n e1 (IsI j)) (b : EvP w c sc m n e2 (IsI j')) (hj : j' ≠ 0) (hp : Builtin.divisionGoesByPylong j j' = false) : EvP w c sc m n (.BinOp e1 .FloorDiv e2 pos) (IsI (j.fdiv j')) :=
  ev_bin a b fun _ _ ⟨_, e⟩ ⟨_, e'⟩ _ _ _ _ k => e ▸ e' ▸ floordiv_int hj (k _ _ .mk) (.inl hp)
end
theorem header_g (ok : CxOk w c sc 3 30) {v3 : Value} (h1 : IsI i v1) (h2 : IsI oo v2) (h3 : IsY b v3) (ret : ∀ x dx T, P (.ref x) ((x, instObj 74 dx) :: (dx, hdrObj w.params T i mo oo b) :: n)) : GE w c sc m (call (.ref 425) [v1, .bool mo, v2, v3]) n P := by
  obtain ⟨t1, rfl⟩ := h1
  obtain ⟨t2, rfl⟩ := h2
  obtain ⟨t3, rfl⟩ := h3
  refine' g_enter (d := 2) (u := 20) [(Str.ofString "ident", .int i t1), (Str.ofString "more", .bool mo), (Str.ofString "offset", .int oo t2), (Str.ofString "options", .bytes b t3)] (by exact rfl) (ok.le rfl rfl) (by k_is) (by k_is) (by intro s; exact BindsTo.of_eq rfl) (by exact rfl) (by exact rfl) ?_
  intro c' ok'
  refine gs_ret (ge_call ok' (by k_is) (by k_is) rfl (ga_i ev_int fun t0 => ga_i ev_int fun t1 => ga_i ev_int fun t2 => ga_v (by walk_at "ev") (ga_i ev_int fun t4 => ga_i ev_int fun t5 => ga_v ev_bool (ga_v (by walk_at "ev") (ga_v (by walk_at "ev") (ga_v (by walk_at "ev") (ga_nil (hdr_make_g ok' fun x dx u0 u1 u2 u3 u4 u5 u6 u7 u8 u9 => ?_))))))))
  exact ret x dx (fun k => [u0, u1, u2, u3, u4, u5, u6, u7, u8, u9, t0, t1, t2, _, t4, t5, _, _].getD k 0)
theorem part_g (ok : CxOk w c sc 3 30) (H : HdrIs w.params n xa i mo oo b) (h1 : IsI o' v1) (ret : ∀ x dx T, P (.ref x) ((x, instObj 74 dx) :: (dx, hdrObj w.params T i mo' o' b') :: n)) : GE w c sc m (call (.ref 369) [.ref xa, v1, .bool mo', .bytes b' tb]) n P := by
  obtain ⟨t1, rfl⟩ := h1
  obtain ⟨dh, T, H1, H2⟩ := H
  refine' g_enter (d := 2) (u := 20) [(Str.ofString "header", .ref xa), (Str.ofString "offset", .int o' t1), (Str.ofString "more", .bool mo'), (Str.ofString "options", .bytes b' tb)] (by exact rfl) (ok.le rfl rfl) (by k_is) (by k_is) (by intro s; exact BindsTo.of_eq rfl) (by exact rfl) (by exact rfl) ?_
  intro c' ok'
  refine gs_ret (ge_call ok' (by k_is) (by k_is) rfl (ga_v (hdr_out ok' (by walk_at "nm") rfl H1 H2 i74_source hd_source) (ga_v (hdr_out ok' (by walk_at "nm") rfl H1 H2 i74_target hd_target) (ga_v (hdr_out ok' (by walk_at "nm") rfl H1 H2 i74_protocol hd_protocol) (ga_v (hdr_out ok' (by walk_at "nm") rfl H1 H2 i74_ident hd_ident) (ga_v (hdr_out ok' (by walk_at "nm") rfl H1 H2 i74_ttl hd_ttl) (ga_v (hdr_out ok' (by walk_at "nm") rfl H1 H2 i74_tos hd_tos) (ga_v (hdr_out ok' (by walk_at "nm") rfl H1 H2 i74_dont hd_dont) (ga_v (by walk_at "ev") (ga_v (by walk_at "ev") (ga_v (by walk_at "ev") (ga_nil (hdr_make_g ok' fun x dx u0 u1 u2 u3 u4 u5 u6 u7 u8 u9 => ?_)))))))))))))
  exact ret x dx (fun k => [u0, u1, u2, u3, u4, u5, u6, u7, u8, u9, _, _, _, _, _, _, _, _].getD k 0)
theorem whole_g (ok : CxOk w c sc 3 30) (H : HdrIs w.params n xa i mo oo b) (ret : ∀ x dx T, P (.ref x) ((x, instObj 74 dx) :: (dx, hdrObj w.params T i false 0 b) :: n)) : GE w c sc m (call (.ref 188) [.ref xa]) n P := by
  obtain ⟨dh, T, H1, H2⟩ := H
  refine' g_enter (d := 2) (u := 20) [(Str.ofString "header", .ref xa)] (by exact rfl) (ok.le rfl rfl) (by k_is) (by k_is) (by intro s; exact BindsTo.of_eq rfl) (by exact rfl) (by exact rfl) ?_
  intro c' ok'
  refine gs_ret (ge_call ok' (by k_is) (by k_is) rfl (ga_v (hdr_out ok' (by walk_at "nm") rfl H1 H2 i74_source hd_source) (ga_v (hdr_out ok' (by walk_at "nm") rfl H1 H2 i74_target hd_target) (ga_v (hdr_out ok' (by walk_at "nm") rfl H1 H2 i74_protocol hd_protocol) (ga_v (hdr_out ok' (by walk_at "nm") rfl H1 H2 i74_ident hd_ident) (ga_v (hdr_out ok' (by walk_at "nm") rfl H1 H2 i74_ttl hd_ttl) (ga_v (hdr_out ok' (by walk_at "nm") rfl H1 H2 i74_tos hd_tos) (ga_v (hdr_out ok' (by walk_at "nm") rfl H1 H2 i74_dont hd_dont) (ga_v ev_bool (ga_i ev_int fun t8 => ga_v (by walk_at "ev") (ga_nil (hdr_make_g ok' fun x dx u0 u1 u2 u3 u4 u5 u6 u7 u8 u9 => ?_))))))))))))
  exact ret x dx (fun k => [u0, u1, u2, u3, u4, u5, u6, u7, u8, u9, _, _, _, _, _, _, t8, _].getD k 0)
theorem size_g (ok : CxOk w c sc 1 10) (H : HdrIs w.params n xa i mo oo b) (hb : b.size ≤ 100) (ret : ∀ v, IsI (20 + (b.size : Int)) v → P v n) : GE w c sc m (call (.ref 43) [.ref xa]) n P := by
  obtain ⟨dh, T, H1, H2⟩ := H
  refine' g_enter (d := 0) (u := 7) [(Str.ofString "self", .ref xa)] (by exact rfl) (ok.le rfl rfl) (by k_is) (by k_is) (by intro s; exact BindsTo.of_eq rfl) (by exact rfl) (by exact rfl) ?_
  intro c' ok'
  exact gs_ret (ge_ev (ev_add (ev_glob ok' (by k_is) rfl .mk) (ev_len ok' (by walk_at "ev") rfl (Nat.le_trans hb (by decide)))) fun v hv => ret v hv)
theorem told_g (ok : CxOk w c sc 1 10) (H : HdrIs w.params n xa i mo oo b) (ret : ∀ D T k, P (.ref D) ((D, toldObj T k i mo oo b) :: n)) : GE w c sc m (call (.ref 437) [.ref xa]) n P := by
  obtain ⟨dh, T, H1, H2⟩ := H
  refine GE.fin ?_
  refine' g_enter (d := 0) (u := 7) [(Str.ofString "header", .ref xa)] (by exact rfl) (ok.le rfl rfl) (by k_is) (by k_is) (by intro s; exact BindsTo.of_eq rfl) (by exact rfl) (by exact rfl) ?_
  intro c' ok'
  refine gs_let rfl rfl (ge_tuple ok' (ga_v (hdr_out ok' (by walk_at "nm") rfl H1 H2 i74_source hd_source) (ga_v (hdr_out ok' (by walk_at "nm") rfl H1 H2 i74_target hd_target) (ga_v (hdr_out ok' (by walk_at "nm") rfl H1 H2 i74_protocol hd_protocol) (ga_v (hdr_out ok' (by walk_at "nm") rfl H1 H2 i74_ident hd_ident) (ga_v (hdr_out ok' (by walk_at "nm") rfl H1 H2 i74_ttl hd_ttl) (ga_v (hdr_out ok' (by walk_at "nm") rfl H1 H2 i74_tos hd_tos) (ga_v (hdr_out ok' (by walk_at "nm") rfl H1 H2 i74_dont hd_dont) (ga_nil ⟨rfl, fun a => ?_⟩)))))))))
  refine gs_ret (ge_bin (ge_v (by walk_at "ev") (ge_tuple ok' (ga_v (by walk_at "ev") (ga_v (by walk_at "ev") (ga_v (by walk_at "ev") (ga_nil ⟨rfl, fun b3 => ge_catT (.tail _ (.head _)) (.head _) (List.cons_ne_nil _ _) (List.cons_ne_nil _ _) (Nat.le_of_ble_eq_true rfl) rfl fun D => ?_⟩)))))))
  exact ⟨[_, _], _, (List.perm_middle (l₁ := [_, _])).symm, ret D (fun k => [T 10, T 11, T 12, T 13, T 14, T 15, T 16, T 17].getD k 0) 0⟩
theorem key_g (ok : CxOk w c sc 1 10) (H : HdrIs w.params n xa i mo oo b) (ret : ∀ D T k, P (.ref D) ((D, keyObj T k i) :: n)) : GE w c sc m (call (.ref 195) [.ref xa]) n P := by
  obtain ⟨dh, T, H1, H2⟩ := H
  refine' g_enter (d := 0) (u := 7) [(Str.ofString "header", .ref xa)] (by exact rfl) (ok.le rfl rfl) (by k_is) (by k_is) (by intro s; exact BindsTo.of_eq rfl) (by exact rfl) (by exact rfl) ?_
  intro c' ok'
  exact gs_ret (ge_tuple ok' (ga_v (hdr_out ok' (by walk_at "nm") rfl H1 H2 i74_source hd_source) (ga_v (hdr_out ok' (by walk_at "nm") rfl H1 H2 i74_target hd_target) (ga_v (hdr_out ok' (by walk_at "nm") rfl H1 H2 i74_protocol hd_protocol) (ga_v (hdr_out ok' (by walk_at "nm") rfl H1 H2 i74_ident hd_ident) (ga_nil ⟨rfl, fun D => ret D (fun k => [T 10, T 11, T 12, T 13].getD k 0) 0⟩))))))
theorem fmod8G (n : Nat) : (((n : Int)).fmod 8 != 0) = decide (n % 8 ≠ 0) := by
  rw [Int.fmod_eq_emod_of_nonneg _ (by decide)]
  have : ((n : Int) % 8 != 0) = decide ((n : Int) % 8 ≠ 0) := by simp [bne, BEq.beq]
  rw [this]
  exact decide_eq_decide.mpr (by omega)
theorem nilB (a : Array UInt8) : decide (a = #[]) = decide (a.size = 0) := by simp [Array.size_eq_zero_iff]
theorem bad_g (ok : CxOk w c sc 1 10) (H : HdrIs w.params n xa i mo oo b) (hpl : pl.size ≤ 1000) (ret : P (.bool (mo && (decide (pl.size = 0) || decide (pl.size % 8 ≠ 0)))) n) : GE w c sc m (call (.ref 202) [.ref xa, .bytes pl tp']) n P := by
  obtain ⟨dh, T, H1, H2⟩ := H
  refine' g_enter (d := 0) (u := 7) [(Str.ofString "header", .ref xa), (Str.ofString "payload", .bytes pl tp')] (by exact rfl) (ok.le rfl rfl) (by k_is) (by k_is) (by intro s; exact BindsTo.of_eq rfl) (by exact rfl) (by exact rfl) ?_
  intro c' ok'
  refine gs_ret (ge_v (ev_and (by walk_at "ev") fun _ => ev_or (ev_cmpV (P1 := IsY pl) (P2 := IsY #[]) (by walk_at "ev") ev_bytes cp_eqY) fun _ => ev_cmpV (ev_mod (ev_len ok' (by walk_at "ev") rfl (Nat.le_trans hpl (by decide))) (ev_glob ok' (by k_is) rfl .mk) (by decide)) ev_int cp_ne) ?_)
  rw [nilB, fmod8G]
  exact ret
theorem room_g {M k : Int} (ok : CxOk w c sc 1 10) (h1 : IsI M v1) (h2 : IsI k v2) (h3 : 0 ≤ k) (h4 : k + 8 ≤ M) (h5 : M ≤ 1000) (ret : ∀ (z : Int) v, IsI z v → z % 8 = 0 → z ≤ M - k → M - k < z + 8 → P v n) : GE w c sc m (call (.ref 376) [v1, v2]) n P := by
  obtain ⟨t1, rfl⟩ := h1
  obtain ⟨t2, rfl⟩ := h2
  refine' g_enter (d := 0) (u := 7) [(Str.ofString "mtu", .int M t1), (Str.ofString "header_size", .int k t2)] (by exact rfl) (ok.le rfl rfl) (by k_is) (by k_is) (by intro s; exact BindsTo.of_eq rfl) (by exact rfl) (by exact rfl) ?_
  intro c' ok'
  have e : (M - k).fdiv 8 = (M - k) / 8 := Int.fdiv_eq_ediv_of_nonneg _ (by decide)
  refine gs_let rfl rfl (ge_ev (ev_mul (ev_fdiv (ev_sub (by walk_at "ev") (by walk_at "ev")) (ev_glob ok' (by k_is) rfl .mk) (by decide) (PyProof.noPylong_small (by omega))) (ev_glob ok' (by k_is) rfl .mk) (PySem.IntMulOk.of_right (by decide))) fun v hv => ?_)
  rw [e] at hv
  refine gs_ifF0 ((ev_cmp (by walk_at "ev") (ev_glob ok' (by k_is) rfl .mk) cp_lt).to (decide_eq_false (by omega))) ?_
  exact gs_ret (ge_v (by walk_at "ev") (ret _ v hv (by omega) (by omega) (by omega)))
end
end
section
section
variable {w : World} {c : Cx} {sc : Scope} {m : Nms} {n : Led} {d u : Nat} {e1 e2 : PySem.Expr} {pos : Pos} {v : Value} {K : Value → Led → Prop}
inductive ItemG (K : Value → Led → Prop) (l : Addr) (v2 : Value) (n : Led) : Prop
  | mk {vs : List Value} {k z : Nat} {v : Value} (hv : IsI (z : Int) v2) (hm : (l, W.listOf vs.toArray k) ∈ n) (hx : vs[z]? = some v) (hz : vs.length ≤ 1000000) (kk : K v n) : ItemG K l v2 n
theorem ge_itemG {l : Addr} (a : EvP w c sc m n e1 (Is (.ref l))) (b : GE w c sc m (eval e2 (c.en sc)) n (ItemG K l))
    (hs : ∀ l k u, subscripted e2 false (.ref l) (.int k u) = operate [.ref l, .int k u] (getItem (.ref l) (.int k u)) := by intro _ _ _; with_unfolding_all rfl) : GE w c sc m (eval (.Subscript e1 e2 pos) (c.en sc)) n K := fun s Q E F N r =>
  Subscript_ (a s _ E F N fun v1 h1 tk1 p1 F N => b _ _ E F N fun v2 n' h2 tk2 p2 F N => by
    obtain rfl : v1 = _ := p1
    obtain ⟨⟨t, rfl⟩, hm, hx, hz, kk⟩ := p2
    rename_i vs k z v
    have hlt : z < vs.length := by
      rcases Nat.lt_or_ge z vs.length with h | h
      · exact h
      · rw [List.getElem?_eq_none h] at hx; cases hx
    have hl : Heap.IsList _ l vs.toArray := ⟨_, N.N.get hm, rfl, _, rfl⟩
    exact tail_any hl.typeIs slot_list_getitem.lookup (wpAny_getItem_list hl (Int.natCast_nonneg _) (by omega) (by simpa using hx) (r _ _ _ _ kk F N)) (hs _ _ _))
end
section
variable {w : World} {c : Cx} {sc cs : Scope} {m : Nms} {n : Led} {cl : List (Str × Addr)} {C : Addr} {e1 e2 : PySem.Expr} {pos : Pos} {i j : Int}
theorem evc_add (a : EvC w c sc m n cs cl C e1 (IsI i)) (b : EvC w c sc m n cs cl C e2 (IsI j)) : EvC w c sc m n cs cl C (.BinOp e1 .Add e2 pos) (IsI (i + j)) :=
  evc_bin a b fun _ _ ⟨_, e⟩ ⟨_, e'⟩ _ _ _ _ k => e ▸ e' ▸ PyProof.Rows.add_int (k _ _ .mk)
theorem evc_mulR (a : EvC w c sc m n cs cl C e1 (IsI i)) (b : EvC w c sc m n cs cl C e2 (IsI j)) (hb : Builtin.Int.intBits j ≤ 64) : EvC w c sc m n cs cl C (.BinOp e1 .Mult e2 pos) (IsI (i * j)) :=
  evc_bin a b fun _ _ ⟨_, e⟩ ⟨_, e'⟩ _ _ _ _ k => e ▸ e' ▸ PyProof.Rows.mul_int (k _ _ .mk) (PySem.IntMulOk.of_right hb)
theorem evc_mod (a : EvC w c sc m n cs cl C e1 (IsI i)) (b : EvC w c sc m n cs cl C e2 (IsI j)) (hj : j ≠ 0) : EvC w c sc m n cs cl C (.BinOp e1 .Mod e2 pos) (IsI (i.fmod j)) :=
  evc_bin a b fun _ _ ⟨_, e⟩ ⟨_, e'⟩ _ _ _ _ k => e ▸ e' ▸ PyProof.Rows.mod_int hj (k _ _ .mk)
end
theorem clos_1 {cs : Scope} {env : Env} {x : Str} {a : Addr} (h : closureFor cs { env with cells := [(x, a)] } = pure [(x, a)]) (e : env.cells = [(x, a)]) : closureFor cs env = pure [(x, a)] := by
  obtain ⟨⟩ := env
  dsimp only at e
  subst e
  exact h
theorem GE.ppI {α : Type} {w : World} {c : Cx} {sc : Scope} {m : Nms} {n n' : Led} {t : Sem α} {K : α → Led → Prop} (p : n.Perm n') (h : GE w c sc m t n' K) : GE w c sc m t n K := fun s Q E F N r => h s Q E F (N.perm p) r
theorem octs_of : ∀ (ns : List Int), (∀ i ∈ ns, 0 ≤ i ∧ i < 256) → ∃ l : List UInt8, l.length = ns.length ∧ ns = l.map fun b => ((b.toNat : Nat) : Int)
  | [], _ => ⟨[], rfl, rfl⟩
  | i :: ns, h => by
    obtain ⟨l, h1, h2⟩ := octs_of ns fun j hj => h j (.tail _ hj)
    have hi := h i (.head _)
    have e : ((UInt8.ofNat i.toNat).toNat : Int) = i := by rw [UInt8.toNat_ofNat']; omega
    exact ⟨UInt8.ofNat i.toNat :: l, congrArg (· + 1) h1, by rw [List.map_cons, e, ← h2]⟩
theorem permO {a b c d : Addr × Obj} {r : Led} : (a :: b :: c :: d :: r).Perm ([a, b, d] ++ (c :: r)) := .cons _ (.cons _ (.swap _ _ _))
section
variable {w : World} {c : Cx} {sc : Scope} {m : Nms} {n rest : Led} {d u : Nat} {v1 : Value} {P : Value → Led → Prop} {src t : Addr} {o : Obj} {f : Obj → Led} {top k : Int} {vs : List Value} {kk : Nat}
theorem take_c (ok : CxOk w c sc 1 8) (hs : SrcIs o) (h1 : IsI top v1) (ht : 0 < top) (ht2 : top ≤ 256) (ret : ∀ (z : Int) v o', IsI z v → 0 ≤ z → z < top → SrcIs o' → P v ((src, o') :: rest)) : GE w c sc m (call (.ref 397) [.ref src, v1]) ((src, o) :: rest) P := by
  obtain ⟨t, rfl⟩ := h1
  obtain ⟨x, y, tx, ty, k, ⟨hx, hy, hy2⟩, rfl⟩ := hs
  refine' g_enter (d := 0) (u := 5) [(Str.ofString "source", .ref src), (Str.ofString "top", .int top t)] (by exact rfl) (ok.le rfl rfl) (by k_is) (by k_is) (by intro s; exact BindsTo.of_eq rfl) (by exact rfl) (by exact rfl) ?_
  intro c' ok'
  refine gs_ifb0 (by walk_at "evt") (fun hp => ?_) (fun _ => ?_)
  · have hp : 0 < x := of_decide_eq_true hp
    refine gs_let rfl rfl (ge_ev (P := IsI (x.fmod top)) (ev_mod (ev_intI ok' (by walk_at "ev") rfl) (by walk_at "ev") (by omega)) fun v hv => ?_)
    refine gs_asg rfl (ge_ev (P := IsI (x.fdiv top)) (ev_fdiv (by walk_at "ev") (by walk_at "ev") (by omega) (PyProof.noPylong_small (by omega))) fun v2 hv2 => ?_)
    obtain ⟨t2, rfl⟩ := hv2
    refine gu_setL (by walk_at "ev") ev_int (by exact rfl) .head ?_
    exact gs_ret (ge_v (by walk_at "ev") (rk_ret (ret _ v _ hv (fmod_lo ht) (fmod_hi ht) ⟨_, _, _, _, _, ⟨fdiv_lo hx ht, hy, hy2⟩, rfl⟩)))
  · refine gs_asg rfl (ge_ev (P := IsI ((y * 39373 + 7).fmod 2147483647)) (ev_mod (ev_intI ok' (ev_add (ev_mulR (by walk_at "ev") ev_int (by decide)) ev_int) rfl) ev_int (by decide)) fun v hv => ?_)
    obtain ⟨t2, rfl⟩ := hv
    refine gu_setL (by walk_at "ev") ev_int (by exact rfl) .head ?_
    have g1 : 0 ≤ (y * 39373 + 7).fmod 2147483647 := fmod_lo (by decide)
    have g2 : (y * 39373 + 7).fmod 2147483647 < 2147483647 := fmod_hi (by decide)
    refine gs_ret (ge_ev (ev_mod (ev_intI ok' (ev_fdiv (ev_mod (ev_intI ok' (ev_mulR (by walk_at "ev") (by walk_at "ev") (PySem.intBits_le_64 (by omega) (by omega))) rfl) ev_int (by decide)) ev_int (by decide) (PyProof.noPylong_small (by omega))) rfl) (by walk_at "ev") (by omega)) fun v hv => ?_)
    exact ret _ v _ hv (fmod_lo ht) (fmod_hi ht) ⟨_, _, _, _, _, ⟨hx, g1, g2⟩, rfl⟩
theorem one_c (ok : CxOk w c sc 2 20) (hs : SrcIs o) (hm : (t, W.listOf vs.toArray kk) ∈ rest) (h1 : 0 < vs.length) (h2 : vs.length ≤ 256)
    (ret : ∀ (v : Value) (i : Nat) o', i < vs.length → vs[i]? = some v → SrcIs o' → P v ((src, o') :: rest)) : GE w c sc m (call (.ref 404) [.ref src, .ref t]) ((src, o) :: rest) P := by
  refine' g_enter (d := 1) (u := 17) [(Str.ofString "source", .ref src), (Str.ofString "things", .ref t)] (by exact rfl) (ok.le rfl rfl) (by k_is) (by k_is) (by intro s; exact BindsTo.of_eq rfl) (by exact rfl) (by exact rfl) ?_
  intro c' ok'
  refine gs_ret (ge_itemG (by walk_at "ev") (ge_call ok' (by k_is) (by k_is) rfl (ga_v (by walk_at "ev") (ga_cons (ge_builtin ok' (by k_is) (by boot_fast) (by decide) rfl (ga_v (by walk_at "ev") (ga_nil (ge_lenL (.tail _ hm) (Nat.le_trans h2 (by decide)) fun v hv => ga_nil (take_c (ok'.le rfl rfl) hs hv (by omega) (by omega) fun z v o' hz z0 z1 ho => ?_)))))))))
  obtain ⟨z, rfl⟩ := Int.eq_ofNat_of_zero_le z0
  have hz1 : z < vs.length := by omega
  obtain ⟨v9, h9⟩ : ∃ v9, vs[z]? = some v9 := ⟨_, List.getElem?_eq_getElem hz1⟩
  exact .mk hz (.tail _ hm) h9 (by omega) (ret v9 z o' hz1 h9 ho)
theorem alert_g (ok : CxOk w c sc 1 20) (ret : ∀ t, P (.bytes #[148, 4, 0, 0] t) n) : GE w c sc m (call (.ref 411) []) n P := by
  refine GE.fin ?_
  refine' g_enter (d := 0) (u := 17) [] (by exact rfl) (ok.le rfl rfl) (by k_is) (by k_is) (by intro s; exact BindsTo.of_eq rfl) (by exact rfl) (by exact rfl) ?_
  intro c' ok'
  refine gs_ret (ge_type ok' (by k_is) (by boot_fast) (by decide) rfl (ga_cons (ge_list ok' (ga_i ev_int fun t1 => ga_i ev_int fun t2 => ga_i ev_int fun t3 => ga_i ev_int fun t4 => ga_nil ⟨rfl, fun D => ga_nil (ge_bytes (l := [148, 4, 0, 0]) (.head _) (.cons _ _ (.cons _ _ (.cons _ _ (.cons _ _ .nil)))) (by decide) fun t => ?_)⟩))))
  exact ⟨[_], _, .refl _, ret _⟩
theorem route_g (ok : CxOk w c sc 1 20) (ret : ∀ t, P (.bytes #[7, 7, 4, 0, 0, 0, 0, 0] t) n) : GE w c sc m (call (.ref 418) []) n P := by
  refine GE.fin ?_
  refine' g_enter (d := 0) (u := 17) [] (by exact rfl) (ok.le rfl rfl) (by k_is) (by k_is) (by intro s; exact BindsTo.of_eq rfl) (by exact rfl) (by exact rfl) ?_
  intro c' ok'
  refine gs_ret (ge_type ok' (by k_is) (by boot_fast) (by decide) rfl (ga_cons (ge_list ok' (ga_i ev_int fun t1 => ga_i ev_int fun t2 => ga_i ev_int fun t3 => ga_i ev_int fun t4 => ga_i ev_int fun t5 => ga_i ev_int fun t6 => ga_i ev_int fun t7 => ga_i ev_int fun t8 => ga_nil ⟨rfl, fun D => ga_nil (ge_bytes (l := [7, 7, 4, 0, 0, 0, 0, 0]) (.head _) (.cons _ _ (.cons _ _ (.cons _ _ (.cons _ _ (.cons _ _ (.cons _ _ (.cons _ _ (.cons _ _ .nil)))))))) (by decide) fun t => ?_)⟩))))
  exact ⟨[_], _, .refl _, ret _⟩
theorem octets_c {k : Nat} (ok : CxOk w c sc 2 20) (hs : SrcIs o) (h1 : k ≤ 100) (h0 : IsI (k : Int) v1) (ret : ∀ (b : Array UInt8) v o', IsY b v → b.size = k → SrcIs o' → P v ((src, o') :: rest)) : GE w c sc m (call (.ref 430) [.ref src, v1]) ((src, o) :: rest) P := by
  obtain ⟨tk, rfl⟩ := h0
  refine GE.fin ?_
  refine' g_enterC (d := 1) (u := 17) [(Str.ofString "source", .ref src), (Str.ofString "many", .int (k : Int) tk)] (x := Str.ofString "first") (v := none) (by exact rfl) (fun _ => rfl) rfl (ok.le rfl rfl) (by k_is) (by k_is) (by intro s; exact BindsTo.of_eq rfl) (by exact rfl) (by exact rfl) ?_
  intro c' a oc ok' hcl ho
  have hcc : c'.cl.lookup (Str.ofString "first") = some a := by rw [hcl]; rfl
  refine gs_letC (a := a) (o := oc) (v₀ := none) (f := fun _ => []) hcc (by exact rfl) rfl (ge_call ok' (by k_is) (by k_is) rfl (ga_v (by walk_at "ev") (ga_i ev_int fun t256 => ga_nil (GE.ppI (List.Perm.swap _ _ _) (take_c (ok'.le rfl rfl) hs ⟨_, rfl⟩ (by decide) (by decide) fun z v o' hz z0 z1 hso => ?_)))))
  refine ⟨oc, none, fun o2 => (src, o') :: (a, o2) :: rest, ho, fun _ => .tail .head, fun o2 h2 => ?_⟩
  obtain ⟨tz, rfl⟩ := hz
  refine gs_ret (ge_type ok' (by k_is) (by boot_fast) (by decide) rfl (ga_cons (ge_comp (cl := [(Str.ofString "first", a)]) (clos_1 (by with_unfolding_all rfl) hcl) rfl (by decide) (by decide) rfl (ge_type ok' (by k_is) (by boot_fast) (by decide) rfl (ga_v (by walk_at "ev") (ga_nil ?_))))))
  refine ge_range fun r9 t09 t29 => CompK.mk (fun i ys => ∃ ns, IntsAre ys ns ∧ ns.length = i ∧ ∀ n ∈ ns, 0 ≤ n ∧ n < 256) (cit_range (.head _) (by omega)) ⟨[], .nil, rfl, fun _ h => nomatch h⟩ (fun i v ys C oC mC n' hi hv hR q1 q2 q3 q4 => ?_) fun D ys hR => ?_
  · obtain ⟨ns, r1, r2, r3⟩ := hR
    refine (evc_mod (evc_add (evc_cellL (by exact rfl) (q4 _ (by walk_at "mm")) h2 (by exact rfl) (by exact rfl) (by decide) .mk) (evc_mulR evc_int (evc_name q1 q2 q3 rfl hv) (PySem.intBits_le_64 (by omega) (by omega)))) evc_int (by decide)).mono fun y ⟨t, e⟩ => ?_
    subst e
    exact ⟨ns ++ [_], r1.append (.cons _ _ .nil), by simp [r2], fun j hj => by
      rcases List.mem_append.mp hj with hj | hj
      · exact r3 j hj
      · rcases List.mem_singleton.mp hj with rfl
        exact ⟨fmod_lo (by decide), fmod_hi (by decide)⟩⟩
  · obtain ⟨ns, r1, r2, r3⟩ := hR
    obtain ⟨l, l1, l2⟩ := octs_of ns r3
    refine ga_nil (ge_bytes (.head _) (l2 ▸ r1) (by omega) fun t => ?_)
    exact ⟨[_, _, _], _, permO, ret _ _ o' .mk (by simpa [l1] using r2) hso⟩
theorem off_nodup {l : Led} (h : (l.map (·.1)).Nodup) : (((src, o) :: offL src l).map (·.1)).Nodup :=
  List.nodup_cons.mpr ⟨fun hm => by
    obtain ⟨p, hp, e⟩ := List.mem_map.mp hm
    exact offL_ne p hp e, (List.filter_sublist.map _).nodup h⟩
theorem GE.front {α : Type} {tt : Sem α} {K : α → Led → Prop} (S : ∀ o', Sw src o o' n (f o')) (h : GE w c sc m tt ((src, o) :: offL src n) (fun v n' => ∃ o', n' = (src, o') :: offL src n ∧ K v (f o'))) : GE w c sc m tt n K := fun s Q E F N q => by
  refine h s Q E F ⟨newsFront N.N ((S (W.listOf #[] 0)).upd N.D), off_nodup N.D⟩ fun v n' h' tk' ⟨o', e, k⟩ F' N' => ?_
  subst e
  exact q _ _ _ _ k F' (N.sw (S _) (newsBack N'.N ((S _).upd N.D)))
theorem take_g (ok : CxOk w c sc 1 8) (S : ∀ o', Sw src o o' n (f o')) (hs : SrcIs o) (h1 : IsI top v1) (ht : 0 < top) (ht2 : top ≤ 256) (ret : ∀ (z : Int) v o', IsI z v → 0 ≤ z → z < top → SrcIs o' → P v (f o')) : GE w c sc m (call (.ref 397) [.ref src, v1]) n P :=
  .front S (take_c ok hs h1 ht ht2 fun z v o' a1 a2 a3 a4 => ⟨o', rfl, ret z v o' a1 a2 a3 a4⟩)
theorem one_g (ok : CxOk w c sc 2 20) (S : ∀ o', Sw src o o' n (f o')) (hs : SrcIs o) (hm : (t, W.listOf vs.toArray kk) ∈ n) (hn : @Ne Nat t src) (h1 : 0 < vs.length) (h2 : vs.length ≤ 256)
    (ret : ∀ (v : Value) (i : Nat) o', i < vs.length → vs[i]? = some v → SrcIs o' → P v (f o')) : GE w c sc m (call (.ref 404) [.ref src, .ref t]) n P :=
  .front S (one_c ok hs (offL_mem hm hn) h1 h2 fun v i o' a1 a2 a3 => ⟨o', rfl, ret v i o' a1 a2 a3⟩)
theorem octets_g (ok : CxOk w c sc 2 20) (S : ∀ o', Sw src o o' n (f o')) (hs : SrcIs o) (h0 : IsI k v1) (h1 : 0 ≤ k ∧ k ≤ 100) (ret : ∀ (b : Array UInt8) t o', (b.size : Int) = k → SrcIs o' → P (.bytes b t) (f o')) : GE w c sc m (call (.ref 430) [.ref src, v1]) n P := by
  obtain ⟨k, rfl⟩ := Int.eq_ofNat_of_zero_le h1.1
  exact .front S (octets_c ok hs (by omega) h0 fun b v o' ⟨t, e⟩ a2 a3 => ⟨o', rfl, e ▸ ret b t o' (by omega) a3⟩)
theorem one_h {src a : Addr} {o : Obj} {f : Obj → Led} {vs : List Value} {kk : Nat} (ok : CxOk w c sc 2 20) (S : ∀ o', Sw src o o' n (f o')) (hs : SrcIs o) (h1 : 0 < vs.length) (h2 : vs.length ≤ 256)
    (ret : ∀ (v : Value) (i : Nat) o', i < vs.length → vs[i]? = some v → SrcIs o' → P v ((a, W.listOf vs.toArray kk) :: f o')) : GE w c sc m (call (.ref 404) [.ref src, .ref a]) ((a, W.listOf vs.toArray kk) :: n) P := fun s Q E F N r =>
  one_g (f := fun o' => (a, W.listOf vs.toArray kk) :: f o') ok (fun o' => .tail (S o')) hs (.head _) (fun e => (List.nodup_cons.mp N.D).1 (by show a ∈ _; rw [show a = src from e]; exact (S o).mem)) h1 h2 ret s Q E F N r
end
end
section
section
variable {w : World} {P : Params} {T : Nat → Tok} {most : Int} {lr lr' : Addr}
theorem i123_rows : AttrIn w 123 (Str.ofString "rows") := ⟨_, by k_is, by k_is, by k_is, by k_is⟩
theorem i123_most : AttrIn w 123 (Str.ofString "most") := ⟨_, by k_is, by k_is, by k_is, by k_is⟩
theorem s123_rows : SetIn w 123 (Str.ofString "rows") := ⟨by k_is, by k_is, by k_is, by k_is⟩
theorem ho_rows : ObjAt (Str.ofString "rows") (hoObj P T most lr) (.ref lr) := ⟨_, _, rfl, rfl, rfl⟩
theorem ho_most : ObjAt (Str.ofString "most") (hoObj P T most lr) (.int most (T 2)) := ⟨_, _, rfl, rfl, rfl⟩
theorem hos_rows : PutAt P (Str.ofString "rows") (.ref lr') (hoObj P T most lr) (hoObj P T most lr') := fun tok => ⟨_, _, _, _, rfl, rfl, rfl, rfl, Nat.le_of_ble_eq_true rfl⟩
end
structure FillG (b e : Nat) (rows : List (Nat × Nat)) (im : Led) (i : Nat) (vf vr : List Value) (new : Led) : Prop where
  F : AllAre (PairIs (new ++ im)) vf (fillF b e (rows.take i))
  R : AllAre (PairIs (new ++ im)) vr (fillR b e (rows.take i))
theorem FillG.step {b e lo hi : Nat} {rows : List (Nat × Nat)} {im new ns : Led} {i : Nat} {vf vr fa ra : List Value} {xf xr : List (Nat × Nat)} (J : FillG b e rows im i vf vr new) (hx : rows[i]? = some (lo, hi))
    (ef : (if max lo b < min hi e then [(max lo b, min hi e)] else []) = xf) (er : (if max lo b < min hi e then (if lo < max lo b then [(lo, max lo b)] else []) ++ (if min hi e < hi then [(min hi e, hi)] else []) else [(lo, hi)]) = xr)
    (af : AllAre (PairIs ns) fa xf) (ar : AllAre (PairIs ns) ra xr) : FillG b e rows im (i + 1) (vf ++ fa) (vr ++ ra) (ns ++ new) where
  F := by
    rw [fillF_at hx, ef, List.append_assoc]
    exact AllAre.app (af.imp (PairIs.mono fun _ h => List.mem_append_left _ h)) (J.F.imp (PairIs.back ns))
  R := by
    rw [fillR_at hx, er, List.append_assoc]
    exact AllAre.app (ar.imp (PairIs.mono fun _ h => List.mem_append_left _ h)) (J.R.imp (PairIs.back ns))
theorem lenS {vs : List Value} {x : Value} (h : vs.length ≤ 2000) : (vs ++ [x]).length ≤ 1000000 := by rw [List.length_append]; exact Nat.le_trans (Nat.add_le_add_right h 1) (by decide)
theorem pairG {led : Led} {t : Addr} {k : Nat} {v3 v4 : Value} {i j : Int} {x : Nat × Nat} (h3 : IsI i v3) (h4 : IsI j v4) (e1 : i = (x.1 : Int)) (e2 : j = (x.2 : Int)) (h : (t, tupOf #[v3, v4] k) ∈ led) : PairIs led (.ref t) x := by
  obtain ⟨u, rfl⟩ := h3
  obtain ⟨u', rfl⟩ := h4
  subst e1 e2
  exact ⟨t, k, u, u', rfl, h⟩
theorem fill_g {w : World} {c : Cx} {sc : Scope} {m : Nms} {n im : Led} {P : Value → Led → Prop} {hx hdx lr : Addr} {Tk : Nat → Tok} {most : Int} {vs : List Value} {k : Nat} {rows : List (Nat × Nat)} {b e : Nat} {v1 v2 : Value} (g : Addr → Led)
    (ok : CxOk w c sc 2 30) (him : Ext im n) (hx1 : (hx, instObj 123 hdx) ∈ n) (ho : (hdx, hoObj w.params Tk most lr) ∈ n) (S : ∀ lr', Sw hdx (hoObj w.params Tk most lr) (hoObj w.params Tk most lr') n (g lr')) (hl1 : (lr, W.listOf vs.toArray k) ∈ n) (hr1 : AllAre (PairIs im) vs rows) (hlen : rows.length ≤ 1000)
    (h1 : IsI (b : Int) v1) (h2 : IsI (e : Int) v2)
    (ret : ∀ (lf lr' : Addr) (vf vr : List Value) (nf nr : Nat) (new nx : Led), (lf, W.listOf vf.toArray nf) ∈ new → (lr', W.listOf vr.toArray nr) ∈ new → AllAre (PairIs (new ++ im)) vf (fillF b e rows) → AllAre (PairIs (new ++ im)) vr (fillR b e rows) → nx = new ++ g lr' → P (.ref lf) nx) :
    GE w c sc m (call (.ref 99) [.ref hx, v1, v2]) n P := by
  refine' g_enter (d := 1) (u := 27) [(Str.ofString "self", .ref hx), (Str.ofString "begin", v1), (Str.ofString "end", v2)] (by exact rfl) (ok.le rfl rfl) (by k_is) (by k_is) (by intro s; exact BindsTo.of_eq rfl) (by exact rfl) (by exact rfl) ?_
  intro c' ok'
  refine gs_let rfl rfl (ge_list ok' (ga_nil ⟨rfl, fun lf => ?_⟩))
  refine gs_let rfl rfl (ge_list ok' (ga_nil ⟨rfl, fun lr2 => ?_⟩))
  refine gs_for (ge_v (ev_attr ok' (by walk_at "nm") rfl (by walk_at "mm") (by walk_at "mm") i123_rows ho_rows Is.mk) ?_)
  have hlv := hr1.len
  refine' ForL.mk (α := (List Value × Nat) × (List Value × Nat) × Led) (l := lr) (its := vs.toArray) (nn := k) (fun a => a.2.2 ++ (lr2, W.listOf a.2.1.1.toArray a.2.1.2) :: (lf, W.listOf a.1.1.toArray a.1.2) :: n)
    (fun p a => a.2.2 ++ p :: (lr2, W.listOf a.2.1.1.toArray a.2.1.2) :: (lf, W.listOf a.1.1.toArray a.1.2) :: n)
    (fun i m a => All6 (m (Str.ofString "found") = some (.ref lf)) (m (Str.ofString "rows") = some (.ref lr2)) (m (Str.ofString "self") = some (.ref hx)) (m (Str.ofString "begin") = some v1) (m (Str.ofString "end") = some v2) (FillG b e rows im i a.1.1 a.2.1.1 a.2.2))
    (([], 0), ([], 0), []) rfl rfl (fun _ _ => List.perm_middle) (fun _ => List.mem_append_right _ (.tail _ (.tail _ hl1))) ⟨by walk_at "nm", by walk_at "nm", by walk_at "nm", by walk_at "nm", by walk_at "nm", trivial, trivial⟩ ?_ ?_
  · intro i v m₁ ⟨⟨vf, nf⟩, ⟨vr, nr⟩, new⟩ p hv ⟨m1, m2, m3, m4, m5, J⟩
    dsimp only at J ⊢
    obtain ⟨⟨lo, hi⟩, hx2, t, nt, u, u', rfl, ht⟩ := hr1.at (by simpa using hv)
    dsimp only at ht
    refine gu_tup2 (List.mem_append_right _ (.tail _ (.tail _ (.tail _ (him _ ht))))) rfl rfl ?_
    refine gs_let rfl rfl (ge_ev (by walk_at "ev") fun v3 h3 => ?_)
    refine gs_let rfl rfl (ge_ev (by walk_at "ev") fun v4 h4 => ?_)
    have hlF := J.F.len
    have hlR := J.R.len
    have q1 := fillF_len b e (rows.take i)
    have q2 := fillR_len b e (rows.take i)
    rw [List.length_take] at q1 q2
    have hzF : vf.length ≤ 1000000 := fillZ (k := 1) hlF (by rw [Nat.one_mul]; exact q1) hlen (by decide)
    have hzR : vr.length ≤ 1000000 := fillZ (k := 2) hlR q2 hlen (by decide)
    have hzR1 : vr.length ≤ 2000 := fillZ2 hlR q2 hlen
    clear hlF hlR q1 q2
    refine gs_if0 (by walk_at "evt") (fun hc => ?_) fun hc => ?_
    · refine gs_expr rfl (ge_bmeth (by walk_at "ev") (bm_append ok' (by walk_at "mm")) (ga_cons (ge_tuple ok' (ga_v (by walk_at "ev") (ga_v (by walk_at "ev") (ga_nil ⟨rfl, fun t1 => ga_nil (ge_append (by walk_at "sw") (by walk_at "lz") ?_)⟩))))))
      refine gs_cont (rk_cont (tk_cont ((vf, nf), (vr ++ [.ref t1], nr + 1), (t1, _) :: new) ⟨by walk_at "nm", by walk_at "nm", by walk_at "nm", by walk_at "nm", by walk_at "nm", ?_⟩))
      have := J.step (ns := [(t1, tupOf #[.int (lo : Int) u, .int (hi : Int) u'] 0)]) (fa := []) hx2 (if_neg (fillC0 hc)) (if_neg (fillC0 hc)) .no (.one (pairG IsI.mk IsI.mk rfl rfl (.head _)))
      rwa [List.append_nil] at this
    refine gs_expr rfl (ge_bmeth (by walk_at "ev") (bm_append ok' (by walk_at "mm")) (ga_cons (ge_tuple ok' (ga_v (by walk_at "ev") (ga_v (by walk_at "ev") (ga_nil ⟨rfl, fun t1 => ga_nil (ge_append (by walk_at "sw") (by walk_at "lz") ?_)⟩))))))
    have e3 : (if (b : Int) > (lo : Int) then (b : Int) else (lo : Int)) = ((max lo b : Nat) : Int) := fillMax
    have e4 : (if (e : Int) < (hi : Int) then (e : Int) else (hi : Int)) = ((min hi e : Nat) : Int) := fillMin
    refine gs_if0 (by walk_at "evt") (fun h5 => ?_) fun h5 => ?_
    · refine gs_expr rfl (ge_bmeth (by walk_at "ev") (bm_append ok' (by walk_at "mm")) (ga_cons (ge_tuple ok' (ga_v (by walk_at "ev") (ga_v (by walk_at "ev") (ga_nil ⟨rfl, fun t2 => ga_nil (ge_append (by walk_at "sw") (by walk_at "lz") ?_)⟩))))))
      refine gs_nil (rk_next (gs_if0 (by walk_at "evt") (fun h6 => ?_) fun h6 => ?_))
      · refine gs_expr rfl (ge_bmeth (by walk_at "ev") (bm_append ok' (by walk_at "mm")) (ga_cons (ge_tuple ok' (ga_v (by walk_at "ev") (ga_v (by walk_at "ev") (ga_nil ⟨rfl, fun t3 => ga_nil (ge_append (by walk_at "sw") (by walk_at "lz") ?_)⟩))))))
        refine gs_nil (rk_next (gs_nil (tk_next ((vf ++ [.ref t1], nf + 1), (vr ++ [.ref t2] ++ [.ref t3], nr + 1 + 1), (t3, _) :: (t2, _) :: (t1, _) :: new) ⟨by walk_at "nm", by walk_at "nm", by walk_at "nm", by walk_at "nm", by walk_at "nm", ?_⟩)))
        rw [List.append_assoc vr]
        exact J.step (ns := [_, _, _]) (xf := [(max lo b, min hi e)]) (xr := [(lo, max lo b), (min hi e, hi)]) hx2 (if_pos (fillC1 hc)) ((if_pos (fillC1 hc)).trans (by rw [if_pos (fillC2 h5), if_pos (fillC3 h6)]; rfl)) (.one (pairG h3 h4 e3 e4 (.tail _ (.tail _ (.head _))))) (.two (pairG IsI.mk h3 rfl e3 (.tail _ (.head _))) (pairG h4 IsI.mk e4 rfl (.head _)))
      · refine gs_nil (tk_next ((vf ++ [.ref t1], nf + 1), (vr ++ [.ref t2], nr + 1), (t2, _) :: (t1, _) :: new) ⟨by walk_at "nm", by walk_at "nm", by walk_at "nm", by walk_at "nm", by walk_at "nm", ?_⟩)
        exact J.step (ns := [_, _]) (xf := [(max lo b, min hi e)]) (xr := [(lo, max lo b)]) hx2 (if_pos (fillC1 hc)) ((if_pos (fillC1 hc)).trans (by rw [if_pos (fillC2 h5), if_neg (fillN3 h6)]; rfl)) (.one (pairG h3 h4 e3 e4 (.tail _ (.head _)))) (.one (pairG IsI.mk h3 rfl e3 (.head _)))
    · refine gs_if0 (by walk_at "evt") (fun h6 => ?_) fun h6 => ?_
      · refine gs_expr rfl (ge_bmeth (by walk_at "ev") (bm_append ok' (by walk_at "mm")) (ga_cons (ge_tuple ok' (ga_v (by walk_at "ev") (ga_v (by walk_at "ev") (ga_nil ⟨rfl, fun t2 => ga_nil (ge_append (by walk_at "sw") (by walk_at "lz") ?_)⟩))))))
        refine gs_nil (rk_next (gs_nil (tk_next ((vf ++ [.ref t1], nf + 1), (vr ++ [.ref t2], nr + 1), (t2, _) :: (t1, _) :: new) ⟨by walk_at "nm", by walk_at "nm", by walk_at "nm", by walk_at "nm", by walk_at "nm", ?_⟩)))
        exact J.step (ns := [_, _]) (xf := [(max lo b, min hi e)]) (xr := [(min hi e, hi)]) hx2 (if_pos (fillC1 hc)) ((if_pos (fillC1 hc)).trans (by rw [if_neg (fillN2 h5), if_pos (fillC3 h6)]; rfl)) (.one (pairG h3 h4 e3 e4 (.tail _ (.head _)))) (.one (pairG h4 IsI.mk e4 rfl (.head _)))
      · refine gs_nil (tk_next ((vf ++ [.ref t1], nf + 1), (vr, nr), (t1, _) :: new) ⟨by walk_at "nm", by walk_at "nm", by walk_at "nm", by walk_at "nm", by walk_at "nm", ?_⟩)
        have := J.step (ns := [(t1, tupOf #[v3, v4] 0)]) (ra := []) (xf := [(max lo b, min hi e)]) (xr := []) hx2 (if_pos (fillC1 hc)) ((if_pos (fillC1 hc)).trans (by rw [if_neg (fillN2 h5), if_neg (fillN3 h6)]; rfl)) (.one (pairG h3 h4 e3 e4 (.head _))) .no
        rwa [List.append_nil] at this
  · intro m₁ ⟨⟨vf, nf⟩, ⟨vr, nr⟩, new⟩ ⟨m1, m2, m3, m4, m5, J⟩
    dsimp only at J ⊢
    refine gs_seta ok' rfl rfl (ge_v (by walk_at "ev") (.mk m3 (by walk_at "mm") (by walk_at "mm") s123_rows hos_rows (Sw.right (Sw.tail (Sw.tail (S lr2)))) ?_))
    refine gs_ret (ge_v (by walk_at "ev") ?_)
    have hsz : rows.take vs.toArray.size = rows := by rw [List.size_toArray, hlv, List.take_length]
    exact ret lf lr2 vf vr nf nr (new ++ [(lr2, _), (lf, _)]) _ (List.mem_append_right _ (.tail _ (.head _))) (List.mem_append_right _ (.head _)) ((hsz ▸ J.F : AllAre _ vf (fillF b e rows)).imp (PairIs.mono fun p hp => (List.mem_append.mp hp).elim (fun h => List.mem_append_left _ (List.mem_append_left _ h)) fun h => List.mem_append_right _ h)) ((hsz ▸ J.R : AllAre _ vr (fillR b e rows)).imp (PairIs.mono fun p hp => (List.mem_append.mp hp).elim (fun h => List.mem_append_left _ (List.mem_append_left _ h)) fun h => List.mem_append_right _ h)) (by rw [List.append_assoc]; rfl)
end
section
section
variable {w : World} {c : Cx} {sc : Scope} {m : Nms} {n im : Led} {d u : Nat} {P : Value → Led → Prop} {hx hdx lr : Addr} {Tk : Nat → Tok} {most : Nat} {vs : List Value} {k : Nat} {rows : List (Nat × Nat)}
theorem ho_whole_g (ok : CxOk w c sc 2 30) (hx1 : (hx, instObj 123 hdx) ∈ n) (hd1 : (hdx, hoObj w.params Tk most lr) ∈ n) (hl1 : (lr, W.listOf vs.toArray k) ∈ n) (hr1 : AllAre (PairIs im) vs rows) (ret : P (.bool (decide (rows.length = 0))) n) : GE w c sc m (call (.ref 120) [.ref hx]) n P := by
  refine GE.fin ?_
  refine' g_enter (d := 1) (u := 27) [(Str.ofString "self", .ref hx)] (by exact rfl) (ok.le rfl rfl) (by k_is) (by k_is) (by intro s; exact BindsTo.of_eq rfl) (by exact rfl) (by exact rfl) ?_
  intro c' ok'
  refine gs_ret (ge_cmp (ge_v (by walk_at "ev") (ge_list ok' (ga_nil ⟨rfl, fun D => ge_eqNil ok' (.tail _ hl1) (.head _) ?_⟩))))
  rw [hr1.len]
  exact ⟨[_], _, .refl _, ret⟩
theorem ev_itemLast {e1 : PySem.Expr} {l : Addr} {v : Value} {P : Value → Prop} {pk : Nat} {p1 p2 pos : Pos} (a : EvP w c sc m n e1 (Is (.ref l))) (hm : (l, W.listOf vs.toArray k) ∈ n) (hx : vs.getLast? = some v) (hp : P v)
    (hs : ∀ l u, subscripted (.UnaryOp .USub (.Constant (.int 1) pk p1) p2) false (.ref l) (.int (-1) u) = operate [.ref l, .int (-1) u] (getItem (.ref l) (.int (-1) u)) := by intro _ _; with_unfolding_all rfl) : EvP w c sc m n (.Subscript e1 (.UnaryOp .USub (.Constant (.int 1) pk p1) p2) pos) P := fun s Q E F N r =>
  Subscript_ (a s _ E F N fun v1 h1 tk1 q1 F N => (ev_neg ev_int) _ _ E F N fun v2 h2 tk2 q2 F N => by
    obtain rfl : v1 = _ := q1
    obtain ⟨t, rfl⟩ := q2
    have hl : Heap.IsList _ l vs.toArray := ⟨_, N.N.get hm, rfl, _, rfl⟩
    have hne : 0 < vs.length := by
      rcases vs with _ | ⟨v, r⟩
      · simp at hx
      · simp
    refine tail_any hl.typeIs slot_list_getitem.lookup (wpAny_getItem_list_neg hl (by decide) (by rw [List.size_toArray]; omega) (by decide) ?_ (r _ _ _ hp F N)) (hs _ _)
    rw [List.size_toArray, show ((-1 : Int) + (vs.length : Nat)).toNat = vs.length - 1 by omega, List.getElem?_toArray, ← List.getLast?_eq_getElem?]
    exact hx)
theorem ho_reach_g (ok : CxOk w c sc 2 30) (him : Ext im n) (hx1 : (hx, instObj 123 hdx) ∈ n) (hd1 : (hdx, hoObj w.params Tk most lr) ∈ n) (hl1 : (lr, W.listOf vs.toArray k) ∈ n) (hr1 : AllAre (PairIs im) vs rows) (ret : ∀ v, IsI (reachV rows most : Int) v → P v n) : GE w c sc m (call (.ref 113) [.ref hx]) n P := by
  refine' g_enter (d := 1) (u := 27) [(Str.ofString "self", .ref hx)] (by exact rfl) (ok.le rfl rfl) (by k_is) (by k_is) (by intro s; exact BindsTo.of_eq rfl) (by exact rfl) (by exact rfl) ?_
  intro c' ok'
  rcases hr1.last with ⟨rfl, rfl⟩ | ⟨v, ⟨lo, hi⟩, hv, hw, t, n', u, u', rfl, ht⟩
  · refine gs_ifF0 (evt_and (b := false) (q := false) (evt_neNil ok' (by walk_at "ev") hl1) (fun h => Bool.noConfusion h)) ?_
    exact gs_ret (ge_ev (P := IsI (most : Int)) (by walk_at "ev") fun v hv => ret v hv)
  · have ht := him _ ht
    have hz : (!decide (vs.length = 0)) = true := by cases vs with
      | nil => cases hv
      | cons _ _ => rfl
    have e : reachV rows most = if hi = most then lo else most := by unfold reachV; rw [hw]
    refine gs_if0 (p := (hi : Int) = (most : Int)) ((evt_and (evt_neNil ok' (by walk_at "ev") hl1) (fun _ => ev_cmp (ev_itemT (ev_itemLast (by walk_at "ev") hl1 hv .mk) ht (by exact rfl) IsI.mk) (by walk_at "ev") cp_eq)).to (by rw [hz, Bool.true_and]; exact Bool.eq_iff_iff.mpr (by rw [beq_iff_eq, decide_eq_true_iff]))) (fun q => ?_) fun q => ?_
    · refine gs_ret (ge_ev (ev_itemT (ev_itemLast (by walk_at "ev") hl1 hv .mk) ht (by exact rfl) IsI.mk) fun v hv => rk_ret (ret v (hv.to ?_)))
      rw [e, if_pos (by omega)]
    · refine gs_ret (ge_ev (P := IsI (most : Int)) (by walk_at "ev") fun v hv => ret v (hv.to ?_))
      rw [e, if_neg (by omega)]
theorem ev_chain2 {e1 e2 e3 : PySem.Expr} {P1 P2 P3 : Value → Prop} {op op' : CmpOp} {p q : Bool} {pos : Pos} (a : EvP w c sc m n e1 P1) (b : EvP w c sc m n e2 P2) (d : EvP w c sc m n e3 P3) (k1 : Cp w op P1 P2 p) (k2 : Cp w op' P2 P3 q) (hm : lastMarks [op, op'] [e2, e3] = false := by with_unfolding_all rfl) : EvP w c sc m n (.Compare e1 [op, op'] [e2, e3] pos) (Is (.bool (p && q))) := fun s Q E F N r =>
  Compare_chain (a s _ E F N fun v1 _ _ p1 F N => chain_link (b _ _ E F N fun v2 _ _ p2 F N => k1 v1 v2 p1 p2 _ _ _ _ fun tk' => wpAny_truthy_bool (by
    cases p with
    | false => exact r _ _ _ .mk F N
    | true => exact chain_last (d _ _ E F N fun v3 _ _ p3 F N => k2 v2 v3 p2 p3 _ _ _ _ fun tk' => r _ _ _ .mk F N)))) hm
theorem ev_and3 {e1 e2 e3 : PySem.Expr} {b q r : Bool} {pos : Pos} (a : EvP w c sc m n e1 (Is (.bool b))) (k : b = true → EvP w c sc m n e2 (Is (.bool q))) (k2 : b = true → q = true → EvP w c sc m n e3 (Is (.bool r))) : EvP w c sc m n (.BoolOp .And [e1, e2, e3] pos) (Is (.bool (b && (q && r)))) := fun s Q E F N z =>
  BoolOp_and (a s _ E F N fun v h' tk' h F N => by
    obtain rfl : v = _ := h
    refine wpAny_truthy_bool ?_
    cases b with
    | false => exact z _ _ _ .mk F N
    | true =>
      exact BoolOp_and (k rfl _ _ E F N fun v h' tk' h F N => by
        obtain rfl : v = _ := h
        refine wpAny_truthy_bool ?_
        cases q with
        | false => exact z _ _ _ .mk F N
        | true => exact BoolOp_one (k2 rfl rfl _ _ E F N fun v h' tk' h F N => z _ _ _ h F N)))
variable {x dd lp : Addr} {TT : Nat → Tok} {began : Int} {ev fv : Value} {ahead size : Nat} {vr : List Value} {nr : Nat} {en : Option Nat}
theorem optHand (h : OptIs ev en) : handedIn ev = true := by
  cases en with
  | none => obtain rfl : ev = .none := h; rfl
  | some z => obtain ⟨t, rfl⟩ := h; rfl
theorem firstHand {P : Params} {i : Int} {fo : Option HdS} (h : FirstIs P im i fv fo) : handedIn fv = true := by
  cases fo with
  | none => obtain rfl : fv = .none := h; rfl
  | some z => obtain ⟨t, rfl, -⟩ := h; rfl
theorem m123_reach : MethIn w 123 (Str.ofString "reach") 113 := ⟨by k_is, by k_is, by k_is, by k_is⟩
theorem m123_whole : MethIn w 123 (Str.ofString "is_whole") 120 := ⟨by k_is, by k_is, by k_is, by k_is⟩
theorem hn_reach {P : Params} : ObjNo (Str.ofString "reach") (hoObj P Tk (most : Nat) lr) := ⟨_, _, rfl, rfl⟩
theorem hn_whole {P : Params} : ObjNo (Str.ofString "is_whole") (hoObj P Tk (most : Nat) lr) := ⟨_, _, rfl, rfl⟩
theorem dg_whole_g {fo : Option HdS} {i : Int} (ok : CxOk w c sc 3 60) (hx1 : (x, instObj 177 dd) ∈ n) (hd1 : (dd, dgObj w.params TT began most hx lp ev ahead fv size) ∈ n) (hh1 : (hx, instObj 123 hdx) ∈ n) (ho1 : (hdx, hoObj w.params Tk most lr) ∈ n) (hl1 : (lr, W.listOf vr.toArray nr) ∈ n)
    (hr1 : AllAre (PairIs im) vr rows) (him : Ext im n) (hen : OptIs ev en) (hfo : FirstIs w.params im i fv fo) (ret : P (.bool (en.isSome && (fo.isSome && decide (rows.length = 0)))) n) : GE w c sc m (call (.ref 162) [.ref x]) n P := by
  refine' g_enter (d := 2) (u := 57) [(Str.ofString "self", .ref x)] (by exact rfl) (ok.le rfl rfl) (by k_is) (by k_is) (by intro s; exact BindsTo.of_eq rfl) (by exact rfl) (by exact rfl) ?_
  intro c' ok'
  have he := optHand hen
  have hf := firstHand hfo
  refine gs_ret (ge_v (ev_and3 (ev_cmpV (P1 := Is ev) (P2 := Is .none) (by walk_at "ev") ev_none (b := en.isSome) ?_) (fun _ => ev_cmpV (P1 := Is fv) (P2 := Is .none) (by walk_at "ev") ev_none (b := fo.isSome) ?_) fun _ _ => .of (ge_meth0 ok' (by walk_at "ev") hh1 ho1 m123_whole hn_whole (ho_whole_g (im := im) (ok'.le rfl rfl) hh1 ho1 hl1 hr1 ⟨.mk, rfl⟩))) ret)
  · cases en with
    | none => obtain rfl : ev = .none := hen; exact cp_isn_nn
    | some z => obtain ⟨t, rfl⟩ := hen; exact cp_isn_in
  · cases fo with
    | none => obtain rfl : fv = .none := hfo; exact cp_isn_nn
    | some z => obtain ⟨t, rfl, -⟩ := hfo; exact cp_isn_rn
theorem against_g {b e : Nat} {mo : Bool} {v1 v2 : Value} (ok : CxOk w c sc 3 60) (hx1 : (x, instObj 177 dd) ∈ n) (hd1 : (dd, dgObj w.params TT began most hx lp ev ahead fv size) ∈ n) (hh1 : (hx, instObj 123 hdx) ∈ n) (ho1 : (hdx, hoObj w.params Tk most lr) ∈ n) (hl1 : (lr, W.listOf vr.toArray nr) ∈ n)
    (hr1 : AllAre (PairIs im) vr rows) (him : Ext im n) (hen : OptIs ev en) (h1 : IsI (b : Int) v1) (h2 : IsI (e : Int) v2) (ret : P (.bool (against most rows en ahead e mo)) n) : GE w c sc m (call (.ref 148) [.ref x, v1, v2, .bool mo]) n P := by
  refine' g_enter (d := 2) (u := 57) [(Str.ofString "self", .ref x), (Str.ofString "begin", v1), (Str.ofString "end", v2), (Str.ofString "more", .bool mo)] (by exact rfl) (ok.le rfl rfl) (by k_is) (by k_is) (by intro s; exact BindsTo.of_eq rfl) (by exact rfl) (by exact rfl) ?_
  intro c' ok'
  have he := optHand hen
  refine gs_if0 (p := (most : Int) < (e : Int)) (ev_cmp (P1 := IsI (e : Int)) (P2 := IsI (most : Int)) (by walk_at "ev") (by walk_at "ev") cp_gt) (fun hc => ?_) fun hc => ?_
  · rw [against.eq_def, if_pos (by omega)] at ret
    exact gs_ret (ge_v ev_bool (rk_ret ret))
  rw [against.eq_def, if_neg (by omega)] at ret
  refine gs_ifb0 (ev_tb rfl (ev_name (v := .bool mo) (by walk_at "nm") rfl .mk)) (fun hm => ?_) fun hm => ?_
  · rw [if_pos hm] at ret
    cases en with
    | none => obtain rfl : ev = .none := hen; exact gs_ret (ge_v (ev_and (b := false) (q := false) (ev_cmpV (P1 := Is .none) (P2 := Is .none) (by walk_at "ev") ev_none cp_isn_nn) fun h => Bool.noConfusion h) (rk_ret ret))
    | some z => obtain ⟨t, rfl⟩ := hen; exact gs_ret (ge_v (ev_and (b := true) (q := decide ((z : Int) ≤ (e : Int))) (ev_cmpV (P1 := Is (.int (z : Int) t)) (P2 := Is .none) (by walk_at "ev") ev_none cp_isn_in) fun h => ev_cmpV (P1 := IsI (e : Int)) (P2 := IsI (z : Int)) (by walk_at "ev") (by walk_at "ev") cp_ge) (rk_ret (by rw [Bool.true_and, decide_eq_decide.mpr Int.ofNat_le]; exact ret)))
  · rw [if_neg (by rw [hm]; decide)] at ret
    cases en with
    | some z =>
      obtain ⟨t, rfl⟩ := hen
      refine gs_ifb0 (b := true) (ev_cmp (P1 := Is (.int (z : Int) t)) (P2 := Is .none) (by walk_at "ev") ev_none cp_isn_in) (fun _ => ?_) fun h => Bool.noConfusion h
      refine gs_ret (ge_v (ev_cmpV (P1 := IsI (e : Int)) (P2 := IsI (z : Int)) (by walk_at "ev") (by walk_at "ev") cp_ne) (rk_ret ?_))
      have q : ((e : Int) != (z : Int)) = decide (e ≠ z) := by rw [Bool.eq_iff_iff, bne_iff_ne, decide_eq_true_iff]; omega
      rw [q]
      exact ret
    | none =>
      obtain rfl : ev = .none := hen
      refine gs_ifF0 (ev_cmp (P1 := Is .none) (P2 := Is .none) (by walk_at "ev") ev_none cp_isn_nn) ?_
      refine gs_ret (ge_v (ev_or (ev_cmpV (P1 := IsI (reachV rows most : Int)) (P2 := IsI (e : Int)) (.of (ge_meth0 ok' (by walk_at "ev") hh1 ho1 m123_reach hn_reach (ho_reach_g (ok'.le rfl rfl) him hh1 ho1 hl1 hr1 fun v hv => ⟨hv, rfl⟩))) (by walk_at "ev") cp_gt) fun _ => ev_chain2 (P1 := IsI (ahead : Int)) (P2 := IsI (e : Int)) (P3 := IsI 0) (by walk_at "ev") (by walk_at "ev") (by walk_at "ev") cp_ge cp_gt) ?_)
      have q1 : decide ((e : Int) < (reachV rows most : Int)) = decide (e < reachV rows most) := decide_eq_decide.mpr Int.ofNat_lt
      have q2 : decide ((e : Int) ≤ (ahead : Int)) = decide (e ≤ ahead) := decide_eq_decide.mpr Int.ofNat_le
      have q3 : decide ((0 : Int) < (e : Int)) = decide (0 < e) := decide_eq_decide.mpr Int.natCast_pos
      rw [q1, q2, q3]
      exact ret
end
end
section
section
variable {n : Led}
theorem perm7i {dd hdx lp lr tp hx x : Addr × Obj} : (lp :: lr :: tp :: hx :: hdx :: x :: dd :: n).Perm (x :: dd :: lp :: lr :: tp :: hx :: hdx :: n) :=
  (List.perm_append_comm (l₁ := [lp, lr, tp, hx, hdx]) (l₂ := [x, dd])).append_right n
theorem perm7j {dd hdx lp lr tp hx x : Addr × Obj} : (x :: dd :: lp :: lr :: tp :: hx :: hdx :: n).Perm ([] ++ (dd :: hdx :: lp :: lr :: tp :: hx :: x :: n)) :=
  (List.perm_append_comm (l₁ := [x]) (l₂ := [dd, lp, lr, tp, hx, hdx])).append_right n |>.trans (.cons _ ((List.perm_append_comm (l₁ := [lp, lr, tp, hx]) (l₂ := [hdx])).append_right (x :: n)))
end
section
variable {w : World} {c : Cx} {sc : Scope} {m : Nms} {n : Led} {d u : Nat} {v1 v2 : Value} {P : Value → Led → Prop}
theorem ho_make_g {most : Nat} (ok : CxOk w c sc 2 30) (h1 : IsI (most : Int) v1) (ret : ∀ (hx hdx lr tp : Addr) (Tk : Nat → Tok) (n1 k : Nat) (u u' : Tok), P (.ref hx) ((lr, W.listOf [Value.ref tp].toArray n1) :: (tp, tupOf #[.int (0 : Nat) u, .int (most : Int) u'] k) :: (hx, instObj 123 hdx) :: (hdx, hoObj w.params Tk most lr) :: n)) : GE w c sc m (call (.ref 123) [v1]) n P := by
  obtain ⟨t1, rfl⟩ := h1
  refine' g_make (d := 0) (u := 10) (fun x => [(Str.ofString "self", .ref x), (Str.ofString "most", .int (most : Int) t1)]) (fun _ => by exact rfl) ok (by k_is) (by k_is) (by k_is) (by k_is) (by k_is) (by intro x s X; first | exact BindsTo.of_eq rfl | exact binds_K X rfl (by k_is) rfl rfl rfl) (fun _ => by exact rfl) (by exact rfl) ?_
  intro c' x dx ok'
  refine gs_init ok' rfl rfl (by walk_at "nm") ⟨by k_is, by k_is, by k_is, by k_is⟩ (by walk_at "ev") rfl (fun _ => rfl) rfl fun k0 => ?_
  refine gs_setN ok' rfl rfl (ge_list ok' (ga_cons (ge_tuple ok' (ga_i ev_int fun t0 => ga_v (by walk_at "ev") (ga_nil ⟨rfl, fun tp => ga_nil ⟨rfl, fun lr => ?_⟩⟩)))))
  refine .mk (by walk_at "nm") (.tail _ (.tail _ (.head _))) (f := fun o => (lr, W.listOf [Value.ref tp].toArray 0) :: (tp, tupOf _ 0) :: (x, instObj 123 dx) :: (dx, o) :: n) (fun _ => .tail (.tail (.tail .head))) ⟨by k_is, by k_is, by k_is, by k_is⟩ rfl (fun _ => rfl) rfl fun k1 => ?_
  exact gs_nil ⟨rfl, ret x dx lr tp (fun k => [k0, k1, t1].getD k 0) 0 0 t0 t1⟩
theorem dg_make_g {began : Int} {most : Nat} (ok : CxOk w c sc 4 60) (h1 : IsI began v1) (h2 : IsI (most : Int) v2)
    (ret : ∀ (x dd hx hdx lr tp lp : Addr) (TT Tk : Nat → Tok) (n1 k np : Nat) (u u' : Tok), P (.ref x) ((dd, dgObj w.params TT began most hx lp .none ((0 : Nat) : Int) .none ((0 : Nat) : Int)) :: (hdx, hoObj w.params Tk most lr) :: (lp, W.listOf [].toArray np) :: (lr, W.listOf [Value.ref tp].toArray n1) :: (tp, tupOf #[.int (0 : Nat) u, .int (most : Int) u'] k) :: (hx, instObj 123 hdx) :: (x, instObj 177 dd) :: n)) : GE w c sc m (call (.ref 177) [v1, v2]) n P := by
  obtain ⟨t1, rfl⟩ := h1
  obtain ⟨t2, rfl⟩ := h2
  refine GE.fin ?_
  refine' g_make (d := 2) (u := 40) (fun x => [(Str.ofString "self", .ref x), (Str.ofString "began", .int began t1), (Str.ofString "most", .int (most : Int) t2)]) (fun _ => by exact rfl) ok (by k_is) (by k_is) (by k_is) (by k_is) (by k_is) (by intro x s X; first | exact BindsTo.of_eq rfl | exact binds_K X rfl (by k_is) rfl rfl rfl) (fun _ => by exact rfl) (by exact rfl) ?_
  intro c' x dx ok'
  refine gs_init ok' rfl rfl (by walk_at "nm") ⟨by k_is, by k_is, by k_is, by k_is⟩ (by walk_at "ev") rfl (fun _ => rfl) rfl fun k0 => ?_
  refine gs_init ok' rfl rfl (by walk_at "nm") ⟨by k_is, by k_is, by k_is, by k_is⟩ (by walk_at "ev") rfl (fun _ => rfl) rfl fun k1 => ?_
  refine gs_setN ok' rfl rfl (ge_call ok' (by k_is) (by k_is) rfl (ga_v (by walk_at "ev") (ga_nil (ho_make_g (ok'.le rfl rfl) ⟨_, rfl⟩ fun hx hdx lr tp Tk n1 k9 u u' => ?_))))
  refine .mk (by walk_at "nm") (.tail _ (.tail _ (.tail _ (.tail _ (.head _))))) (f := fun o => (lr, W.listOf [Value.ref tp].toArray n1) :: (tp, tupOf _ k9) :: (hx, instObj 123 hdx) :: (hdx, hoObj w.params Tk most lr) :: (x, instObj 177 dx) :: (dx, o) :: n) (fun _ => .tail (.tail (.tail (.tail (.tail .head))))) ⟨by k_is, by k_is, by k_is, by k_is⟩ rfl (fun _ => rfl) rfl fun k2 => ?_
  refine gs_setN ok' rfl rfl (ge_list ok' (ga_nil ⟨rfl, fun lp => ?_⟩))
  refine .mk (by walk_at "nm") (.tail _ (.tail _ (.tail _ (.tail _ (.tail _ (.head _)))))) (f := fun o => (lp, W.listOf [].toArray 0) :: (lr, W.listOf [Value.ref tp].toArray n1) :: (tp, tupOf _ k9) :: (hx, instObj 123 hdx) :: (hdx, hoObj w.params Tk most lr) :: (x, instObj 177 dx) :: (dx, o) :: n) (fun _ => .tail (.tail (.tail (.tail (.tail (.tail .head)))))) ⟨by k_is, by k_is, by k_is, by k_is⟩ rfl (fun _ => rfl) rfl fun k3 => ?_
  refine GS.pp perm7i ?_
  refine gs_init ok' rfl rfl (by walk_at "nm") ⟨by k_is, by k_is, by k_is, by k_is⟩ ev_none rfl (fun _ => rfl) rfl fun k4 => ?_
  refine gs_setN ok' rfl rfl (ge_ev ev_int fun v6 h6 => ?_)
  obtain ⟨t6, rfl⟩ := h6
  refine .mk (by walk_at "nm") (.head _) (f := fun o => (x, instObj 177 dx) :: (dx, o) :: _) (fun _ => .tail .head) ⟨by k_is, by k_is, by k_is, by k_is⟩ rfl (fun _ => rfl) rfl fun k5 => ?_
  refine gs_init ok' rfl rfl (by walk_at "nm") ⟨by k_is, by k_is, by k_is, by k_is⟩ ev_none rfl (fun _ => rfl) rfl fun k6 => ?_
  refine gs_setN ok' rfl rfl (ge_ev ev_int fun v7 h7 => ?_)
  obtain ⟨t7, rfl⟩ := h7
  refine .mk (by walk_at "nm") (.head _) (f := fun o => (x, instObj 177 dx) :: (dx, o) :: _) (fun _ => .tail .head) ⟨by k_is, by k_is, by k_is, by k_is⟩ rfl (fun _ => rfl) rfl fun k7 => ?_
  exact gs_nil ⟨rfl, [], _, perm7j, ret x dx hx hdx lr tp lp (fun k => [k0, k1, k2, k3, k4, k5, k6, k7, t1, t2, t6, t7].getD k 0) Tk n1 k9 0 u u'⟩
end
end
section
section
variable {cmp : Nat → Nat → (Bool → Shared → Prop) → Shared → Prop} {key : Nat → Nat} {N : Nat} {s : Shared}
noncomputable def Tells (cmp : Nat → Nat → (Bool → Shared → Prop) → Shared → Prop) (key : Nat → Nat) (N : Nat) (s : Shared) : Prop :=
  ∀ i j C, i < N → j < N → key i ≠ key j → C (decide (key i < key j)) s → cmp i j C s
noncomputable def kAt (key : Nat → Nat) (p : Array Nat) (i : Nat) : Nat := key (p.getD i 0)
structure SOrd (key : Nat → Nat) (N : Nat) (p : Array Nat) : Prop where
  perm : p.toList.Perm (List.range N)
  inj : ∀ i j, i < N → j < N → key i = key j → i = j
theorem SOrd.size {p : Array Nat} (h : SOrd key N p) : p.size = N := by have := h.perm.length_eq; simpa using this
theorem SOrd.lt {p : Array Nat} (h : SOrd key N p) {i : Nat} (hi : i < N) : p.getD i 0 < N := by
  have hz := h.size
  have e : p.getD i 0 = p[i]'(by omega) := by simp [Array.getD, hz, hi]
  rw [e]
  have : p[i]'(by omega) ∈ List.range N := h.perm.mem_iff.mp (Array.getElem_mem_toList (by omega))
  exact List.mem_range.mp this
theorem SOrd.ne {p : Array Nat} (h : SOrd key N p) {i j : Nat} (hi : i < N) (hj : j < N) (hn : i ≠ j) : kAt key p i ≠ kAt key p j := by
  intro e
  have e2 := h.inj _ _ (h.lt hi) (h.lt hj) e
  have hz := h.size
  have nd : p.toList.Nodup := h.perm.nodup_iff.mpr List.nodup_range
  have a1 : p.getD i 0 = p.toList[i]'(by simpa [hz] using hi) := by simp [Array.getD, hz, hi]
  have a2 : p.getD j 0 = p.toList[j]'(by simpa [hz] using hj) := by simp [Array.getD, hz, hj]
  rw [a1, a2] at e2
  exact hn ((List.getElem_inj nd).mp e2)
theorem SOrd.of_perm {p q : Array Nat} (h : SOrd key N p) (hp : q.Perm p) : SOrd key N q := ⟨(Array.perm_iff_toList_perm.mp hp).trans h.perm, h.inj⟩
noncomputable def UpTo (key : Nat → Nat) (p : Array Nat) (k : Nat) : Prop := ∀ i j, i < j → j < k → kAt key p i < kAt key p j
noncomputable def DownTo (key : Nat → Nat) (p : Array Nat) (k : Nat) : Prop := ∀ i j, i < j → j < k → kAt key p j < kAt key p i
theorem UpTo.succ {p : Array Nat} {k : Nat} (h : UpTo key p k) (h0 : 1 ≤ k) (hk : kAt key p (k - 1) < kAt key p k) : UpTo key p (k + 1) := by
  intro i j hij hj
  by_cases hjk : j < k
  · exact h i j hij hjk
  · obtain rfl : j = k := by omega
    by_cases hi : i = j - 1
    · rw [hi]; exact hk
    · exact Nat.lt_trans (h i (j - 1) (by omega) (by omega)) hk
theorem DownTo.succ {p : Array Nat} {k : Nat} (h : DownTo key p k) (h0 : 1 ≤ k) (hk : kAt key p k < kAt key p (k - 1)) : DownTo key p (k + 1) := by
  intro i j hij hj
  by_cases hjk : j < k
  · exact h i j hij hjk
  · obtain rfl : j = k := by omega
    by_cases hi : i = j - 1
    · rw [hi]; exact hk
    · exact Nat.lt_trans hk (h i (j - 1) (by omega) (by omega))
theorem kAt_congr {p q : Array Nat} {i j : Nat} (h : p[i]? = q[j]?) : kAt key p i = kAt key q j := by
  unfold kAt
  rw [Array.getD_eq_getD_getElem?, Array.getD_eq_getD_getElem?, h]
theorem kAt_rev {p : Array Nat} {n : Nat} (hn : n ≤ p.size) (k : Nat) : kAt key (kas_rev p 0 n) k = if k < n then kAt key p (n - 1 - k) else kAt key p k := by
  have e := getElem?_mirror_all (xs := p) (i := 0) hn k
  unfold kas_rev
  by_cases h : k < n
  · rw [if_pos ⟨Nat.zero_le _, h⟩] at e
    rw [if_pos h]
    rw [kAt_congr e]
    congr 1
    omega
  · rw [if_neg (fun x => h x.2)] at e
    rw [if_neg h]
    exact kAt_congr e
theorem kas_rev_ord {p : Array Nat} {n : Nat} (h : SOrd key N p) : SOrd key N (kas_rev p 0 n) := h.of_perm (mirror_perm _ _ _ _)
theorem asc_ (T : Tells cmp key N s) {p : Array Nat} (O : SOrd key N p) {Q : Nat → Shared → Prop} : ∀ (f n : Nat), 1 ≤ n → n + f ≤ N → UpTo key p n →
    (∀ m, n ≤ m → m ≤ n + f → UpTo key p m → (m = n + f ∨ kAt key p m < kAt key p (m - 1)) → Q m s) → (kas_asc p f n).kasWp cmp Q s
  | 0, n, h1, hf, hu, h => h n (Nat.le_refl _) (Nat.le_refl _) hu (.inl rfl)
  | f + 1, n, h1, hf, hu, h => by
    refine T _ _ _ (O.lt (by omega)) (O.lt (by omega)) (O.ne (by omega) (by omega) (by omega)) ?_
    show KasT.kasWp cmp (if decide (kAt key p n < kAt key p (n - 1)) = true then _ else _) Q s
    by_cases hc : kAt key p n < kAt key p (n - 1)
    · rw [if_pos (by simpa using hc)]
      exact h n (Nat.le_refl _) (by omega) hu (.inr hc)
    · rw [if_neg (by simpa using hc)]
      have hne := O.ne (i := n) (j := n - 1) (by omega) (by omega) (by omega)
      refine asc_ T O f (n + 1) (by omega) (by omega) (hu.succ h1 (by omega)) fun m a b c d => h m (by omega) (by omega) c ?_
      rcases d with d | d
      · exact .inl (by omega)
      · exact .inr d
theorem desc_ (T : Tells cmp key N s) {p : Array Nat} (O : SOrd key N p) {Q : Array Nat × Nat × Nat → Shared → Prop} : ∀ (f n : Nat), 1 ≤ n → n + f ≤ N → DownTo key p n →
    (∀ m, n ≤ m → m ≤ n + f → DownTo key p m → Q (p, m, 0) s) → (kas_desc f p n 0).kasWp cmp Q s
  | 0, n, h1, hf, hu, h => h n (Nat.le_refl _) (Nat.le_refl _) hu
  | f + 1, n, h1, hf, hu, h => by
    refine T _ _ _ (O.lt (by omega)) (O.lt (by omega)) (O.ne (by omega) (by omega) (by omega)) ?_
    show KasT.kasWp cmp (if decide (kAt key p n < kAt key p (n - 1)) = true then _ else _) Q s
    by_cases hc : kAt key p n < kAt key p (n - 1)
    · rw [if_pos (by simpa using hc), if_neg (by omega)]
      exact desc_ T O f (n + 1) (by omega) (by omega) (hu.succ h1 hc) fun m a b c => h m (by omega) (by omega) c
    · rw [if_neg (by simpa using hc)]
      have hne := O.ne (i := n) (j := n - 1) (by omega) (by omega) (by omega)
      refine T _ _ _ (O.lt (by omega)) (O.lt (by omega)) (O.ne (by omega) (by omega) (by omega)) ?_
      show KasT.kasWp cmp (if decide (kAt key p (n - 1) < kAt key p n) = true then _ else _) Q s
      rw [if_pos (by simpa using (by omega : kAt key p (n - 1) < kAt key p n))]
      exact h n (Nat.le_refl _) (by omega) hu
theorem tail3_ (T : Tells cmp key N s) {p : Array Nat} (O : SOrd key N p) {n : Nat} {Q : Nat × Array Nat → Shared → Prop} (h1 : 1 ≤ n) (hn : n ≤ N) (hd : DownTo key p n)
    (h : ∀ m p', SOrd key N p' → 1 ≤ m → m ≤ N → UpTo key p' m → Q (m, p') s) : (kas_tail3 n N p).kasWp cmp Q s := by
  unfold kas_tail3
  rw [KasT.kasWp_bind]
  have hz := O.size
  refine asc_ T (kas_rev_ord O) (N - n) n h1 (by omega) ?_ fun m a b c _ => h m _ (kas_rev_ord O) (by omega) (by omega) c
  intro i j hij hj
  rw [kAt_rev (by omega), kAt_rev (by omega), if_pos (by omega), if_pos hj]
  exact hd _ _ (by omega) (by omega)
theorem descPart_ (T : Tells cmp key N s) {p : Array Nat} (O : SOrd key N p) {n : Nat} {Q : Nat × Array Nat → Shared → Prop} (hn : n + 1 ≤ N) (hd : DownTo key p (n + 1))
    (h : ∀ m p', SOrd key N p' → 1 ≤ m → m ≤ N → UpTo key p' m → Q (m, p') s) : (kas_descPart n N p).kasWp cmp Q s := by
  unfold kas_descPart
  rw [KasT.kasWp_bind]
  refine desc_ T O (N - (n + 1)) (n + 1) (by omega) (by omega) hd fun m a b c => ?_
  dsimp only
  rw [if_neg (by omega)]
  exact tail3_ T O (by omega) (by omega) c h
theorem count_ (T : Tells cmp key N s) {p : Array Nat} (O : SOrd key N p) {Q : Nat × Array Nat → Shared → Prop} (h1 : 1 ≤ N)
    (h : ∀ m p', SOrd key N p' → 1 ≤ m → m ≤ N → UpTo key p' m → Q (m, p') s) : (kas_count N p).kasWp cmp Q s := by
  unfold kas_count
  rw [KasT.kasWp_bind]
  refine asc_ T O (N - 1) 1 (by omega) (by omega) (fun i j _ _ => by omega) fun m a b c d => ?_
  by_cases hm : m = N
  · rw [if_pos (by simpa using hm)]
    exact h m p O (by omega) (by omega) c
  · rw [if_neg (by simpa using hm)]
    have d : kAt key p m < kAt key p (m - 1) := d.resolve_left (by omega)
    by_cases h2 : m > 1
    · rw [if_pos h2]
      refine T _ _ _ (O.lt (by omega)) (O.lt (by omega)) (O.ne (by omega) (by omega) (by omega)) ?_
      show KasT.kasWp cmp (if decide (kAt key p 0 < kAt key p (m - 1)) = true then _ else _) Q s
      rw [if_pos (by simpa using c 0 (m - 1) (by omega) (by omega))]
      exact h m p O (by omega) (by omega) c
    · rw [if_neg h2]
      obtain rfl : m = 1 := by omega
      refine descPart_ T O (by omega) ?_ h
      intro i j hij hj
      obtain rfl : i = 0 := by omega
      obtain rfl : j = 1 := by omega
      exact d
theorem place_ (T : Tells cmp key N s) {p : Array Nat} (O : SOrd key N p) {k : Nat} {Q : Nat → Shared → Prop} (hk : k < N) (hu : UpTo key p k) : ∀ (f l r : Nat), l ≤ r → r ≤ k → r ≤ l + f →
    (∀ i, i < l → kAt key p i < kAt key p k) → (∀ i, r ≤ i → i < k → kAt key p k < kAt key p i) →
    (∀ l, l ≤ k → (∀ i, i < l → kAt key p i < kAt key p k) → (∀ i, l ≤ i → i < k → kAt key p k < kAt key p i) → Q l s) → (kas_place p k f l r).kasWp cmp Q s
  | 0, l, r, h1, h2, h3, a, b, h => by
    obtain rfl : l = r := by omega
    exact h l h2 a b
  | f + 1, l, r, h1, h2, h3, a, b, h => by
    unfold kas_place
    by_cases hlr : l ≥ r
    · rw [if_pos hlr]
      obtain rfl : l = r := by omega
      exact h l h2 a b
    · rw [if_neg hlr]
      have hm1 : l ≤ (l + r) / 2 := by omega
      have hm2 : (l + r) / 2 < r := by omega
      refine T _ _ _ (O.lt (by omega)) (O.lt (by omega)) (O.ne (by omega) (by omega) (by omega)) ?_
      show KasT.kasWp cmp (if decide (kAt key p k < kAt key p ((l + r) / 2)) = true then _ else _) Q s
      generalize (l + r) / 2 = c at hm1 hm2 ⊢
      by_cases hc : kAt key p k < kAt key p c
      · rw [if_pos (by simpa using hc)]
        refine place_ T O hk hu f l c hm1 (by omega) (by omega) a (fun i hi hik => ?_) h
        by_cases e : i = c
        · rw [e]; exact hc
        · exact Nat.lt_trans hc (hu c i (by omega) hik)
      · rw [if_neg (by simpa using hc)]
        have hne := O.ne (i := k) (j := c) hk (by omega) (by omega)
        refine place_ T O hk hu f (c + 1) r (by omega) h2 (by omega) (fun i hi => ?_) b h
        by_cases e : i = c
        · rw [e]; omega
        · have := hu i c (by omega) (by omega)
          omega
theorem bin_ (T : Tells cmp key N s) {Q : Array Nat → Shared → Prop} (h : ∀ p, SOrd key N p → UpTo key p N → Q p s) : ∀ (f : Nat) (p : Array Nat) (k : Nat), SOrd key N p → k + f = N → UpTo key p k → (kas_bin f p k).kasWp cmp Q s
  | 0, p, k, O, hf, hu => h p O (by rw [show N = k by omega]; exact hu)
  | f + 1, p, k, O, hf, hu => by
    unfold kas_bin
    rw [KasT.kasWp_bind]
    have hz := O.size
    refine place_ T O (by omega) hu k 0 k (Nat.zero_le _) (Nat.le_refl _) (by omega) (fun i hi => absurd hi (Nat.not_lt_zero _)) (fun i h1 h2 => absurd h2 (by omega)) fun l hl a b => ?_
    refine bin_ T h f _ (k + 1) (O.of_perm (bubble_perm _ _ _)) (by omega) ?_
    have e : ∀ i, kAt key (bubble p k (k - l)) i = if i = l then kAt key p k else if l < i ∧ i ≤ k then kAt key p (i - 1) else kAt key p i := by
      intro i
      have g := getElem?_bubble (xs := p) (src := k) (by omega) (k - l) (by omega) i
      rw [show k - (k - l) = l by omega] at g
      split <;> rename_i h1
      · rw [if_pos h1] at g; exact kAt_congr g
      · rw [if_neg h1] at g
        split <;> rename_i h2
        · rw [if_pos h2] at g; exact kAt_congr g
        · rw [if_neg h2] at g; exact kAt_congr g
    intro i j hij hj
    rw [e, e]
    by_cases i1 : i = l
    · rw [if_pos i1, if_neg (by omega), if_pos ⟨by omega, by omega⟩]
      exact b _ (by omega) (by omega)
    · rw [if_neg i1]
      by_cases j1 : j = l
      · rw [if_pos j1, if_neg (by omega)]
        exact a _ (by omega)
      · rw [if_neg j1]
        by_cases i2 : l < i
        · rw [if_pos ⟨i2, by omega⟩, if_pos ⟨by omega, by omega⟩]
          exact hu _ _ (by omega) (by omega)
        · rw [if_neg (by omega)]
          by_cases j2 : l < j
          · rw [if_pos ⟨j2, by omega⟩]
            by_cases z : i = j - 1
            · omega
            · exact hu _ _ (by omega) (by omega)
          · rw [if_neg (by omega)]
            exact hu _ _ hij (by omega)
theorem sort_ (T : Tells cmp key N s) (hi : ∀ i j, i < N → j < N → key i = key j → i = j) (h1 : 1 ≤ N) {Q : Array Nat → Shared → Prop} (h : ∀ p, SOrd key N p → UpTo key p N → Q p s) : (kas_sort N).kasWp cmp Q s := by
  unfold kas_sort
  rw [KasT.kasWp_bind]
  refine count_ T (p := (List.range N).toArray) ⟨by simp, hi⟩ h1 fun m p' O a b c => ?_
  dsimp only
  by_cases hm : m < N
  · rw [if_pos hm, show max m 1 = m by omega]
    exact bin_ T h (N - m) p' m O (by omega) c
  · rw [if_neg hm]
    exact h p' O (by rw [show N = m by omega]; exact c)
end
end
section
section
variable {prog : Program} {w : World} {A : Around} {E : Value → Shared → Prop} {s : Shared} {h₀ : Heap} {L : Addr} {m : Str → Option Value} {news im : List (Addr × Obj)}
theorem AllAre.tup {h : Heap} (N : News h₀ L h im) : ∀ {vs : List Value} {xs : List (Nat × Array UInt8)}, AllAre (PartIs im) vs xs → ∃ fs, KatTups h vs fs ∧ fs.length = vs.length ∧ ∀ v ∈ fs, ∃ i t, v = .int i t
  | [], [], _ => ⟨[], trivial, rfl, fun _ h => nomatch h⟩
  | v :: vs, x :: xs, a => by
    obtain ⟨fs, h1, h2, h3⟩ := AllAre.tup N a.2
    obtain ⟨t, n, u, u', rfl, ht⟩ := a.1
    refine ⟨_ :: fs, KatTups.cons (N.get ht) rfl rfl rfl h1, congrArg (· + 1) h2, fun v hv => ?_⟩
    rcases List.mem_cons.mp hv with rfl | hv
    · exact ⟨_, _, rfl⟩
    · exact h3 v hv
  | [], _ :: _, a => a.elim
  | _ :: _, [], a => a.elim
theorem AllAre.getD {α : Type} {R : Value → α → Prop} {d : α} : ∀ {vs : List Value} {xs : List α}, AllAre R vs xs → ∀ {i : Nat}, i < vs.length → R (vs.getD i Value.none) (xs.getD i d)
  | [], [], _, i, h => absurd h (Nat.not_lt_zero _)
  | v :: vs, x :: xs, a, 0, _ => a.1
  | v :: vs, x :: xs, a, i + 1, h => AllAre.getD a.2 (by simpa using h)
  | [], _ :: _, a, _, _ => a.elim
  | _ :: _, [], a, _, _ => a.elim
theorem AllAre.pick {α : Type} {R : Value → α → Prop} {d : α} {vs : List Value} {xs : List α} (a : AllAre R vs xs) : ∀ (l : List Nat), (∀ i ∈ l, i < vs.length) → AllAre R (l.map fun i => vs.getD i Value.none) (l.map fun i => xs.getD i d)
  | [], _ => trivial
  | i :: l, h => ⟨a.getD (h i (.head _)), a.pick l fun j hj => h j (.tail _ hj)⟩
theorem pick_range {α : Type} {d : α} (xs : List α) : ((List.range xs.length).map fun i => xs.getD i d) = xs := by
  apply List.ext_getElem
  · simp
  · intro i h1 h2
    simp [h2]
noncomputable abbrev noPart : Nat × Array UInt8 := (0, #[])
theorem part_lt {x y : Nat × Array UInt8} {v u : Value} {C : Bool → Shared → Prop} (N : News h₀ L s.heap im) (hv : PartIs im v x) (hu : PartIs im u y) (hne : x.1 ≠ y.1) (h : C (decide (x.1 < y.1)) s) :
    wpAny (model prog w) A (keyLt' (tuples' true) v u) C E s := by
  obtain ⟨t, n, a1, a2, rfl, ht⟩ := hv
  obtain ⟨t', n', b1, b2, rfl, ht'⟩ := hu
  refine kat_lt (N.get ht) rfl (N.get ht') rfl ?_
  refine kat_cons ?_
  refine (intKind prog w).eqBool (a := (x.1 : Int)) (b := (y.1 : Int)) (intKind_is prog w _ _) (intKind_is prog w _ _) ?_
  have e9 : ¬ ((x.1 : Int) = (y.1 : Int)) := by omega
  rw [decide_eq_false e9]
  refine kat_no ?_
  refine oneLt_int ?_
  rw [decide_eq_decide.mpr (Int.ofNat_lt)]
  exact h
theorem sorted_few {l : Addr} {vs : List Value} {Q : Value → Shared → Prop} (F : Fr h₀ L s.heap m) (N : News h₀ L s.heap news) (hl : s.heap.IsList l vs.toArray) (h2 : vs.length < 2)
    (h : ∀ D c h', Und D news → Fr h₀ L h' m → News h₀ L h' ((D, W.listOf vs.toArray c) :: news) → Q (.ref D) { s with heap := h' }) :
    wpAny (model prog w) A (call (.builtin "sorted") [.ref l]) Q E s := by
  refine Calls.call_function_entry kind_sorted plain_sorted entry_sorted (args_sorted1 _) ?_
  unfold Builtin.«sorted»
  refine wpAny_bind (m := checkCount "sorted" 1 1 _) (wpAny_pure ?_)
  refine wpAny_bind (collect_list hl ?_ (by rw [sizeLine_eq]; omega))
  refine wpAny_bind (wpAny_newList ?_ (by rw [sizeLine_eq]; omega))
  have hsz : ((s.heap.push (seqObj "list" #[] 0)).update s.heap.objs.size (Obj.mapSeq (· ++ vs.toArray))).objs.size = s.heap.objs.size + 1 := by
    rw [Heap.size_update, size_push']
  show wpAny _ _ _ _ _ { s with heap := ((s.heap.push (seqObj "list" #[] 0)).update s.heap.objs.size (Obj.mapSeq (· ++ vs.toArray))).push (seqObj "list" vs.toArray 0) }
  rw [hsz]
  have hoL : (((s.heap.push (seqObj "list" #[] 0)).update s.heap.objs.size (Obj.mapSeq (· ++ vs.toArray))).push (seqObj "list" vs.toArray 0)).get? (s.heap.objs.size + 1) = some (seqObj "list" vs.toArray 0) := by
    rw [← hsz]; exact Heap.get?_push_size _ rfl
  have keep : ∀ b o, s.heap.get? b = some o → (((s.heap.push (seqObj "list" #[] 0)).update s.heap.objs.size (Obj.mapSeq (· ++ vs.toArray))).push (seqObj "list" vs.toArray 0)).get? b = some o := fun b o q => by
    have hlt : b < s.heap.objs.size := Heap.lt_size q
    rw [Heap.get?_push_ne _ _ _ (by rw [hsz]; exact Nat.ne_of_lt (Nat.lt_succ_of_lt hlt)), Heap.get?_update_ne _ _ _ _ (Nat.ne_of_lt hlt), Heap.get?_push_ne _ _ _ (Nat.ne_of_lt hlt)]
    exact q
  have hL : L < s.heap.objs.size := F.ns.lt
  have h0 : h₀.get? (s.heap.objs.size + 1) = none := Heap.get?_none_of_le (Nat.le_trans F.above (Nat.le_succ_of_le (Nat.le_of_lt hL)))
  have F1 : Fr h₀ L (((s.heap.push (seqObj "list" #[] 0)).update s.heap.objs.size (Obj.mapSeq (· ++ vs.toArray))).push (seqObj "list" vs.toArray 0)) m := F.kept keep
  have N1 : News h₀ L (((s.heap.push (seqObj "list" #[] 0)).update s.heap.objs.size (Obj.mapSeq (· ++ vs.toArray))).push (seqObj "list" vs.toArray 0)) ((s.heap.objs.size + 1, seqObj "list" vs.toArray 0) :: news) := fun p hp => by
    rcases List.mem_cons.mp hp with rfl | hp
    · exact ⟨hoL, Nat.ne_of_gt (Nat.lt_succ_of_lt hL), h0⟩
    · exact N.grown keep p hp
  have hU : Und (s.heap.objs.size + 1) news := fun p hp => Nat.lt_succ_of_lt (Heap.lt_size (N p hp).1)
  refine wpAny_bind (wpAny_holding (wpAny_call_entry slot_list_sort ⟨_, hoL, rfl⟩ entry_list_sort ?body (args_list_sort _)))
  case body =>
    generalize (((s.heap.push (seqObj "list" #[] 0)).update s.heap.objs.size (Obj.mapSeq (· ++ vs.toArray))).push (seqObj "list" vs.toArray 0)) = g at F1 N1 hoL
    generalize s.heap.objs.size + 1 = a at N1 hoL h0 hU
    have haL : a ≠ L := (N1 _ (.head _)).2.1
    have ha : a < g.objs.size := Heap.lt_size hoL
    rw [list_sort_plain]
    refine wpAny_bind (listItems_at hoL rfl ?_)
    refine wpAny_bind (listUpdate_at hoL rfl ?_ (by rw [List.size_toArray, sizeLine_eq]; omega) (Nat.zero_le _))
    have s1 := Heap.SameBut.update g a (Obj.mapSeq fun _ => (#[] : Array Value))
    obtain ⟨e1, ho1⟩ : ∃ e1, (g.update a (Obj.mapSeq fun _ => (#[] : Array Value))).get? a = some (seqObj "list" #[] e1) := ⟨_, get?_update_seq hoL fun _ => #[]⟩
    refine wpAny_bind (seqEpoch_at ho1 rfl ?_)
    refine wpAny_bind (wpAny_newTuple ?_ (by show vs.length ≤ _; rw [sizeLine_eq]; omega))
    refine wpAny_bind (wpAny_newList ?_ (Nat.zero_le _))
    refine wpAny_holding ?_
    have F3 : Fr h₀ L (((g.update a (Obj.mapSeq fun _ => (#[] : Array Value))).push (seqObj "tuple" vs.toArray 0)).push (seqObj "list" #[] 0)) m := ((kas_fr F1 s1 haL h0).push _).push _
    have N2 : News h₀ L (((g.update a (Obj.mapSeq fun _ => (#[] : Array Value))).push (seqObj "tuple" vs.toArray 0)).push (seqObj "list" #[] 0)) news :=
      (kas_news (newsDropT N1) s1 fun p hp => und_ne hU p hp).grown fun b x e => Heap.get?_push_of_some _ (Heap.get?_push_of_some _ e)
    have ho3 : (((g.update a (Obj.mapSeq fun _ => (#[] : Array Value))).push (seqObj "tuple" vs.toArray 0)).push (seqObj "list" #[] 0)).get? a = some (seqObj "list" #[] e1) := Heap.get?_push_of_some _ (Heap.get?_push_of_some _ ho1)
    show wpAny (model prog w) _ _ _ _ { s with heap := ((g.update a (Obj.mapSeq fun _ => (#[] : Array Value))).push (seqObj "tuple" vs.toArray 0)).push (seqObj "list" #[] 0) }
    generalize (((g.update a (Obj.mapSeq fun _ => (#[] : Array Value))).push (seqObj "tuple" vs.toArray 0)).push (seqObj "list" #[] 0)) = g3 at F3 N2 ho3
    dsimp only
    have hn2 : vs.toArray.size < 2 := by rw [List.size_toArray]; omega
    rw [if_pos hn2, if_pos hn2]
    refine wpAny_bind (wpAny_pure ?_)
    rw [StateT.run_pure]
    refine wpAny_bind (wpAny_pure ?_)
    dsimp only
    have hout : (arrOf (SortSt.mk' general' (vs.toArray.zip vs.toArray) #[] 7 none)).map (·.2) = vs.toArray := by
      show (vs.toArray.zip vs.toArray).map (·.2) = vs.toArray
      apply Array.ext
      · simp
      · intro i h1 h2; simp
    rw [hout]
    refine wpAny_bind (seqEpoch_at ho3 rfl ?_)
    refine wpAny_bind (listUpdate_at ho3 rfl ?_ (Nat.zero_le _) (by rw [List.size_toArray, sizeLine_eq]; omega))
    simp only [bne_self_eq_false, Bool.false_eq_true, if_false]
    have s2 := Heap.SameBut.update g3 a (Obj.mapSeq fun _ => vs.toArray)
    obtain ⟨c2, hc2⟩ : ∃ c2, (g3.update a (Obj.mapSeq fun _ => vs.toArray)).get? a = some (seqObj "list" vs.toArray c2) := ⟨_, get?_update_seq ho3 fun _ => vs.toArray⟩
    refine wpAny_pure ⟨_, rfl, wpAny_pure ⟨_, rfl, h a c2 _ hU (kas_fr F3 s2 haL h0) ?_⟩⟩
    intro p hp
    rcases List.mem_cons.mp hp with rfl | hp
    · exact ⟨hc2, haL, h0⟩
    · exact kas_news N2 s2 (fun p hp => und_ne hU p hp) p hp
theorem sorted_parts {l : Addr} {vs : List Value} {xs : List (Nat × Array UInt8)} {n : Nat} {Q : Value → Shared → Prop} (F : Fr h₀ L s.heap m) (N : News h₀ L s.heap news) (hm : (l, W.listOf vs.toArray n) ∈ news)
    (ha : AllAre (PartIs im) vs xs) (him : Ext im news) (h64 : xs.length < 64) (hnd : (xs.map (·.1)).Nodup)
    (h : ∀ D vs' xs' c h', Und D news → Fr h₀ L h' m → News h₀ L h' ((D, W.listOf vs'.toArray c) :: news) → AllAre (PartIs im) vs' xs' → xs'.Perm xs → xs'.Pairwise (fun a b => a.1 < b.1) → Q (.ref D) { s with heap := h' }) :
    wpAny (model prog w) A (call (.builtin "sorted") [.ref l]) Q E s := by
  have hl := isListL N hm
  have hz := ha.len
  by_cases h2 : vs.length < 2
  · refine sorted_few F N hl h2 fun D c h' hU F' N' => h D vs xs c h' hU F' N' ha (List.Perm.refl _) ?_
    match xs, hz with
    | [], _ => exact .nil
    | [x], _ => exact List.pairwise_singleton _ _
    | _ :: _ :: _, hz => simp at hz; omega
  · refine kat_sorted F N hl (by omega) (by omega) fun D e1 h' F' N' hU => ?_
    have Ni : News h₀ L h' im := newsSub N' fun p hp => .tail _ (him p hp)
    obtain ⟨fs, t1, t2, t3⟩ := AllAre.tup Ni ha
    refine kat_kind (s := { s with heap := h' }) (T := .type "int") t1 (by omega) (fun v hv => by obtain ⟨i, t, rfl⟩ := t3 v hv; exact Looks.now) rfl ?_
    show (kas_sort vs.length).kasWp (kas_ask prog w A.in1.in1 (tuples' true) vs) _ _
    rw [hz]
    refine sort_ (key := fun i => (xs.getD i noPart).1) ?_ ?_ (by omega) ?_
    · intro i j C hi hj hne hC
      exact part_lt (s := { s with heap := h' }) Ni (ha.getD (by omega)) (ha.getD (by omega)) hne hC
    · intro i j hi hj he
      have e1 : (xs.getD i noPart).1 = (xs.map (·.1))[i]'(by simpa using hi) := by simp [hi]
      have e2 : (xs.getD j noPart).1 = (xs.map (·.1))[j]'(by simpa using hj) := by simp [hj]
      have he : (xs.getD i noPart).1 = (xs.getD j noPart).1 := he
      rw [e1, e2] at he
      exact (List.getElem_inj hnd).mp he
    · intro p O U
      have hsz := O.size
      refine KasFin.intro F' N' (g := fun o => (D, o) :: news) (.head fun q hq => Nat.ne_of_lt (hU q hq)) fun h3 c F3 N3 => h D _ (p.toList.map fun i => xs.getD i noPart) c h3 (und_of hU) F3 N3 (ha.pick _ fun i hi => ?_) ?_ ?_
      · rw [hz]; exact List.mem_range.mp (O.perm.mem_iff.mp hi)
      · have := O.perm.map fun i => xs.getD i noPart
        rw [pick_range] at this
        exact this
      · rw [List.pairwise_map, List.pairwise_iff_getElem]
        intro i j hi hj hij
        have a1 : p.toList[i] = p.getD i 0 := by simp at hi; simp [Array.getD, hi]
        have a2 : p.toList[j] = p.getD j 0 := by simp at hj; simp [Array.getD, hj]
        rw [a1, a2]
        exact U i j hij (by simp at hj; omega)
end
end
section
noncomputable def octOf (xs : List (Nat × Array UInt8)) : List UInt8 := (xs.map fun x => x.2.toList).flatten
theorem sum_perm {xs ys : List (Nat × Array UInt8)} (h : ys.Perm xs) : (ys.map fun x => x.2.size).sum = (xs.map fun x => x.2.size).sum := (h.map _).sum_nat
noncomputable def runOf (acc : List UInt8) : List (Nat × Array UInt8) → List UInt8
  | [] => acc
  | (b, p) :: r => if b = acc.length then runOf (acc ++ p.toList) r else acc
theorem pick_pre (pl : List UInt8) (c : Nat) : KBy.picked pl.toArray none (some (c : Int)) = (pl.take c).toArray := by
  rw [KBc.picked_eq]
  show ((pl.drop 0).take (clipAt pl.toArray.size (c : Nat) - 0)).toArray = _
  rw [clipAt_nat, List.drop_zero, Nat.sub_zero, List.size_toArray]
  rcases Nat.le_total c pl.length with h | h
  · rw [Nat.min_eq_left h]
  · rw [Nat.min_eq_right h, List.take_of_length_le (Nat.le_refl _), List.take_of_length_le h]
theorem pick8 (pl : List UInt8) : KBy.picked pl.toArray none (some 8) = (pl.take 8).toArray := pick_pre pl 8
end
section
section
variable {prog : Program} {w : World} {A : Around} {E : Value → Shared → Prop} {s : Shared}
theorem by_lookup_bytes : typeLookup (.type "bytes") "__bytes__" = pure (some (.builtin "bytes.__bytes__")) := by rw [typeLookup_type, builtinLookup_eq_fast]; kernel_rfl
theorem int_no_bytes : typeLookup (.type "int") "__bytes__" = pure none := by rw [typeLookup_type, builtinLookup_eq_fast]; kernel_rfl
theorem int_index : typeLookup (.type "int") "__index__" = pure (some (.builtin "int.__index__")) := by rw [typeLookup_type, builtinLookup_eq_fast]; kernel_rfl
theorem new_bytes_bytes {b : Array UInt8} {t : Tok} {Q : Value → Shared → Prop} (hQ : Q (.bytes b t) s) :
    codeAny (model prog w) A (.call (.builtin "bytes.__new__") ⟨[.type "bytes", .bytes b t], []⟩) (wants Q E) s := by
  refine codeAny_of_tree ?_
  show wpAny _ A.in1 (do checkBuiltinCall "bytes.__new__" ⟨[.type "bytes", .bytes b t], []⟩; again (.builtin "bytes.__new__" ⟨[.type "bytes", .bytes b t], []⟩)) _ _ s
  refine wpAny_bind (wpAny_of_eq (PySem.F.bm_newCall _) (wpAny_pure ⟨plainId_quiet PySem.F.bm_plain _, codeAny_builtin PySem.F.bm_entry ?_⟩))
  rw [Around.under_plainId PySem.F.bm_plain _]
  have hT : s.TypeIs (.bytes b t) "bytes" := PySem.W.typeIs_bytes _ _ _
  unfold Builtin.«bytes.__new__»
  refine wpAny_bind (wpAny_of_eq (a := true) rfl ?_)
  refine bm_if_false rfl ?_
  refine wpAny_bind (wpAny_of_eq PySem.F.bm_sub ?_)
  refine bm_if_false rfl ?_
  refine wpAny_bind (wpAny_of_eq (PySem.F.bm_bind _) ?_)
  refine wpAny_bind (wpAny_of_eq (a := ()) rfl ?_)
  refine wpAny_bind (wpAny_of_eq (a := ()) rfl ?_)
  refine bm_if_false rfl ?_
  refine wpAny_bind (wpAny_specialOf hT by_lookup_bytes ?_)
  refine wpAny_bind (wpAny_rule (wpAny_bind (wpAny_of_eq (a := .type "bytes") rfl ?_)))
  refine bm_if_true rfl ?_
  exact wpAny_pure hQ
theorem call_bytes_bytes {b : Array UInt8} {t : Tok} {Q : Value → Shared → Prop} (hQ : Q (.bytes b t) s) : wpAny (model prog w) A (call (.type "bytes") [.bytes b t]) Q E s := by
  refine callType_codes (Q₁ := fun obj s₁ => s₁.TypeIs obj "bytes" ∧ Q obj s₁) PySem.F.bm_called (PySem.F.bm_typeCall _) PySem.F.entry_object_init
    (new_bytes_bytes ⟨PySem.W.typeIs_bytes _ _ _, hQ⟩) fun obj s₁ h₁ => ?_
  exact ⟨h₁.1, PySem.F.args_object_init_2 obj _, object_init_meets PySem.F.bm_called.init.lookup PySem.F.bm_called.made (by decide) prog w A.in1 _ s₁ ⟨h₁.1, rfl, h₁.2⟩⟩
theorem new_bytes_int {n : Int} {t : Tok} {Q : Value → Shared → Prop} (h0 : n = 0) (hQ : ∀ t' k, Q (.bytes #[] t') { s with toks := k }) :
    codeAny (model prog w) A (.call (.builtin "bytes.__new__") ⟨[.type "bytes", .int n t], []⟩) (wants Q E) s := by
  subst h0
  refine codeAny_of_tree ?_
  show wpAny _ A.in1 (do checkBuiltinCall "bytes.__new__" ⟨[.type "bytes", .int 0 t], []⟩; again (.builtin "bytes.__new__" ⟨[.type "bytes", .int 0 t], []⟩)) _ _ s
  refine wpAny_bind (wpAny_of_eq (PySem.F.bm_newCall _) (wpAny_pure ⟨plainId_quiet PySem.F.bm_plain _, codeAny_builtin PySem.F.bm_entry ?_⟩))
  rw [Around.under_plainId PySem.F.bm_plain _]
  have hT : s.TypeIs (.int 0 t) "int" := rfl
  unfold Builtin.«bytes.__new__»
  refine wpAny_bind (wpAny_of_eq (a := true) rfl ?_)
  refine bm_if_false rfl ?_
  refine wpAny_bind (wpAny_of_eq PySem.F.bm_sub ?_)
  refine bm_if_false rfl ?_
  refine wpAny_bind (wpAny_of_eq (PySem.F.bm_bind _) ?_)
  refine wpAny_bind (wpAny_of_eq (a := ()) rfl ?_)
  refine wpAny_bind (wpAny_of_eq (a := ()) rfl ?_)
  refine bm_if_false rfl ?_
  refine wpAny_bind (wpAny_specialOf hT int_no_bytes ?_)
  refine wpAny_bind (wpAny_of_eq (a := false) rfl ?_)
  refine bm_if_false rfl ?_
  refine wpAny_bind (wpAny_specialOf hT int_index ?_)
  refine bm_if_false rfl ?_
  refine wpAny_bind (wpAny_attempt ?_)
  refine wpAny_of_eq (a := (0 : Int)) rfl ?_
  dsimp only
  refine bm_if_false (by decide +kernel) ?_
  refine wpAny_ite ?_
  rw [if_neg (by decide)]
  refine wpAny_ite ?_
  rw [if_neg (by decide)]
  refine bm_if_false (by decide +kernel) ?_
  refine wpAny_bind (wpAny_rule (wpAny_bind (wpAny_mkBytes ?_ )))
  exact wpAny_pure (hQ _ _)
theorem call_bytes_int {n : Int} {t : Tok} {Q : Value → Shared → Prop} (h0 : n = 0) (hQ : ∀ t' k, Q (.bytes #[] t') { s with toks := k }) : wpAny (model prog w) A (call (.type "bytes") [.int n t]) Q E s := by
  refine callType_codes (Q₁ := fun obj s₁ => s₁.TypeIs obj "bytes" ∧ Q obj s₁) PySem.F.bm_called (PySem.F.bm_typeCall _) PySem.F.entry_object_init
    (new_bytes_int h0 fun t' k => ⟨PySem.W.typeIs_bytes _ _ _, hQ t' k⟩) fun obj s₁ h₁ => ?_
  exact ⟨h₁.1, PySem.F.args_object_init_2 obj _, object_init_meets PySem.F.bm_called.init.lookup PySem.F.bm_called.made (by decide) prog w A.in1 _ s₁ ⟨h₁.1, rfl, h₁.2⟩⟩
end
end
section
theorem ws_at {prog : Program} {w : World} {l : List WE} {k : Nat} {e : DictEntry} (h : ((wsOf l).map (entryOfKey (TK prog w))).toArray[k]? = some e) : ∃ q, l[k]? = some q ∧ e = entryOfKey (TK prog w) (keyL q.i, q.ka, .ref q.x) := by
  rw [List.getElem?_toArray, List.getElem?_map] at h
  unfold wsOf at h
  rw [List.getElem?_map] at h
  cases hq : l[k]? with
  | none => rw [hq] at h; cases h
  | some q => rw [hq] at h; exact ⟨q, rfl, (Option.some.inj h).symm⟩
theorem ws_size {prog : Program} {w : World} {l : List WE} : ((wsOf l).map (entryOfKey (TK prog w))).toArray.size = l.length := by simp [wsOf]
theorem sum_cast : ∀ (l : List WE), (l.map fun e => (e.d.size : Int)).sum = ((totalOf (l.map (·.d)) : Nat) : Int)
  | [] => rfl
  | e :: r => by
    have := sum_cast r
    unfold totalOf at this ⊢
    simp only [List.map_cons, List.sum_cons] at this ⊢
    omega
noncomputable def roomOf (mo : Nat) : List WE → List WE
  | [] => []
  | e :: r => if mo < totalOf ((e :: r).map (·.d)) then roomOf mo r else e :: r
end
section
open LCg
section
variable {α : Type} {w : World} {c : Cx} {sc cs : Scope} {m : Nms} {n n' G : Led} {d u : Nat} {K P : Value → Led → Prop} {R : Flow → Nms → Led → Prop} {rest : List Stmt} {v v1 v2 it : Value} {e1 e2 e elt iter : PySem.Expr} {pos xp yp tp px py pz sp : Pos} {x y z : Str} {b : Bool} {C : Addr} {cl : List (Str × Addr)}
theorem GS.ppE {t : Sem Flow} (h : GS w c sc m t n (fun f m n' => ∃ n'', n'.Perm n'' ∧ R f m n'')) : GS w c sc m t n R := fun s Q E F N r => h s Q E F N fun f m' n' h' tk' ⟨n'', p, k⟩ F' N' => r f m' n'' h' tk' k F' (N'.perm p)
theorem evt_eqNil {a : Addr} {vs : List Value} {k : Nat} {lp : Pos} (ok : CxOk w c sc d u) (a1 : EvP w c sc m n e1 (Is (.ref a))) (h1 : (a, W.listOf vs.toArray k) ∈ n) (hm : behindInMarks .Eq (.List [] lp) = false := by with_unfolding_all rfl) : EvT w c sc m n (.Compare e1 [.Eq] [.List [] lp] pos) (decide (vs.length = 0)) :=
  EvT.old (ge_cmpT (ge_v a1 (ge_list ok (ga_nil ⟨rfl, fun D => ge_eqNil ok (.tail _ h1) (.head _) ⟨_, rfl, rfl, [_], rfl⟩⟩))) hm)
theorem ge_orT {K : Bool → Led → Prop} (h : GE w c sc m (isTrue e1 (c.en sc) (eval e1 (c.en sc))) n (fun b n' => (b = true → K true n') ∧ (b = false → GE w c sc m (isTrue e2 (c.en sc) (eval e2 (c.en sc))) n' K))) :
    GE w c sc m (isTrue (.BoolOp .Or [e1, e2] pos) (c.en sc) (eval (.BoolOp .Or [e1, e2] pos) (c.en sc))) n K := fun s Q E F N r => isTrue_or (h s _ E F N fun b n' h' tk' k F N => by
  cases b with
  | true => exact r _ _ _ _ (k.1 rfl) F N
  | false => exact isTrue_or (k.2 rfl _ _ E F N fun q n' h' tk' k F N => by
      cases q with
      | true => exact r _ _ _ _ k F N
      | false => exact isTrue_or_nil (r _ _ _ _ k F N)))
noncomputable abbrev GEC (w : World) (c : Cx) (sc : Scope) (m : Nms) (n : Led) (cs : Scope) (cl : List (Str × Addr)) (C : Addr) (e : PySem.Expr) (P : Value → Led → Prop) : Prop :=
  GE w c sc m (eval e (compEnvC cs cl C (c.en sc))) n (fun v n' => ∃ nw, n' = nw ++ n ∧ P v nw)
theorem gc_ev {P : Value → Prop} (h : EvC w c sc m n cs cl C e P) (k : ∀ v, P v → K v n) : GE w c sc m (eval e (compEnvC cs cl C (c.en sc))) n K := fun s Q E F N r => h s Q E F N fun v h' tk' p F N => r _ _ _ _ (k v p) F N
theorem evc_none {k : Nat} : EvC w c sc m n cs cl C (.Constant .none k pos) (Is .none) := fun _ _ _ F N k => wpAny_Constant_none (k _ _ _ .mk F N)
theorem gc_none {k : Nat} (kk : K .none n) : GE w c sc m (eval (.Constant .none k pos) (compEnvC cs cl C (c.en sc))) n K := fun s Q E F N r => wpAny_Constant_none (r _ _ _ _ kk F N)
section
variable {env : Env} {es : List PySem.Expr}
theorem gl_cons {K : List Value → Led → Prop} (h : GE w c sc m (eval e env) n (fun v n' => GE w c sc m (spliced (backTo pos (starEach es env))) n' (fun vs n'' => K (v :: vs) n'')))
    (he : ∀ env, starEach (e :: es) env = (false, eval e env) :: starEach es env := by intro _; rfl) : GE w c sc m (spliced (backTo pos (starEach (e :: es) env))) n K := fun s Q E F N q =>
  PyProof.Rows.args_cons (h s _ E F N fun v n' h' tk' k F N => k _ _ E F N fun vs n'' h' tk' k F N => q _ _ _ _ k F N) (he _)
theorem gl_nil {K : List Value → Led → Prop} (k : K [] n) : GE w c sc m (spliced (backTo pos (starEach [] env))) n K := fun s Q E F N q => PyProof.Rows.args_nil (q _ _ _ _ k F N)
theorem gl_list (ok : CxOk w c sc d u) (h : GE w c sc m (spliced (backTo pos (starEach es env))) n (fun vs n' => Nat.ble vs.length 1000 = true ∧ ∀ t, K (.ref t) ((t, W.listOf vs.toArray 0) :: n'))) : GE w c sc m (eval (.List es pos) env) n K := fun s Q E F N r => by
  obtain ⟨B, X, T, -, -, -⟩ := ok
  have N9 := N.N
  walk1
  exact h _ _ E F N fun vs n' h' tk' k F N => newList_K F N.N (fun D h' F' N' l1 => r _ _ _ _ (k.2 D) F' (N.new l1 N')) (Nat.le_trans (Nat.le_of_ble_eq_true k.1) (by decide))
theorem gl_ifexp {e3 : PySem.Expr} (t : ∀ (s : Shared) (Q : Bool → Shared → Prop) (E : Value → Shared → Prop), Fr c.h₀ c.L s.heap m → LedOk c s.heap n → (∀ h' tk', Fr c.h₀ c.L h' m → LedOk c h' n → Q b { s with heap := h', toks := tk' }) → wpAny (model PR w) (c.ar sc) (isTrue e env (eval e env)) Q E s)
    (h1 : b = true → GE w c sc m (eval e1 env) n K) (h2 : b = false → GE w c sc m (eval e3 env) n K) : GE w c sc m (eval (.IfExp e e1 e3 pos) env) n K := fun s Q E F N r =>
  IfExp_ (t s _ E F N fun h' tk' F N => by
    cases b with
    | true => exact h1 rfl _ Q E F N r
    | false => exact h2 rfl _ Q E F N r)
end
theorem gc_call {g : Value} {es : List PySem.Expr} (ok : CxOk w c sc d u) (h1 : nsIn (t1.heap_1_1 w.params) mainGlobals x = some (some g)) (h2 : keepIn (t1.heap_1_1 w.params) g = true) (hk : (compEnvC cs cl C (c.en sc)).scope.kind = .function) (hx : (compEnvC cs cl C (c.en sc)).kindOf x = some .globalImplicit) (hb : (x == ("__debug__" : Str)) = false)
    (k : GE w c sc m (spliced (backTo pos (starEach (e :: es) (compEnvC cs cl C (c.en sc))))) n (fun vs n' => GE w c sc m (call g vs) n' K))
    (hs : ∀ env, starEach (e :: es) env = (false, eval e env) :: starEach es env := by intro _; rfl) (hp : ∀ env, (backTo pos (starEach es env)).any (·.1) = false := by intro _; rfl) :
    GE w c sc m (eval (.Call (.Name x xp) (e :: es) [] pos) (compEnvC cs cl C (c.en sc))) n K := fun s Q E F N r => by
  obtain ⟨B, X, T, -, -, -⟩ := ok
  exact Call_ (LCgL.ld_global F X T h1 (callWith_K (first := []) X h2 (k _ _ E F N fun vs n' h' tk' k F N => ⟨X.keeps F.keep, k _ Q E F N r⟩) (hs _) (hp _)) rfl hk hx hb)
theorem off3_nd {I C D : Addr} {oI oC oD : Obj} {nw : Led} (N : ((nw ++ ((I, oI) :: (C, oC) :: (D, oD) :: n)).map (·.1)).Nodup) : Off3 I C D (nw ++ n) := by
  have p : (nw ++ ((I, oI) :: (C, oC) :: (D, oD) :: n)).Perm ((I, oI) :: (C, oC) :: (D, oD) :: (nw ++ n)) := List.perm_append_comm_assoc nw [(I, oI), (C, oC), (D, oD)] n
  have N := (p.map (·.1)).nodup_iff.mp N
  have h1 := List.nodup_cons.mp N
  have h2 := List.nodup_cons.mp h1.2
  have h3 := List.nodup_cons.mp h2.2
  have key : ∀ a, a ∉ (nw ++ n).map (·.1) → Off a (nw ++ n) := fun a h p hp e => h (List.mem_map.mpr ⟨p, hp, e⟩)
  exact Off3.of fun p hp => ⟨key I (fun h => h1.1 (.tail _ (.tail _ h))) p hp, key C (fun h => h2.1 (.tail _ h)) p hp, key D h3.1 p hp⟩
inductive CompU (w : World) (c : Cx) (sc : Scope) (bm : Nms) (nl : List (Str × Value)) (y x z : Str) (elt : PySem.Expr) (cs : Scope) (cl : List (Str × Addr)) (rest : List Stmt) (R : Flow → Nms → Led → Prop) (it : Value) (G : Led) : Prop
  | mk {l : Addr} {its : Array Value} {nn : Nat} (RR : Nat → List Value → Led → Prop) (hv : it = .ref l) (hm : (l, W.listOf its nn) ∈ G) (hz : its.size ≤ sizeLine) (h0 : RR 0 [] [])
      (turn : ∀ i v ys nw, its[i]? = some v → RR i ys nw → ∃ t v1 v2 k, v = .ref t ∧ (t, tupOf #[v1, v2] k) ∈ G ∧ ∀ C oC mC n', (C, oC) ∈ n' → NsObj oC mC → mC x = some v1 → mC z = some v2 → (∀ p ∈ nw ++ G, p ∈ n') → GEC w c sc (NM bm nl) n' cs cl C elt (fun y nw2 => RR (i + 1) (ys ++ [y]) (nw2 ++ nw)))
      (done : ∀ D ys nw, RR its.size ys nw → GS w c sc (NM bm ((y, .ref D) :: nl)) (execs rest (c.en sc)) ((D, lst ys) :: (nw ++ G)) R) : CompU w c sc bm nl y x z elt cs cl rest R it G
theorem gs_compU {bm : Nms} {nl : List (Str × Value)} {tk9 : Nat} (hsw : swapsWith (.ListComp elt [⟨.Tuple [.Name x px, .Name z pz] tk9 tp, iter, [], 0⟩] cs pos) (some (.Name y py)) sp.line (c.en sc) = pure true) (hclos : closureFor cs (c.en sc) = pure cl) (hkind : cs.kind = .function) (hnames : ∀ y ∈ cs.names, y.2 = .local → cs.names.lookup y.1 = some .local) (hcell : ∀ y ∈ cs.names, y.2 ≠ .cell)
    (hl : okL cs x = true) (hl2 : okL cs z = true) (hxz : x ≠ z) (hy : okL sc y = true) (h : GE w c sc (NM bm nl) (eval iter (c.en sc)) n (CompU w c sc bm nl y x z elt cs cl rest R)) (hs : ∀ env x, foldedSetIterable iter env x = pure x := by intro _ _; rfl) :
    GS w c sc (NM bm nl) (execs (.Assign [.Name y py] (.ListComp elt [⟨.Tuple [.Name x px, .Name z pz] tk9 tp, iter, [], 0⟩] cs pos) sp :: rest) (c.en sc)) n R := .cons fun s Q E F N q =>
  comp_ruleU hsw hclos hkind hnames (h s _ E F N fun it G h' tk' k F N => by
    obtain ⟨RR, rfl, hm, hz, h0, turn, done⟩ := k
    refine comp_listU (J := fun i ys nx => ∃ nw, nx = nw ++ G ∧ RR i ys nw ∧ (nx.map (·.1)).Nodup) rfl F N.N rfl (fun i ys nx h => by obtain ⟨nw, rfl, -⟩ := h; exact List.mem_append_right _ hm) ⟨[], rfl, h0, N.D⟩ hz hcell hkind (okL_and hy).2.1 (by show (sc.kind == _ || _) = false; rw [(okL_and hy).1]; rfl) ?_ ?_
    · rintro i v hi ys nx I oI oC C D mC h tk ⟨nw, rfl, hR, hD⟩ hn F₁ N₁ off ne
      obtain ⟨t, v1, v2, k, rfl, ht, go⟩ := turn i v ys nw hi hR
      refine cstore2 rfl F₁ N₁ hn off ne (List.mem_append_right _ ht) (fun h₁ oC₁ tk₁ F₂ N₂ hn₂ => compTests_nil ?_) hkind (okL_and hl).2.1 (okL_and hl2).2.1
      rw [if_pos rfl]
      refine go C oC₁ _ ((I, oI) :: (C, oC₁) :: (D, lst ys) :: (nw ++ G)) (.tail _ (.head _)) hn₂ ((if_neg hxz).trans (if_pos rfl)) (if_pos rfl) (fun p h => .tail _ (.tail _ (.tail _ h))) _ _ _ F₂ (ledC N₂ off ne hD) fun y n'' h₃ tk₃ hy9 F₃ N₃ => ?_
      obtain ⟨nw2, rfl, hy⟩ := hy9
      have p : (nw2 ++ ((I, oI) :: (C, oC₁) :: (D, lst ys) :: (nw ++ G))).Perm ((I, oI) :: (C, oC₁) :: (D, lst ys) :: (nw2 ++ (nw ++ G))) := List.perm_append_comm_assoc nw2 [(I, oI), (C, oC₁), (D, lst ys)] (nw ++ G)
      have N₄ := N₃.perm p
      refine ⟨h₃, tk₃, oC₁, _, nw2 ++ (nw ++ G), rfl, F₃, N₄.N, hn₂, off3_nd N₃.D, nw2 ++ nw, (List.append_assoc ..).symm, hy, ?_⟩
      exact (List.nodup_cons.mp (List.nodup_cons.mp (List.nodup_cons.mp N₄.D).2).2).2
    · rintro D h tk ys nx ⟨nw, rfl, hR, hD⟩ F₁ N₁ oD
      exact q _ _ _ _ _ (rk_next (done D ys nw hR)) (nm_set ▸ F₁) ⟨N₁, nodup_off oD hD⟩) (hs _)
theorem gs_two {bm : Nms} {nl : List (Str × Value)} {tk k2 : Nat} {tq : Pos} (ok : CxOk w c sc d u) (hx : okL sc x = true) (hy : okL sc y = true) (hw : ∀ c : Cx, swappedStores [.Tuple [.Name x xp, .Name y yp] tk tp] (.Tuple [e1, e2] k2 tq) (c.en sc) = pure (some [x, y]))
    (hs : ∀ c : Cx, swapsWithSole [.Tuple [.Name x xp, .Name y yp] tk tp] (.Tuple [e1, e2] k2 tq) pos.line (c.en sc) = pure false)
    (h : GE w c sc (NM bm nl) (spliced (backTo tq (starEach [e1, e2] (c.en sc)))) n (fun vs n' => ∃ v1 v2, vs = [v1, v2] ∧ GS w c sc (NM bm ((x, v1) :: (y, v2) :: nl)) (execs rest (c.en sc)) n' R)) :
    GS w c sc (NM bm nl) (execs (.Assign [.Tuple [.Name x xp, .Name y yp] tk tp] (.Tuple [e1, e2] k2 tq) pos :: rest) (c.en sc)) n R := .cons fun s Q E F N q =>
  Assign_Tuple_swapped (ge_tuple ok (K := fun v n1 => ∃ v1 v2 t n', v = .ref t ∧ n1 = (t, tupOf [v1, v2].toArray 0) :: n' ∧ GS w c sc (NM bm ((x, v1) :: (y, v2) :: nl)) (execs rest (c.en sc)) n' R) (h.mono fun vs n' ⟨v1, v2, e, k⟩ => ⟨by rw [e]; rfl, fun t => ⟨v1, v2, t, n', rfl, by rw [e], k⟩⟩) s _ E F N fun v n1 h' tk' k F N => by
    obtain ⟨v1, v2, t, n', rfl, rfl, k⟩ := k
    refine unpackItemsN_ F N.N (News.isTup N.N (.head _)) rfl rfl fun h2 F2 N2 => ?_
    refine assignInOrder_cons (bindName_ (storeX_L F2 N2 (fun h3 F3 N3 => ?_) (okL_and hy).1 (okL_and hy).2.1))
    refine assignInOrder_cons (bindName_ (storeX_L (nm_set ▸ F3) N3 (fun h4 F4 N4 => ?_) (okL_and hx).1 (okL_and hx).2.1))
    exact assignInOrder_nil (q _ _ _ _ _ (rk_next k) (nm_set ▸ F4) (LedOk.app (nw := [_]) ⟨N4, N.D⟩))) (hs _) (hw _)
end
end
section
open LCg
section
variable {α : Type} {w : World} {c : Cx} {sc cs : Scope} {m : Nms} {n : Led} {d u : Nat} {P K : Value → Led → Prop} {R : Flow → Nms → Led → Prop} {rest : List Stmt} {v v1 v2 : Value} {e1 e2 e elt test iter : PySem.Expr} {pos xp tp px pz : Pos} {x z : Str} {b : Array UInt8} {tb : Tok} {j : Int} {cl : List (Str × Addr)}
theorem gs_try {body orelse : List Stmt} {h0 : ExceptHandler} {hs : List ExceptHandler} (h : GS w c sc m (execs body (c.en sc)) n (fun f m n => ∃ v, f = .ret v ∧ R (.ret v) m n)) : GS w c sc m (execs (.Try body (h0 :: hs) orelse [] pos :: rest) (c.en sc)) n R := .cons fun s Q E F N r =>
  wpAny_Try_except (h s _ _ F N fun f m' n' h' tk' ⟨v, e, k⟩ F N => by subst e; exact r _ _ _ _ _ k F N)
theorem ge_addY {b1 b2 : Array UInt8} {t1 t2 : Tok} (hz : b1.size + b2.size ≤ 1000) (kk : ∀ t, K (.bytes (b1 ++ b2) t) n) : GE w c sc m (binaryOp .Add (.bytes b1 t1) (.bytes b2 t2)) n K := fun s Q E F N r =>
  KBy.add_bytes (Nat.le_trans hz (by decide)) fun t' k => r _ _ _ _ (kk t') F N
theorem ge_bytesB (kk : K (.bytes b tb) n) : GE w c sc m (call (.type "bytes") [.bytes b tb]) n K := fun s Q E F N r => call_bytes_bytes (r _ _ _ _ kk F N)
theorem ge_bytes0 (h : IsI j v) (h0 : j = 0) (kk : ∀ t, K (.bytes #[] t) n) : GE w c sc m (call (.type "bytes") [v]) n K := fun s Q E F N r => by
  obtain ⟨t, rfl⟩ := h
  exact call_bytes_int h0 fun t' k => r _ _ _ _ (kk t') F N
inductive CompV (w : World) (c : Cx) (sc : Scope) (m : Nms) (x z : Str) (elt test : PySem.Expr) (cs : Scope) (cl : List (Str × Addr)) (K : Value → Led → Prop) (it : Value) (G : Led) : Prop
  | mk {l : Addr} {its : Array Value} {nn : Nat} (RR : Nat → List Value → Led → Prop) (hv : it = .ref l) (hm : (l, W.listOf its nn) ∈ G) (hz : its.size ≤ sizeLine) (h0 : RR 0 [] [])
      (turn : ∀ i v ys nw, its[i]? = some v → RR i ys nw → ∃ t v1 v2 k b, v = .ref t ∧ (t, tupOf #[v1, v2] k) ∈ G ∧ (b = false → RR (i + 1) ys nw) ∧ ∀ C oC mC n', (C, oC) ∈ n' → NsObj oC mC → mC x = some v1 → mC z = some v2 → EvCT w c sc m n' cs cl C test b ∧ (b = true → GEC w c sc m n' cs cl C elt (fun y nw2 => RR (i + 1) (ys ++ [y]) (nw2 ++ nw))))
      (done : ∀ D ys nw, RR its.size ys nw → K (.ref D) ((D, lst ys) :: (nw ++ G))) : CompV w c sc m x z elt test cs cl K it G
theorem ge_compV {tk9 : Nat} (hclos : closureFor cs (c.en sc) = pure cl) (hkind : cs.kind = .function) (hnames : ∀ y ∈ cs.names, y.2 = .local → cs.names.lookup y.1 = some .local) (hcell : ∀ y ∈ cs.names, y.2 ≠ .cell)
    (hl : okL cs x = true) (hl2 : okL cs z = true) (hxz : x ≠ z) (h : GE w c sc m (eval iter (c.en sc)) n (CompV w c sc m x z elt test cs cl K)) (hs : ∀ env x, foldedSetIterable iter env x = pure x := by intro _ _; rfl) :
    GE w c sc m (eval (.ListComp elt [⟨.Tuple [.Name x px, .Name z pz] tk9 tp, iter, [test], 0⟩] cs pos) (c.en sc)) n K := fun s Q E F N q =>
  comp_rule hclos hkind hnames (h s _ E F N fun it G h' tk' k F N => by
    obtain ⟨RR, rfl, hm, hz, h0, turn, done⟩ := k
    refine comp_list (J := fun i ys nx => ∃ nw, nx = nw ++ G ∧ RR i ys nw ∧ (nx.map (·.1)).Nodup) rfl F N.N (fun i ys nx h => by obtain ⟨nw, rfl, -⟩ := h; exact List.mem_append_right _ hm) ⟨[], rfl, h0, N.D⟩ hz hcell hkind ?_ ?_
    · rintro i v hi ys nx I oI oC C D mC h tk ⟨nw, rfl, hR, hD⟩ hn F₁ N₁ off ne
      obtain ⟨t, v1, v2, k, b, rfl, ht, b0, go⟩ := turn i v ys nw hi hR
      refine cstore2 rfl F₁ N₁ hn off ne (List.mem_append_right _ ht) (fun h₁ oC₁ tk₁ F₂ N₂ hn₂ => compTests_one ?_) hkind (okL_and hl).2.1 (okL_and hl2).2.1
      obtain ⟨g1, g2⟩ := go C oC₁ _ ((I, oI) :: (C, oC₁) :: (D, lst ys) :: (nw ++ G)) (.tail _ (.head _)) hn₂ ((if_neg hxz).trans (if_pos rfl)) (if_pos rfl)
      refine g1 _ _ _ F₂ (ledC N₂ off ne hD) fun h₃ tk₃ F₃ N₃ => ?_
      cases b with
      | false =>
        rw [if_neg (by decide)]
        exact compTurn_0 F₃ N₃.N hn₂ off ⟨nw, rfl, b0 rfl, hD⟩
      | true =>
        rw [if_pos rfl]
        refine g2 rfl _ _ _ F₃ N₃ fun y n'' h₃ tk₃ hy9 F₃ N₃ => ?_
        obtain ⟨nw2, rfl, hy⟩ := hy9
        have p : (nw2 ++ ((I, oI) :: (C, oC₁) :: (D, lst ys) :: (nw ++ G))).Perm ((I, oI) :: (C, oC₁) :: (D, lst ys) :: (nw2 ++ (nw ++ G))) := List.perm_append_comm_assoc nw2 [(I, oI), (C, oC₁), (D, lst ys)] (nw ++ G)
        have N₄ := N₃.perm p
        refine ⟨h₃, tk₃, oC₁, _, nw2 ++ (nw ++ G), rfl, F₃, N₄.N, hn₂, off3_nd N₃.D, nw2 ++ nw, (List.append_assoc ..).symm, hy, ?_⟩
        exact (List.nodup_cons.mp (List.nodup_cons.mp (List.nodup_cons.mp N₄.D).2).2).2
    · rintro D h tk ys nx ⟨nw, rfl, hR, hD⟩ F₁ N₁ oD
      exact q _ _ _ _ (done D ys nw hR) F₁ ⟨N₁, nodup_off oD hD⟩) (hs _)
theorem gc_tuple {env : Env} {es : List PySem.Expr} {tk9 : Nat} (ok : CxOk w c sc d u) (h : GE w c sc m (spliced (backTo pos (starEach es env))) n (fun vs n' => Nat.ble vs.length 1000 = true ∧ ∀ t, K (.ref t) ((t, tupOf vs.toArray 0) :: n'))) : GE w c sc m (eval (.Tuple es tk9 pos) env) n K := fun s Q E F N r => by
  obtain ⟨B, X, T, -, -, -⟩ := ok
  have N9 := N.N
  walk1
  exact h _ _ E F N fun vs n' h' tk' k F N => kup_newTuple F N.N (fun D h' F' N' l1 => r _ _ _ _ (k.2 D) F' (N.new l1 N')) (Nat.le_trans (Nat.le_of_ble_eq_true k.1) (by decide))
theorem single_g (ok : CxOk w c sc 1 10) (h : IsI j v) (ret : P (.bool ((j == 0) || (j == 1))) n) : GE w c sc m (call (.ref 315) [v]) n P := by
  refine' g_enter (d := 0) (u := 7) [(Str.ofString "kind", v)] (by exact rfl) (ok.le rfl rfl) (by k_is) (by k_is) (by intro s; exact BindsTo.of_eq rfl) (by exact rfl) (by exact rfl) ?_
  intro c' ok'
  exact gs_ret (ge_v (ev_or (ev_cmpV (P1 := IsI j) (P2 := IsI 0) (by walk_at "ev") (by walk_at "ev") cp_eq) fun _ => ev_cmpV (P1 := IsI j) (P2 := IsI 1) (by walk_at "ev") (by walk_at "ev") cp_eq) ret)
theorem size_at_g {k y : Nat} (ok : CxOk w c sc 1 10) (h : IsI (k : Int) v) (h1 : b.size ≤ 100) (h2 : (b.toList.getD (k + 1) 0).toNat = y) (h3 : k + y ≤ b.size) (h4 : 2 ≤ y) (ret : ∀ z, IsI (y : Int) z → P z n) : GE w c sc m (call (.ref 329) [.bytes b tb, v]) n P := by
  refine' g_enter (d := 0) (u := 7) [(Str.ofString "octets", .bytes b tb), (Str.ofString "at", v)] (by exact rfl) (ok.le rfl rfl) (by k_is) (by k_is) (by intro s; exact BindsTo.of_eq rfl) (by exact rfl) (by exact rfl) ?_
  intro c' ok'
  refine gs_ifF0 (.to (ev_cmp (P1 := IsI _) (P2 := IsI _) (by walk_at "ev") (ev_len ok' (by walk_at "ev") rfl (by walk_at "bz")) cp_ge) (decide_eq_false (by omega))) ?_
  refine gs_let rfl rfl (ge_ev (ev_itemB (k := k + 1) (by walk_at "ev") (ev_add (i := (k : Int)) (j := 1) (by walk_at "ev") ev_int) (by walk_at "bz") (by omega)) fun z hz => ?_)
  rw [h2] at hz
  refine gs_ifF0 (.to (evt_or (ev_cmp (P1 := IsI _) (P2 := IsI _) (by walk_at "ev") (by walk_at "ev") cp_lt) fun _ => ev_cmp (P1 := IsI _) (P2 := IsI _) (by walk_at "ev") (ev_len ok' (by walk_at "ev") rfl (by walk_at "bz")) cp_gt) (Bool.or_eq_false_iff.mpr ⟨decide_eq_false (by omega), decide_eq_false (by omega)⟩)) ?_
  exact gs_ret (ge_v (by walk_at "ev") (ret z hz))
structure OneO (b : Array UInt8) (kd y : Nat) (r : Array UInt8) : Prop where
  k0 : (b.toList.getD 0 0).toNat = kd
  k2 : 2 ≤ kd
  v0 : (b.toList.getD 1 0).toNat = y
  v2 : 2 ≤ y
  vb : y ≤ b.size
  b8 : b.size ≤ 8
  en : y < b.size → (b.toList.getD y 0).toNat = 0
  pk : KBy.picked b (some 2) (some (y : Int)) = r
noncomputable def readL (l : Addr) (n : Led) (kd : Nat) (r : Array UInt8) : Option (Addr × Tok × Tok) → Led
  | none => (l, W.listOf #[] 0) :: n
  | some (t, u1, u2) => (t, tupOf #[.int kd u1, .bytes r u2] 0) :: (l, W.listOf #[.ref t] 1) :: n
theorem read_g {kd y : Nat} {r : Array UInt8} (ok : CxOk w c sc 2 20) (H : b = #[] ∨ OneO b kd y r) (ret : ∀ l a, (b = #[] ∧ a = none ∨ b ≠ #[] ∧ a ≠ none) → P (.ref l) (readL l n kd r a)) : GE w c sc m (call (.ref 322) [.bytes b tb]) n P := by
  refine' g_enter (d := 1) (u := 17) [(Str.ofString "octets", .bytes b tb)] (by exact rfl) (ok.le rfl rfl) (by k_is) (by k_is) (by intro s; exact BindsTo.of_eq rfl) (by exact rfl) (by exact rfl) ?_
  intro c' ok'
  have hb8 : b.size ≤ 8 := H.elim (fun e => e ▸ by decide) (·.b8)
  refine gs_let rfl rfl (ge_list ok' (ga_nil ⟨rfl, fun l => ?_⟩))
  refine gs_let rfl rfl (ge_ev (P := IsI ((0 : Nat) : Int)) ev_int fun va ha => ?_)
  refine gs_while (readL l n kd r)
    (fun k m a => (m (Str.ofString "octets") = some (.bytes b tb) ∧ m (Str.ofString "found") = some (.ref l)) ∧ ∃ va, m (Str.ofString "at") = some va ∧ (b = #[] ∧ a = none ∧ IsI ((0 : Nat) : Int) va ∨ b ≠ #[] ∧ (k = 1 ∧ a = none ∧ IsI ((0 : Nat) : Int) va ∨ a ≠ none ∧ IsI (y : Int) va))) 1 none rfl ⟨⟨by walk_at "nm", by walk_at "nm"⟩, va, by walk_at "nm", ?_⟩ ?_
  · exact (Decidable.em (b = #[])).elim (fun h => .inl ⟨h, rfl, ha⟩) fun h => .inr ⟨h, .inl ⟨rfl, rfl, ha⟩⟩
  rintro k m₁ a ⟨⟨m1, m2⟩, va, m3, h⟩
  have h : (b ≠ #[] ∧ k = 1 ∧ a = none ∧ IsI ((0 : Nat) : Int) va) ∨ ((b = #[] ∧ a = none ∨ b ≠ #[] ∧ a ≠ none) ∧ ∃ y : Nat, IsI (y : Int) va ∧ (y < b.size → (b.toList.getD y 0).toNat = 0)) := by
    rcases h with ⟨hb, e, ha⟩ | ⟨hne, ⟨e, e', ha⟩ | ⟨hs, ha⟩⟩
    · exact .inr ⟨.inl ⟨hb, e⟩, 0, ha, fun h => by rw [hb] at h; exact absurd h (by decide)⟩
    · exact .inl ⟨hne, e, e', ha⟩
    · exact .inr ⟨.inr ⟨hne, hs⟩, y, ha, (H.resolve_left hne).en⟩
  rcases h with ⟨hne, rfl, rfl, ha⟩ | ⟨hh, y', hy, en⟩
  · obtain ⟨k0, k2, v0, v2, vb, b8, en, pk⟩ := H.resolve_left hne
    refine EvT.ge (EvT.to (q := true) (evt_and (q := true) (ev_cmp (P1 := IsI ((0 : Nat) : Int)) (P2 := IsI _) (by walk_at "ev") (ev_len ok' (bs := b) (by walk_at "ev") rfl (by walk_at "bz")) cp_lt) fun hlt => (ev_cmp (P1 := IsI _) (P2 := IsI 0) (ev_itemB (bs := b) (k := 0) (by walk_at "ev") (by walk_at "ev") (by walk_at "bz") (by omega)) (by walk_at "ev") cp_ne).to (by rw [k0]; exact bne_iff_ne.mpr (by omega))) (by rw [Bool.and_true]; exact decide_eq_true (by omega))) ?_
    rw [if_pos rfl]
    change GS _ _ _ _ _ ((l, W.listOf ([] : List Value).toArray 0) :: n) _
    refine gs_let rfl rfl (ge_ev (ev_itemB (bs := b) (k := 0) (by walk_at "ev") (by walk_at "ev") (by walk_at "bz") (by omega)) fun vk hk => ?_)
    rw [k0] at hk
    refine gs_if2 (ge_test rfl (ge_call ok' (by k_is) (by k_is) rfl (ga_v (by walk_at "ev") (ga_nil (single_g (ok'.le rfl rfl) hk ⟨_, rfl, fun h => ?_, fun _ => ?_⟩)))))
    · rw [Bool.or_eq_true, beq_iff_eq, beq_iff_eq] at h
      omega
    refine gs_let rfl rfl (ge_call ok' (by k_is) (by k_is) rfl (ga_v (by walk_at "ev") (ga_v (by walk_at "ev") (ga_nil (size_at_g (k := 0) (ok'.le rfl rfl) ha (by omega) v0 (by omega) v2 fun vz hz => ?_)))))
    refine gs_expr rfl (ge_bmeth (by walk_at "ev") (bm_append ok' (by walk_at "mm")) (ga_cons (ge_tuple ok' (ga_v (by walk_at "ev") (ga_cons (ge_type ok' (by k_is) (by boot_fast) (by decide) rfl (ga_cons (ge_ev (ev_slice (i1 := some (((0 : Nat) : Int) + 2)) (i2 := some (((0 : Nat) : Int) + (y : Int))) (by walk_at "ev") (by walk_at "evo") (by walk_at "evo") (by walk_at "bz")) fun vs hs => ga_nil ?_))))))))
    rw [show ((0 : Nat) : Int) + 2 = 2 from rfl, show ((0 : Nat) : Int) + (y : Int) = y from Int.zero_add _, pk] at hs
    obtain ⟨tk, rfl⟩ := hk
    obtain ⟨ts, rfl⟩ := hs
    refine ge_bytesB (ga_nil ⟨rfl, fun t => ga_nil (ge_append (by walk_at "sw") (by decide) ?_)⟩)
    refine gs_let rfl rfl (ge_ev (P := IsI (((0 : Nat) : Int) + (y : Int))) (by walk_at "ev") fun v8 h8 => ?_)
    exact gs_nil (rk_next (gs_nil (wk_next 0 (some (t, tk, ts)) (by decide) ⟨⟨by walk_at "nm", by walk_at "nm"⟩, _, by walk_at "nm", .inr ⟨hne, .inr ⟨fun h => (by cases h), h8.to (Int.zero_add _)⟩⟩⟩)))
  · refine EvT.ge (EvT.to (q := false) (evt_and (q := false) (ev_cmp (P1 := IsI (y' : Int)) (P2 := IsI _) (by walk_at "ev") (ev_len ok' (bs := b) (by walk_at "ev") rfl (by walk_at "bz")) cp_lt) fun hlt => (ev_cmp (P1 := IsI _) (P2 := IsI 0) (ev_itemB (bs := b) (k := y') (by walk_at "ev") (by walk_at "ev") (by walk_at "bz") (by have := of_decide_eq_true hlt; omega)) (by walk_at "ev") cp_ne).to (by rw [en (by have := of_decide_eq_true hlt; omega)]; rfl)) (Bool.and_false _)) ?_
    rw [if_neg (by decide)]
    exact gs_ret (ge_v (by walk_at "ev") (ret l a hh))
noncomputable def OneIs (n : Led) (vs : List Value) : Option (Nat × Array UInt8) → Prop
  | none => vs = []
  | some (k, r) => ∃ t kk u1 u2, vs = [.ref t] ∧ (t, tupOf #[.int (k : Int) u1, .bytes r u2] kk) ∈ n
theorem read_o {X : Option (Nat × Array UInt8)} (ok : CxOk w c sc 2 20) (H : (b = #[] ∧ X = none) ∨ ∃ kd y r, OneO b kd y r ∧ b ≠ #[] ∧ X = some (kd, r)) (ret : ∀ l vs k nw, OneIs (nw ++ (l, W.listOf vs.toArray k) :: n) vs X → P (.ref l) (nw ++ (l, W.listOf vs.toArray k) :: n)) : GE w c sc m (call (.ref 322) [.bytes b tb]) n P := by
  rcases H with ⟨hb, rfl⟩ | ⟨kd, y, r, H, hb, rfl⟩
  · refine read_g (kd := 2) (y := 2) (r := #[]) ok (.inl hb) fun l a h => ?_
    rcases h with ⟨_, rfl⟩ | ⟨h, _⟩
    · exact ret l [] 0 [] rfl
    · exact absurd hb h
  · refine read_g ok (.inr H) fun l a h => ?_
    rcases h with ⟨h, _⟩ | ⟨_, h⟩
    · exact absurd h hb
    · match a, h with
      | some (t, u1, u2), _ => exact ret l [.ref t] 1 [(t, _)] ⟨t, 0, u1, u2, rfl, .head _⟩
theorem copied1_g (ok : CxOk w c sc 1 10) (h : IsI j v) (ret : P (.bool (decide (128 ≤ j))) n) : GE w c sc m (call (.ref 350) [v]) n P := by
  refine' g_enter (d := 0) (u := 7) [(Str.ofString "kind", v)] (by exact rfl) (ok.le rfl rfl) (by k_is) (by k_is) (by intro s; exact BindsTo.of_eq rfl) (by exact rfl) (by exact rfl) ?_
  intro c' ok'
  exact gs_ret (ge_v (ev_cmpV (P1 := IsI j) (P2 := IsI 128) (by walk_at "ev") (by walk_at "ev") cp_ge) ret)
theorem evct_test {C : Addr} {b : Bool} (hp : plainTest e = true) (h : GE w c sc m (eval e (compEnvC cs cl C (c.en sc))) n (fun v n' => v = .bool b ∧ n' = n)) : EvCT w c sc m n cs cl C e b := fun s Q E F N q =>
  wpAny_isTrue_value (h s _ E F N fun v n' h' tk' ⟨e1, e2⟩ F' N' => by subst e1; subst e2; exact wpAny_truthy_bool (q _ _ F' N')) (isTrue_plain hp)
theorem gl_v {C : Addr} {es : List PySem.Expr} {K : List Value → Led → Prop} (h : EvC w c sc m n cs cl C e (Is v)) (k : GE w c sc m (spliced (backTo pos (starEach es (compEnvC cs cl C (c.en sc))))) n (fun vs n'' => K (v :: vs) n'')) (he : ∀ env, starEach (e :: es) env = (false, eval e env) :: starEach es env := by intro _; rfl) :
    GE w c sc m (spliced (backTo pos (starEach (e :: es) (compEnvC cs cl C (c.en sc))))) n K := gl_cons (gc_ev h fun v' e => by obtain rfl : v' = _ := e; exact k) he
theorem copied_g {l : Addr} {vs : List Value} {k : Nat} {X : Option (Nat × Array UInt8)} (ok : CxOk w c sc 3 30) (hm : (l, W.listOf vs.toArray k) ∈ n) (hx : OneIs n vs X) (ret : ∀ D ys nw, OneIs (nw ++ n) ys (X.filter fun x => decide (128 ≤ (x.1 : Int))) → P (.ref D) ((D, lst ys) :: (nw ++ n))) : GE w c sc m (call (.ref 355) [.ref l]) n P := by
  refine' g_enter (d := 2) (u := 27) [(Str.ofString "options", .ref l)] (by exact rfl) (ok.le rfl rfl) (by k_is) (by k_is) (by intro s; exact BindsTo.of_eq rfl) (by exact rfl) (by exact rfl) ?_
  intro c' ok'
  refine gs_ret (ge_compV rfl rfl (by decide) (by decide) rfl rfl (by decide) (ge_v (by walk_at "ev") (.mk (fun i ys nw => (i = 0 → ys = [] ∧ nw = []) ∧ (i = 1 → OneIs nw ys (X.filter fun x => decide (128 ≤ (x.1 : Int))))) rfl hm ?_ ⟨fun _ => ⟨rfl, rfl⟩, fun h => absurd h (by decide)⟩ ?_ ?_)))
  · cases X with
    | none => obtain rfl : vs = [] := hx; decide
    | some x => obtain ⟨t, kk, u1, u2, rfl, -⟩ := hx; exact Nat.le_of_ble_eq_true rfl
  · intro i v ys nw hi hR
    cases X with
    | none =>
      obtain rfl : vs = [] := hx
      cases hi
    | some x =>
      obtain ⟨kd, r⟩ := x
      obtain ⟨t, kk, u1, u2, rfl, ht⟩ := hx
      obtain ⟨rfl, rfl⟩ := one_item hi
      obtain ⟨rfl, rfl⟩ := hR.1 rfl
      refine ⟨t, _, _, kk, decide (128 ≤ (kd : Int)), rfl, ht, fun hb => ⟨fun h => absurd h (by decide), fun _ => by simp only [Option.filter, hb]; rfl⟩, fun C oC mC n' h1 h2 h3 h4 => ⟨?_, fun hb => ?_⟩⟩
      · exact evct_test rfl (gc_call ok' (by k_is) (by k_is) rfl rfl rfl (gl_v (evc_name h1 h2 h3 rfl .mk) (gl_nil (copied1_g (ok'.le rfl rfl) .mk ⟨rfl, rfl⟩))))
      · refine gc_tuple ok' (gl_v (evc_name h1 h2 h3 rfl .mk) (gl_v (evc_name h1 h2 h4 rfl .mk) (gl_nil ⟨rfl, fun t' => ⟨[_], rfl, fun h => absurd h (by decide), fun _ => ?_⟩⟩)))
        simp only [Option.filter, hb]
        exact ⟨t', 0, u1, u2, rfl, .head _⟩
  · intro D ys nw hR
    refine ret D ys nw ?_
    cases X with
    | none =>
      obtain rfl : vs = [] := hx
      exact (hR.1 rfl).1
    | some x =>
      obtain ⟨t, kk, u1, u2, rfl, ht⟩ := hx
      have := hR.2 rfl
      revert this
      cases (some x).filter fun x => decide (128 ≤ (x.1 : Int)) with
      | none => exact id
      | some y => exact fun ⟨t, kk, u1, u2, e, h⟩ => ⟨t, kk, u1, u2, e, List.mem_append_left _ h⟩
theorem option_g {u1 u2 : Tok} (ok : CxOk w c sc 2 20) (ret : ∀ t, P (.bytes #[148, 4, 0, 0] t) n) : GE w c sc m (call (.ref 343) [.int 148 u1, .bytes #[0, 0] u2]) n P := by
  refine GE.fin ?_
  refine' g_enter (d := 1) (u := 17) [(Str.ofString "kind", .int 148 u1), (Str.ofString "octets", .bytes #[0, 0] u2)] (by exact rfl) (ok.le rfl rfl) (by k_is) (by k_is) (by intro s; exact BindsTo.of_eq rfl) (by exact rfl) (by exact rfl) ?_
  intro c' ok'
  refine gs_ifF0 (.to (evt_or (ev_cmp (P1 := IsI 148) (P2 := IsI 1) (by walk_at "ev") (by walk_at "ev") cp_lt) fun _ => ev_cmp (P1 := IsI 148) (P2 := IsI 255) (by walk_at "ev") (by walk_at "ev") cp_gt) rfl) ?_
  refine gs_if20 (ge_test rfl (ge_call ok' (by k_is) (by k_is) rfl (ga_v (by walk_at "ev") (ga_nil (single_g (j := 148) (ok'.le rfl rfl) .mk ⟨_, rfl, fun h => absurd h (by decide), fun _ => ?_⟩)))))
  refine gs_ifF0 (.to (ev_cmp (P1 := IsI (((#[0, 0] : Array UInt8).size : Int) + 2)) (P2 := IsI 40) (ev_add (ev_len (bs := #[0, 0]) ok' (by walk_at "ev") rfl (by decide)) ev_int) (by walk_at "ev") cp_gt) rfl) ?_
  refine gs_ret (ge_bin (ge_type ok' (by k_is) (by boot_fast) (by decide) rfl (ga_cons (ge_list ok' (ga_v (by walk_at "ev") (ga_cons (ge_ev (P := IsI 4) (ev_add (ev_len (bs := #[0, 0]) ok' (by walk_at "ev") rfl (by decide)) ev_int) fun v hv => ga_nil ⟨rfl, fun D => ga_nil (ge_bytes (l := [148, 4]) (.head _) ?_ (by decide) fun t => ge_v (by walk_at "ev") (ge_addY (by decide) fun t => ⟨[_], _, .refl _, ret t⟩))⟩)))))))
  obtain ⟨tv, rfl⟩ := hv
  exact .cons _ _ (.cons _ _ .nil)
theorem write_g {l : Addr} {vs : List Value} {k : Nat} {X : Option (Nat × Array UInt8)} (ok : CxOk w c sc 3 30) (hm : (l, W.listOf vs.toArray k) ∈ n) (hx : OneIs n vs X) (hX : X = none ∨ X = some (148, #[0, 0])) (ret : ∀ t, P (.bytes (if X = none then #[] else #[148, 4, 0, 0]) t) n) : GE w c sc m (call (.ref 336) [.ref l]) n P := by
  refine' g_enter (d := 2) (u := 27) [(Str.ofString "options", .ref l)] (by exact rfl) (ok.le rfl rfl) (by k_is) (by k_is) (by intro s; exact BindsTo.of_eq rfl) (by exact rfl) (by exact rfl) ?_
  intro c' ok'
  refine gs_let rfl rfl (ge_ev (ev_bytes (bl := [])) fun vf hf => ?_)
  refine gs_for (ge_v (by walk_at "ev") (.mk (fun _ : Unit => n) (fun p _ => p :: n) (fun i m _ => ∃ v, m (Str.ofString "found") = some v ∧ IsY (if i = 0 then #[] else #[148, 4, 0, 0]) v) () rfl rfl (fun _ _ => .refl _) (fun _ => hm) ⟨vf, by walk_at "nm", hf⟩ ?_ ?_))
  · rintro i v m₁ _ p hi ⟨v9, m1, h9⟩
    cases X with
    | none =>
      obtain rfl : vs = [] := hx
      cases hi
    | some x =>
      obtain rfl : x = (148, #[0, 0]) := (hX.resolve_left (fun h => by cases h)) |> Option.some.inj
      obtain ⟨t, kk, u1, u2, rfl, ht⟩ := hx
      obtain ⟨rfl, rfl⟩ := one_item hi
      rw [if_pos rfl] at h9
      obtain ⟨t9, rfl⟩ := h9
      have ht : (t, tupOf #[.int 148 u1, .bytes #[0, 0] u2] kk) ∈ n := ht
      refine gu_tup2 (.tail _ ht) rfl rfl ?_
      refine gs_let rfl rfl (ge_bin (ge_v (by walk_at "ev") (ge_call ok' (by k_is) (by k_is) rfl (ga_v (by walk_at "ev") (ga_v (by walk_at "ev") (ga_nil (option_g (ok'.le rfl rfl) fun t => ge_addY (by decide) fun t => ?_)))))))
      exact gs_nil (tk_next () ⟨_, by walk_at "nm", .mk⟩)
  · rintro m₁ _ ⟨v9, m1, h9⟩
    have e : (if vs.toArray.size = 0 then #[] else #[148, 4, 0, 0] : Array UInt8) = if X = none then #[] else #[148, 4, 0, 0] := by
      cases X with
      | none => obtain rfl : vs = [] := hx; rfl
      | some x => obtain ⟨t, kk, u1, u2, rfl, ht⟩ := hx; rfl
    rw [e] at h9
    obtain ⟨t9, rfl⟩ := h9
    have hz : (if X = none then #[] else #[148, 4, 0, 0] : Array UInt8).size = if X = none then 0 else 4 := by split <;> rfl
    refine gs_let rfl rfl (ge_bin (ge_v (by walk_at "ev") (ge_type ok' (by k_is) (by boot_fast) (by decide) rfl (ga_cons (ge_ev (ev_mod (j := 4) (ev_sub (i := 4) ev_int (ev_mod (j := 4) (ev_len (bs := if X = none then #[] else #[148, 4, 0, 0]) ok' (by walk_at "ev") rfl (by rw [hz]; split <;> decide)) ev_int (by decide))) ev_int (by decide)) fun v8 h8 => ga_nil (ge_bytes0 h8 (by rw [hz]; split <;> decide) fun t => ge_addY (by rw [hz]; split <;> decide) fun t2 => ?_))))))
    rw [Array.append_empty]
    refine gs_ifF0 (.to (ev_cmp (P1 := IsI _) (P2 := IsI 40) (ev_len (bs := if X = none then #[] else #[148, 4, 0, 0]) ok' (by walk_at "ev") rfl (by rw [hz]; split <;> decide)) (by walk_at "ev") cp_gt) (decide_eq_false (by rw [hz]; split <;> decide))) ?_
    exact gs_ret (ge_v (by walk_at "ev") (ret t2))
noncomputable def optX (b : Array UInt8) : Option (Nat × Array UInt8) := if b = #[] then none else if b = #[148, 4, 0, 0] then some (148, #[0, 0]) else some (7, #[4, 0, 0, 0, 0])
theorem later_g (ok : CxOk w c sc 5 60) (hb : OptOk b) (ret : ∀ t, P (.bytes (laterO b) t) n) : GE w c sc m (call (.ref 362) [.bytes b tb]) n P := by
  have h1 : (b = #[] ∧ optX b = none) ∨ ∃ kd y r, OneO b kd y r ∧ b ≠ #[] ∧ optX b = some (kd, r) := by
    rcases hb with rfl | rfl | rfl
    · exact .inl ⟨rfl, rfl⟩
    · exact .inr ⟨148, 4, #[0, 0], ⟨rfl, by decide, rfl, by decide, by decide, by decide, fun h => absurd h (by decide), by decide +kernel⟩, by decide, rfl⟩
    · exact .inr ⟨7, 7, #[4, 0, 0, 0, 0], ⟨rfl, by decide, rfl, by decide, by decide, by decide, fun _ => rfl, by decide +kernel⟩, by decide, rfl⟩
  have h2 : ((optX b).filter fun x => decide (128 ≤ (x.1 : Int))) = none ∨ ((optX b).filter fun x => decide (128 ≤ (x.1 : Int))) = some (148, #[0, 0]) := by
    rcases hb with rfl | rfl | rfl
    · exact .inl rfl
    · exact .inr rfl
    · exact .inl rfl
  have h3 : (if ((optX b).filter fun x => decide (128 ≤ (x.1 : Int))) = none then #[] else #[148, 4, 0, 0] : Array UInt8) = laterO b := by
    rcases hb with rfl | rfl | rfl <;> rfl
  refine GE.fin ?_
  refine' g_enter (d := 4) (u := 57) [(Str.ofString "options", .bytes b tb)] (by exact rfl) (ok.le rfl rfl) (by k_is) (by k_is) (by intro s; exact BindsTo.of_eq rfl) (by exact rfl) (by exact rfl) ?_
  intro c' ok'
  refine gs_try (gs_ret (ge_call ok' (by k_is) (by k_is) rfl (ga_cons (ge_call ok' (by k_is) (by k_is) rfl (ga_cons (ge_call ok' (by k_is) (by k_is) rfl (ga_v (by walk_at "ev") (ga_nil (read_o (ok'.le rfl rfl) h1 fun l vs k nw hx => ?_)))))))))
  refine ga_nil (copied_g (ok'.le rfl rfl) (List.mem_append_right _ (.head _)) hx fun D ys nw2 hy => ga_nil (write_g (ok'.le rfl rfl) (.head _) ?_ h2 fun t => ⟨_, rfl, (D, lst ys) :: (nw2 ++ (nw ++ [(l, W.listOf vs.toArray k)])), n, ?_, h3 ▸ ret t⟩))
  · revert hy
    cases (optX b).filter fun x => decide (128 ≤ (x.1 : Int)) with
    | none => exact id
    | some y => exact fun ⟨t, kk, u1, u2, e, h⟩ => ⟨t, kk, u1, u2, e, .tail _ h⟩
  · simp only [List.cons_append, List.append_assoc, List.nil_append]
    exact .refl _
end
end
section
open LCg
section
variable {w : World} {c : Cx} {sc : Scope} {m : Nms} {n im : Led} {d u : Nat} {K P : Value → Led → Prop} {l x dd hx lp : Addr} {vs vp : List Value} {k np : Nat} {xs parts : List (Nat × Array UInt8)} {TT : Nat → Tok} {began most ahead size : Int} {ev fv : Value} {pos : Pos} {R : Flow → Nms → Led → Prop} {rest : List Stmt}
theorem gs_break (h : R .brk m n) : GS w c sc m (execs (.Break pos :: rest) (c.en sc)) n R := .cons fun s Q E F N q => wpAny_Break (q _ _ _ _ _ h F N)
theorem ge_sortedP (hm : (l, W.listOf vs.toArray k) ∈ n) (ha : AllAre (PartIs im) vs xs) (him : Ext im n) (h64 : xs.length < 64) (hnd : (xs.map (·.1)).Nodup)
    (kk : ∀ D vs' xs' c, AllAre (PartIs im) vs' xs' → xs'.Perm xs → xs'.Pairwise (fun a b => a.1 < b.1) → K (.ref D) ((D, W.listOf vs'.toArray c) :: n)) : GE w c sc m (call (.builtin "sorted") [.ref l]) n K := fun s Q E F N r =>
  sorted_parts F N.N hm ha him h64 hnd fun D vs' xs' c h' hU F' N' a1 a2 a3 => r _ _ h' s.toks (kk D vs' xs' c a1 a2 a3) F' (N.new hU N')
theorem dg_octets_g (ok : CxOk w c sc 2 40) (hx1 : (x, instObj 177 dd) ∈ n) (hd1 : (dd, dgObj w.params TT began most hx lp ev ahead fv size) ∈ n) (hl1 : (lp, W.listOf vp.toArray np) ∈ n)
    (ha : AllAre (PartIs im) vp parts) (him : Ext im n) (h64 : parts.length < 64) (hnd : (parts.map (·.1)).Nodup) (hsz : (parts.map fun x => x.2.size).sum ≤ 1000)
    (ret : ∀ (xs : List (Nat × Array UInt8)) (t : Tok), xs.Perm parts → xs.Pairwise (fun a b => a.1 < b.1) → P (.bytes (octOf xs).toArray t) n) : GE w c sc m (call (.ref 167) [.ref x]) n P := by
  refine GE.fin ?_
  refine' g_enter (d := 1) (u := 37) [(Str.ofString "self", .ref x)] (by exact rfl) (ok.le rfl rfl) (by k_is) (by k_is) (by intro s; exact BindsTo.of_eq rfl) (by exact rfl) (by exact rfl) ?_
  intro c' ok'
  refine gs_ret (ge_bmethP ev_bytes (fun v0 h0 => by obtain ⟨t, rfl⟩ := h0; exact bm_join) fun v0 h0 => ga_cons (ge_comp2 rfl rfl (by decide) (by decide) rfl rfl (by decide) (ge_builtin ok' (by k_is) (by boot_fast) (by decide) rfl (ga_v (by walk_at "ev") (ga_nil (ge_sortedP hl1 ha him h64 hnd fun D vs' xs cc hA hP hS => ?_))))))
  obtain ⟨t0, rfl⟩ := h0
  have hlen := hA.len
  have hlp := hP.length_eq
  refine .mk (fun k ys => BytesAre ys ((xs.take k).map (·.2))) (cit_list (.head _) (by rw [List.size_toArray, sizeLine_eq]; omega)) .nil ?_ ?_
  · intro i v ys hi hv hys
    obtain ⟨⟨pb, pp⟩, hx, t, nt, u, u', rfl, ht⟩ := hA.at (by simpa using hv)
    refine ⟨t, _, _, nt, rfl, .tail _ (him _ ht), fun C oC mC n' h1 h2 h3 h4 h5 => fun s Q E F N q => evc_nm (P := Is (.bytes pp u')) h1 h2 h4 rfl .mk s Q E F N fun y h' tk' e F N => q _ _ _ ?_ F N⟩
    obtain rfl : y = _ := e
    rw [map_at hx]
    exact hys.snoc rfl
  · intro D2 ys hys
    rw [List.size_toArray, List.take_of_length_le (by omega)] at hys
    refine ga_nil (ge_joinY (.head _) hys ?_ fun v hv => ?_)
    · rw [List.map_map]
      have := sum_perm hP
      exact Nat.le_trans (Nat.le_of_eq this) (by omega)
    · obtain ⟨t, rfl⟩ := hv
      rw [List.map_map]
      exact ⟨[_, _], _, .refl _, ret xs t hP hS⟩
theorem dg_told_g (ok : CxOk w c sc 2 40) (hx1 : (x, instObj 177 dd) ∈ n) (hd1 : (dd, dgObj w.params TT began most hx lp ev ahead fv size) ∈ n) (hl1 : (lp, W.listOf vp.toArray np) ∈ n)
    (ha : AllAre (PartIs im) vp parts) (him : Ext im n) (h64 : parts.length < 64) (hnd : (parts.map (·.1)).Nodup) (hsz : (parts.map fun x => x.2.size).sum ≤ 1000)
    (ret : ∀ (xs : List (Nat × Array UInt8)) (t : Tok), xs.Perm parts → xs.Pairwise (fun a b => a.1 < b.1) → P (.bytes ((runOf [] xs).take 8).toArray t) n) : GE w c sc m (call (.ref 174) [.ref x]) n P := by
  refine GE.fin ?_
  refine' g_enter (d := 1) (u := 37) [(Str.ofString "self", .ref x)] (by exact rfl) (ok.le rfl rfl) (by k_is) (by k_is) (by intro s; exact BindsTo.of_eq rfl) (by exact rfl) (by exact rfl) ?_
  intro c' ok'
  refine gs_let rfl rfl (ge_ev (ev_bytes (bl := [])) fun vf hf => ?_)
  refine gs_for (ge_builtin ok' (by k_is) (by boot_fast) (by decide) rfl (ga_v (by walk_at "ev") (ga_nil (ge_sortedP hl1 ha him h64 hnd fun D vs' xs cc hA hP hS => ?_))))
  have hlen := hA.len
  have hlp := hP.length_eq
  have hz := sum_perm hP
  refine .mk (fun _ : Unit => (D, W.listOf vs'.toArray cc) :: n) (fun p _ => p :: (D, W.listOf vs'.toArray cc) :: n) (fun k m _ => ∃ (acc : List UInt8) (v : Value), m (Str.ofString "found") = some v ∧ IsY acc.toArray v ∧ acc.length + ((xs.drop k).map fun x => x.2.size).sum ≤ 1000 ∧ runOf acc (xs.drop k) = runOf [] xs) () rfl rfl (fun _ _ => .refl _) (fun _ => .head _) ⟨[], vf, by walk_at "nm", hf, by simpa using (by omega), rfl⟩ ?_ ?_
  · rintro i v m₁ _ p hv ⟨acc, v9, m1, h9, hs1, hr⟩
    obtain ⟨⟨pb, pp⟩, hx, t, nt, u1, u2, rfl, ht⟩ := hA.at (by simpa using hv)
    have ht' := him _ ht
    have hd := drop_at hx
    rw [hd] at hs1 hr
    rw [List.map_cons, List.sum_cons] at hs1
    have hs1 : acc.length + (pp.size + ((xs.drop (i + 1)).map fun x => x.2.size).sum) ≤ 1000 := hs1
    have hb : acc.toArray.size ≤ 1000 := by rw [List.size_toArray]; omega
    refine gu_tup2 (.tail _ (.tail _ ht')) rfl rfl ?_
    refine gs_ifb0 (b := decide (pb ≠ acc.length)) (.to (ev_cmp (P1 := IsI (pb : Int)) (P2 := IsI _) (by walk_at "ev") (ev_len (bs := acc.toArray) ok' (by walk_at "ev") rfl (by walk_at "bz")) cp_ne) (by rw [Bool.eq_iff_iff, bne_iff_ne, decide_eq_true_iff, List.size_toArray]; omega)) (fun hne => ?_) fun he => ?_
    · rw [runOf, if_neg (of_decide_eq_true hne)] at hr
      refine gs_break (rk_brk (tk_brk (rk_next ?_)))
      refine gs_ret (ge_ev (ev_slice (i1 := none) (i2 := some 8) (by walk_at "ev") (by walk_at "evo") (by walk_at "evo") (Nat.le_trans hb (by decide))) fun v hv => ?_)
      obtain ⟨t, rfl⟩ := hv
      rw [pick8, hr]
      exact ⟨[_, _], _, .refl _, ret xs t hP hS⟩
    · have he : pb = acc.length := Decidable.not_not.mp (of_decide_eq_false he)
      rw [runOf, if_pos he] at hr
      obtain ⟨t9, rfl⟩ := h9
      have ea : acc.toArray ++ pp = (acc ++ pp.toList).toArray := by apply Array.toList_inj.mp; simp
      refine gs_let rfl rfl (ge_bin (ge_v (by walk_at "ev") (ge_v (by walk_at "ev") (ge_addY (by rw [List.size_toArray]; omega) fun t => ?_))))
      rw [ea]
      exact gs_nil (tk_next () ⟨_, _, by walk_at "nm", .mk, by rw [List.length_append, Array.length_toList, Nat.add_assoc]; exact hs1, hr⟩)
  · rintro m₁ _ ⟨acc, v9, m1, h9, hs1, hr⟩
    have hb : acc.toArray.size ≤ 1000 := by rw [List.size_toArray]; omega
    rw [List.size_toArray, List.drop_of_length_le (by omega)] at hr
    refine gs_ret (ge_ev (ev_slice (i1 := none) (i2 := some 8) (by walk_at "ev") (by walk_at "evo") (by walk_at "evo") (Nat.le_trans hb (by decide))) fun v hv => ?_)
    obtain ⟨t, rfl⟩ := hv
    rw [pick8, show acc = runOf [] xs from hr]
    exact ⟨[_], _, .refl _, ret xs t hP hS⟩
end
end
section
theorem Ext.app2 {a b c : List (Addr × Obj)} (x : Ext a b) : Ext (c ++ a) (c ++ b) := fun p h => (List.mem_append.mp h).elim (fun h => List.mem_append_left _ h) (fun h => List.mem_append_right _ (x p h))
section
variable {P : Params} {most mo : Nat} {pre post l : List WE} {e e' : WE} {r im : List (Addr × Obj)} {h₀ h : Heap} {L wd : Addr} {W a b c : Addr × Obj} {i : Int}
theorem feet_mid : feet P most (pre ++ e :: post) = feet P most pre ++ (foot P most e.c e.d ++ feet P most post) := by rw [feet_app, feet_cons]
theorem ws_len (h : l.length ≤ 1000) : (wsOf l).length ≤ 1000 := by unfold wsOf; rw [List.length_map]; exact h
theorem drop_mid (nd : ((pre ++ e :: post).map (·.i)).Nodup) (hi : e.i = i) : dropK (wsOf (pre ++ e :: post)) (keyL i) = wsOf (pre ++ post) := by
  rw [dropK_ws]
  congr 1
  subst hi
  rw [List.map_append, List.map_cons, List.nodup_append] at nd
  obtain ⟨n1, n2, n3⟩ := nd
  have n4 := List.nodup_cons.mp n2
  rw [List.filter_append, List.filter_cons_of_neg (by simp)]
  congr 1
  · exact List.filter_eq_self.mpr fun q hq => by
      have := n3 _ (List.mem_map_of_mem (f := (·.i)) hq) e.i (.head _)
      simpa using this
  · exact List.filter_eq_self.mpr fun q hq => by
      have : q.i ≠ e.i := fun z => n4.1 (z ▸ List.mem_map_of_mem (f := (·.i)) hq)
      simpa using this
theorem absMid (hei : e.i = i) : (pre ++ e :: post).map absE = pre.map absE ++ (i, e.d) :: post.map absE := by subst hei; simp [absE]
theorem room_abs : ∀ {l : List WE}, (roomOf mo l).map absE = roomD mo (l.map absE)
  | [] => rfl
  | e :: r => by
    have h : ((e :: r).map absE).map (·.2) = (e :: r).map (·.d) := by simp [absE]
    show (if _ then _ else _ : List WE).map absE = if mo < totalOf (((e :: r).map absE).map (·.2)) then roomD mo (r.map absE) else (e :: r).map absE
    rw [h]
    split
    · exact room_abs
    · rfl
theorem room_sub : ∀ {l : List WE}, (roomOf mo l).Sublist l
  | [] => List.Sublist.refl _
  | e :: r => by
    unfold roomOf
    split
    · exact List.Sublist.trans room_sub (List.sublist_cons_self _ _)
    · exact List.Sublist.refl _
theorem mid_sub : (pre ++ post).Sublist (pre ++ e :: post) := List.Sublist.append (List.Sublist.refl _) (List.sublist_cons_self _ _)
theorem ReIn.swap (R : ReIn P im (pre ++ e :: post)) (hi : e'.i = e.i) (hk : e'.ka = e.ka) (D : DgIn P im e'.i e'.x e'.c e'.d) : ReIn P im (pre ++ e' :: post) := by
  refine ⟨fun q hq => ?_, fun q hq => ?_, ?_⟩
  · rcases List.mem_append.mp hq with hq | hq
    · exact R.keys q (List.mem_append_left _ hq)
    · rcases List.mem_cons.mp hq with rfl | hq
      · rw [hi, hk]; exact R.keys e (List.mem_append_right _ (.head _))
      · exact R.keys q (List.mem_append_right _ (.tail _ hq))
  · rcases List.mem_append.mp hq with hq | hq
    · exact R.dgs q (List.mem_append_left _ hq)
    · rcases List.mem_cons.mp hq with rfl | hq
      · exact D
      · exact R.dgs q (List.mem_append_right _ (.tail _ hq))
  · have : (pre ++ e' :: post).map (·.i) = (pre ++ e :: post).map (·.i) := by simp [hi]
    rw [this]
    exact R.nd
theorem ws_swap (h1 : e'.i = e.i) (h2 : e'.ka = e.ka) (h3 : e'.x = e.x) : wsOf (pre ++ e' :: post) = wsOf (pre ++ e :: post) := by unfold wsOf; simp [h1, h2, h3]
variable {st : List (Int × DgS)} {hh : HdS} {pl : Array UInt8} {now : Int} {p q : List (Int × DgS)} {d d' : DgS}
theorem putNone (h1 : ¬ (hh.off = 0 ∧ hh.more = false)) (h2 : (hh.more && (decide (pl.size = 0) || decide (pl.size % 8 ≠ 0))) = false) (he : entryOf most st i now = p ++ (i, d) :: q) (hd : dgPut most d hh pl = none) : RePutR most mo st i hh pl now (p ++ q) none := by
  unfold RePutR
  rw [if_neg h1, if_neg (by rw [h2]; decide)]
  exact ⟨p, d, q, he, by rw [hd]; exact ⟨rfl, rfl⟩⟩
theorem putRoom (h1 : ¬ (hh.off = 0 ∧ hh.more = false)) (h2 : (hh.more && (decide (pl.size = 0) || decide (pl.size % 8 ≠ 0))) = false) (he : entryOf most st i now = p ++ (i, d) :: q) (hd : dgPut most d hh pl = some d')
    (hw : (d'.en.isSome && (d'.first.isSome && decide (d'.rows.length = 0))) = false) : RePutR most mo st i hh pl now (roomD mo (p ++ (i, d') :: q)) none := by
  unfold RePutR
  rw [if_neg h1, if_neg (by rw [h2]; decide)]
  refine ⟨p, d, q, he, ?_⟩
  rw [hd]
  dsimp only
  rw [if_neg (by rw [hw]; decide)]
  exact ⟨rfl, rfl⟩
theorem putWhole {xs : List (Nat × Array UInt8)} {f : HdS} (h1 : ¬ (hh.off = 0 ∧ hh.more = false)) (h2 : (hh.more && (decide (pl.size = 0) || decide (pl.size % 8 ≠ 0))) = false) (he : entryOf most st i now = p ++ (i, d) :: q) (hd : dgPut most d hh pl = some d')
    (hw : (d'.en.isSome && (d'.first.isSome && decide (d'.rows.length = 0))) = true) (hf : d'.first = some f) (hp : xs.Perm d'.parts) (hs : xs.Pairwise fun a b => a.1 < b.1) :
    RePutR most mo st i hh pl now (p ++ q) (some ⟨false, 0, f.opt, (xs.map fun x => x.2.toList).flatten.toArray⟩) := by
  unfold RePutR
  rw [if_neg h1, if_neg (by rw [h2]; decide)]
  refine ⟨p, d, q, he, ?_⟩
  rw [hd]
  dsimp only
  rw [if_pos hw]
  exact ⟨rfl, xs, f, hf, hp, hs, rfl⟩
end
end
section
theorem keysW {prog : Program} {w : World} {l : List WE} : (List.map (fun x : DictEntry => x.key) (List.map (entryOfKey (TK prog w)) (wsOf l)).toArray.toList) = l.map fun e => Value.ref e.ka := by
  unfold wsOf
  rw [List.map_map, List.map_map]
  rfl
theorem Sw.same {d : Addr} {o : Obj} {n n' : Led} (h : Sw d o o n n') : n' = n := by
  generalize e : o = o2 at h
  subst e
  induction h with
  | head => rfl
  | tail _ ih => rw [ih]
  | left _ ih => rw [ih]
  | right _ ih => rw [ih]
section
variable {α : Type} {w : World} {c : Cx} {sc : Scope} {m : Nms} {n n' im G : Led} {d u : Nat} {K P : Value → Led → Prop} {R : Flow → Nms → Led → Prop} {v v1 : Value} {e1 e2 e : PySem.Expr} {pos : Pos}
theorem ge_notT {K : Bool → Led → Prop} (h : GE w c sc m (isTrue e (c.en sc) (eval e (c.en sc))) n (fun b n' => K (!b) n')) : GE w c sc m (isTrue (.UnaryOp .Not e pos) (c.en sc) (eval (.UnaryOp .Not e pos) (c.en sc))) n K := fun s Q E F N r => isTrue_not (h s _ E F N fun b n' h' tk' k F N => r _ _ _ _ k F N)
theorem CxOk.u1 (ok : CxOk w c sc d (u + 1)) : (c.ar sc).units + 1 < cLine := by
  obtain ⟨B, X, T, hk, hdp, hun⟩ := ok
  exact Nat.lt_of_le_of_lt (Nat.add_le_add_left (Nat.le_add_left 1 u) _) hun
variable {l : List WE} {ep : Nat} {wd ka : Addr} {T : Nat → Tok} {kn : Nat} {i : Int} {ex : WE}
theorem cp_notinW (ok : CxOk w c sc d (u + 1)) (lo : (wd == sysModules) = false) (hm : (wd, wdObj PR w (wsOf l) ep) ∈ n) (R : ReIn w.params im l) (him : Ext im n) (hk : (ka, keyObj T kn i) ∈ n) (kk : K (.bool (decide (atKey (wsOf l) (keyL i) = none))) n) : GE w c sc m (compareOp .NotIn (.ref ka) (.ref wd)) n K := fun s Q E F N r =>
  wd_notin ok.u1 N.N lo hm R.keysIn him R.nodup hk fun tk => r _ _ _ _ (by
    have e : decide (atKey (wsOf l) (keyL i) = none) = !(atKey (wsOf l) (keyL i)).isSome := by cases atKey (wsOf l) (keyL i) <;> rfl
    rw [e] at kk
    exact kk) F N
theorem ev_itemW {P : Value → Prop} (ok : CxOk w c sc d (u + 1)) (a : EvP w c sc m n e1 (Is (.ref wd))) (b : EvP w c sc m n e2 (Is (.ref ka))) (hm : (wd, wdObj PR w (wsOf l) ep) ∈ n) (R : ReIn w.params im l) (him : Ext im n) (hk : (ka, keyObj T kn i) ∈ n) (he : ex ∈ l) (hi : ex.i = i) (hp : P (.ref ex.x))
    (hs : ∀ l k, subscripted e2 false (.ref l) (.ref k) = operate [.ref l, .ref k] (getItem (.ref l) (.ref k)) := by intro _ _; with_unfolding_all rfl) : EvP w c sc m n (.Subscript e1 e2 pos) P := fun s Q E F N r =>
  Subscript_ (a s _ E F N fun v1 h1 tk1 p1 F N => b _ _ E F N fun v2 h2 tk2 p2 F N => by
    obtain rfl : v1 = _ := p1
    obtain rfl : v2 = _ := p2
    exact kba_turn (value' := PySem.Expr.Name (PySem.Str.ofString "_") ⟨0, 0, 0, 0⟩) (fun _ => rfl) (wd_item N.N hm hk (atKey_ws R.nd he hi) R.keysIn him R.nodup ok.u1 (fun tk => r _ _ _ hp F N) (hs _ _) fun _ => rfl))
theorem Sw.memb {d : Addr} {o o' : Obj} {n n' : Led} (h : Sw d o o' n n') : (d, o') ∈ n' := by
  induction h with
  | head => exact .head _
  | tail _ ih => exact .tail _ ih
  | left _ ih => exact List.mem_append_left _ ih
  | right _ ih => exact List.mem_append_right _ ih
theorem nodup_eq {n : Led} (D : (n.map (·.1)).Nodup) {p q : Addr × Obj} (hp : p ∈ n) (hq : q ∈ n) (e : p.1 = q.1) : p = q := by
  induction n with
  | nil => cases hp
  | cons x r ih =>
    have D' := List.nodup_cons.mp D
    rcases List.mem_cons.mp hp with h1 | h1 <;> rcases List.mem_cons.mp hq with h2 | h2
    · rw [h1, h2]
    · exact absurd (List.mem_map.mpr ⟨q, h2, by rw [← e, h1]⟩) D'.1
    · exact absurd (List.mem_map.mpr ⟨p, h1, by rw [e, h2]⟩) D'.1
    · exact ih D'.2 h1 h2
theorem Sw.other {d : Addr} {o : Obj} {n : Led} {f : Obj → Led} (S : ∀ o', Sw d o o' n (f o')) (D : (n.map (·.1)).Nodup) {p : Addr × Obj} (h : ∀ o', p ∈ f o') : p.1 ≠ d := fun e => by
  have k : ∀ o', p.2 = o' := fun o' => by
    have := nodup_eq (by rw [(S o').keys]; exact D) (h o') (S o').memb e
    rw [this]
  have h1 := (k (W.listOf #[] 0)).symm.trans (k (W.listOf #[] 1))
  simp [W.listOf] at h1
theorem bm_popW (hm : (wd, wdObj PR w (wsOf l) ep) ∈ n) : BMeth w c sc m n (.ref wd) (Str.ofString "pop") "dict.pop" := fun pl s Q E F N q => d_method PySem.F.slot_dict_pop PySem.F.type_dict_pop N.N hm q
theorem ge_popW {f : Obj → Led} (ok : CxOk w c sc d (u + 1)) (S : ∀ o', Sw wd (wdObj PR w (wsOf l) ep) o' n (f o')) (R : ReIn w.params im l) (him : ∀ o', Ext im (f o')) (hk : ∀ o', (ka, keyObj T kn i) ∈ f o') (he : ex ∈ l) (hi : ex.i = i) (hz : l.length ≤ 1000) (kk : ∀ ep', K (.ref ex.x) (f (wdObj PR w (dropK (wsOf l) (keyL i)) ep'))) : GE w c sc m (call (.builtin "dict.pop") [.ref wd, .ref ka]) n K := fun s Q E F N r =>
  have N' := newsFront N.N ((S (wdObj PR w (wsOf l) ep)).upd N.D)
  have mem : ∀ {p : Addr × Obj}, (∀ o', p ∈ f o') → p ∈ offL wd n := fun h => offL_mem ((S (wdObj PR w (wsOf l) ep)).same ▸ h _) (Sw.other S N.D h)
  wd_pop (p := (ex.ka, .ref ex.x)) ok.u1 F N' offL_ne R.keysIn (fun p hp => mem fun o' => him o' p hp) R.nodup (mem hk) (atKey_ws R.nd he hi) (ws_len hz) fun h' ep' tk F' N' => r _ _ _ _ (kk ep') F' (N.sw (S _) (newsBack N' ((S _).upd N.D)))
theorem gu_setW {f : Obj → Led} {P : Nms → Led → Prop} {x : Addr} (ok : CxOk w c sc d (u + 1)) (a : EvP w c sc m n e1 (Is (.ref wd))) (b : EvP w c sc m n e2 (Is (.ref ka))) (S : ∀ o', Sw wd (wdObj PR w (wsOf l) ep) o' n (f o')) (R : ReIn w.params im l) (him : ∀ o', Ext im (f o')) (hk : ∀ o', (ka, keyObj T kn i) ∈ f o') (hno : atKey (wsOf l) (keyL i) = none) (hz : l.length ≤ 1000) (kk : ∀ ep', P m (f (wdObj PR w (wsOf l ++ [(keyL i, ka, .ref x)]) ep'))) : GU w c sc m (assign (.Subscript e1 e2 pos) (c.en sc) (.ref x)) n P := fun s Q E F N r =>
  kas_sub (a s _ E F N fun v1 h1 tk1 p1 F N => b _ _ E F N fun v2 h2 tk2 p2 F N => by
    obtain rfl : v1 = _ := p1
    obtain rfl : v2 = _ := p2
    have mem : ∀ {p : Addr × Obj}, (∀ o', p ∈ f o') → p ∈ offL wd n := fun h => offL_mem ((S (wdObj PR w (wsOf l) ep)).same ▸ h _) (Sw.other S N.D h)
    exact wd_set ok.u1 F (newsFront N.N ((S (W.listOf #[] 0)).upd N.D)) offL_ne R.keysIn (fun p hp => mem fun o' => him o' p hp) R.nodup (mem hk) hno (ws_len hz) fun h' ep' tk F' N' => r _ _ _ _ (kk ep') F' (N.sw (S _) (newsBack N' ((S _).upd N.D))))
theorem ge_listW (hm : (wd, wdObj PR w (wsOf l) ep) ∈ n) (lo : (wd == sysModules) = false) (hz : l.length ≤ 1000) (kk : ∀ D cc, K (.ref D) ((D, W.listOf (l.map fun e => Value.ref e.ka).toArray cc) :: n)) : GE w c sc m (call (.type "list") [.ref wd]) n K := fun s Q E F N r =>
  d_list rfl F N.N hm lo (by rw [ws_size]; omega) fun D cc h' tk hu F' N' => by
    rw [keysW] at N'
    exact r _ _ _ _ (kk D cc) F' (N.new hu N')
variable {x dd hx hdx lp lr : Addr} {TT Tk : Nat → Tok} {began most ahead size : Int} {ev fv : Value} {vp vr : List Value} {np nr : Nat} {parts : List (Nat × Array UInt8)} {rows : List (Nat × Nat)}
variable {rx rdx : Addr} {RT : Nat → Tok} {tl : Int}
end
section
variable {w : World} {P : Params} {T : Nat → Tok} {tl mo most : Int} {wd : Addr}
theorem re_waiting : ObjAt (Str.ofString "waiting") (reObj P T tl mo most wd) (.ref wd) := ⟨_, _, rfl, rfl, rfl⟩
theorem re_most : ObjAt (Str.ofString "most") (reObj P T tl mo most wd) (.int most (T 6)) := ⟨_, _, rfl, rfl, rfl⟩
theorem re_limit : ObjAt (Str.ofString "time_limit") (reObj P T tl mo most wd) (.int tl (T 4)) := ⟨_, _, rfl, rfl, rfl⟩
theorem i260_waiting : AttrIn w 260 (Str.ofString "waiting") := ⟨_, by k_is, by k_is, by k_is, by k_is⟩
theorem i260_most : AttrIn w 260 (Str.ofString "most") := ⟨_, by k_is, by k_is, by k_is, by k_is⟩
theorem i260_limit : AttrIn w 260 (Str.ofString "time_limit") := ⟨_, by k_is, by k_is, by k_is, by k_is⟩
theorem m260_room : MethIn w 260 (Str.ofString "make_room") 243 := ⟨by k_is, by k_is, by k_is, by k_is⟩
theorem rn_room : ObjNo (Str.ofString "make_room") (reObj P T tl mo most wd) := ⟨_, _, rfl, rfl⟩
theorem m177_whole : MethIn w 177 (Str.ofString "is_whole") 162 := ⟨by k_is, by k_is, by k_is, by k_is⟩
theorem m177_octets : MethIn w 177 (Str.ofString "octets") 167 := ⟨by k_is, by k_is, by k_is, by k_is⟩
theorem m177_told : MethIn w 177 (Str.ofString "told_octets") 174 := ⟨by k_is, by k_is, by k_is, by k_is⟩
end
section
variable {P : Params} {T : Nat → Tok} {began most ahead size : Int} {hx lp : Addr} {ev fv : Value}
theorem dn_put : ObjNo (Str.ofString "put") (dgObj P T began most hx lp ev ahead fv size) := ⟨_, _, rfl, rfl⟩
theorem dn_whole : ObjNo (Str.ofString "is_whole") (dgObj P T began most hx lp ev ahead fv size) := ⟨_, _, rfl, rfl⟩
theorem dn_octets : ObjNo (Str.ofString "octets") (dgObj P T began most hx lp ev ahead fv size) := ⟨_, _, rfl, rfl⟩
theorem dn_told : ObjNo (Str.ofString "told_octets") (dgObj P T began most hx lp ev ahead fv size) := ⟨_, _, rfl, rfl⟩
end
end
section
noncomputable def OctG (d : DgS) (oct : List UInt8) : Prop := (d.first = none → oct = []) ∧ (d.first ≠ none → ∃ xs : List (Nat × Array UInt8), xs.Perm d.parts ∧ xs.Pairwise (fun a b => a.1 < b.1) ∧ oct = (runOf [] xs).take 8)
inductive GoneIs (P : Params) (led : List (Addr × Obj)) (v : Value) (x : Int × DgS) : Prop
  | mk (t : Addr) (fv : Value) (n : Nat) (u : Tok) (oct : List UInt8) : v = .ref t → (t, tupOf #[fv, .bytes oct.toArray u] n) ∈ led → FirstIs P led x.1 fv x.2.first → OctG x.2 oct → GoneIs P led v x
theorem GoneIs.mono {P : Params} {led led' : List (Addr × Obj)} (hs : Ext led led') (v : Value) (x : Int × DgS) (h : GoneIs P led v x) : GoneIs P led' v x := by
  obtain ⟨t, fv, n, u, oct, h1, h2, h3, h4⟩ := h
  exact ⟨t, fv, n, u, oct, h1, hs _ h2, h3.mono hs, h4⟩
noncomputable def due (tl now : Int) (d : DgS) : Bool := decide (now - d.began ≥ tl)
noncomputable def keepW (tl now : Int) (l : List WE) : List WE := l.filter fun e => !due tl now e.d
noncomputable def goneW (tl now : Int) (l : List WE) : List WE := l.filter fun e => due tl now e.d
theorem filter_at {α : Type} {p : α → Bool} {l : List α} {k : Nat} {x : α} (h : l[k]? = some x) : (l.take (k + 1)).filter p = (l.take k).filter p ++ (if p x = true then [x] else []) := by
  rw [List.take_add_one, h, List.filter_append]
  congr 1
  by_cases hp : p x = true <;> simp [hp]
theorem ka_at {l : List WE} {k : Nat} {v : Value} (h : (l.map fun e => Value.ref e.ka).toArray[k]? = some v) : ∃ e, l[k]? = some e ∧ v = .ref e.ka := by
  rw [List.getElem?_toArray, List.getElem?_map] at h
  cases hq : l[k]? with
  | none => rw [hq] at h; cases h
  | some q => rw [hq] at h; exact ⟨q, rfl, (Option.some.inj h).symm⟩
theorem keep_sub {tl now : Int} {l : List WE} {k : Nat} : (keepW tl now (l.take k) ++ l.drop k).Sublist l := by
  have : (keepW tl now (l.take k) ++ l.drop k).Sublist (l.take k ++ l.drop k) := List.Sublist.append List.filter_sublist (List.Sublist.refl _)
  rwa [List.take_append_drop] at this
theorem mid_at {tl now : Int} {l : List WE} {k : Nat} {e : WE} (h : l[k]? = some e) : keepW tl now (l.take k) ++ l.drop k = keepW tl now (l.take k) ++ e :: l.drop (k + 1) := by rw [drop_at h]
end
section
noncomputable def runT (ps : List (Nat × UInt8)) : Nat → Nat → List UInt8
  | 0, _ => []
  | f + 1, a => match octAt ps a with | none => [] | some o => o :: runT ps f (a + 1)
noncomputable def octT (d : TwS) : List UInt8 := if d.first = none then [] else runT d.places 8 0
noncomputable def ToldV (led : List (Addr × Obj)) (i : Int) (v : Value) : Option HdS → Prop
  | none => v = .none
  | some f => ∃ (t : Addr) (T : Nat → Tok) (k : Nat), v = .ref t ∧ (t, toldObj T k i f.more (f.off : Int) f.opt) ∈ led
inductive TGoneIs (led : List (Addr × Obj)) (v : Value) (x : Int × TwS) : Prop
  | mk {lo : Addr} {fv : Value} {n : Nat} {u : Tok} : v = .ref lo → (lo, W.listOf #[fv, .bytes (octT x.2).toArray u] n) ∈ led → ToldV led x.1 fv x.2.first → TGoneIs led v x
theorem goneMk {led : List (Addr × Obj)} {v : Value} {x : Int × TwS} {lo : Addr} {fv : Value} {n : Nat} {u : Tok} {xs : List UInt8} (h : xs = octT x.2) (h1 : v = .ref lo) (h2 : (lo, W.listOf #[fv, .bytes xs.toArray u] n) ∈ led) (h3 : ToldV led x.1 fv x.2.first) : TGoneIs led v x := ⟨h1, h ▸ h2, h3⟩
noncomputable def dueT (tl now : Int) (d : TwS) : Bool := decide (now - d.began ≥ tl)
noncomputable def keepT (tl now : Int) (l : List TE) : List TE := l.filter fun e => !dueT tl now e.d
noncomputable def goneT (tl now : Int) (l : List TE) : List TE := l.filter fun e => dueT tl now e.d
theorem keepT_sub {tl now : Int} {l : List TE} {k : Nat} : (keepT tl now (l.take k) ++ l.drop k).Sublist l := by
  have : (keepT tl now (l.take k) ++ l.drop k).Sublist (l.take k ++ l.drop k) := List.Sublist.append List.filter_sublist (List.Sublist.refl _)
  rwa [List.take_append_drop] at this
theorem dropT {l : List TE} {k : Nat} {e : TE} (h : l[k]? = some e) : l.drop k = e :: l.drop (k + 1) := by
  obtain ⟨hk, he⟩ := List.getElem?_eq_some_iff.mp h
  rw [List.drop_eq_getElem_cons hk, he]
theorem ints_getT : ∀ {ks : List Value} {l : List TE} {k : Nat} {v : Value}, IntsAre ks (l.map (·.i)) → ks.toArray[k]? = some v → ∃ e t, l[k]? = some e ∧ v = .int e.i t := by
  intro ks l k v hI hv
  rw [List.getElem?_toArray] at hv
  obtain ⟨n, t, rfl, hn⟩ := IntsAre.at hI k v hv
  rw [List.getElem?_map, Option.map_eq_some_iff] at hn
  obtain ⟨e, he, rfl⟩ := hn
  exact ⟨e, t, he, rfl⟩
theorem runT_0 {ps : List (Nat × UInt8)} {xs : List UInt8} (h1 : runT ps 8 0 = xs ++ runT ps (8 - xs.length) xs.length) (h2 : ¬ xs.length < 8) : runT ps 8 0 = xs := by
  have : 8 - xs.length = 0 := by omega
  rw [this] at h1
  rw [h1]
  exact List.append_nil _
theorem runT_no {ps : List (Nat × UInt8)} {xs : List UInt8} (h1 : runT ps 8 0 = xs ++ runT ps (8 - xs.length) xs.length) (h2 : octAt ps xs.length = none) : runT ps 8 0 = xs := by
  have : runT ps (8 - xs.length) xs.length = [] := by
    cases 8 - xs.length with
    | zero => rfl
    | succ n => unfold runT; rw [h2]
  rw [this] at h1
  rw [h1]
  exact List.append_nil _
theorem runT_go {ps : List (Nat × UInt8)} {xs : List UInt8} {o : UInt8} (h1 : runT ps 8 0 = xs ++ runT ps (8 - xs.length) xs.length) (h2 : octAt ps xs.length = some o) (h3 : xs.length < 8) : runT ps 8 0 = (xs ++ [o]) ++ runT ps (8 - (xs ++ [o]).length) (xs ++ [o]).length := by
  have e : 8 - xs.length = (8 - (xs ++ [o]).length) + 1 := by rw [List.length_append, List.length_cons, List.length_nil]; omega
  have h4 : runT ps (8 - xs.length) xs.length = o :: runT ps (8 - (xs ++ [o]).length) (xs.length + 1) := by
    rw [e]
    show (match octAt ps xs.length with | none => [] | some o => o :: _) = _
    rw [h2]
  rw [h1, h4, List.append_assoc, List.length_append]
  rfl
theorem octT_no {d : TwS} (h : d.first = none) : octT d = [] := if_pos h
theorem octT_yes {d : TwS} {f : HdS} (h : d.first = some f) : octT d = runT d.places 8 0 := if_neg (by rw [h]; exact fun q => nomatch q)
theorem runT_len {ps : List (Nat × UInt8)} : ∀ {f a : Nat}, (runT ps f a).length ≤ f
  | 0, _ => Nat.le_refl _
  | f + 1, a => by
    unfold runT
    split
    · exact Nat.zero_le _
    · exact Nat.succ_le_succ runT_len
theorem octT_len {d : TwS} : (octT d).length ≤ 8 := by
  unfold octT
  split
  · exact Nat.zero_le _
  · exact runT_len
theorem run8 {ys : List Value} {xs : List UInt8} (h : ys.length = xs.length) (q : ((ys.length : Nat) : Int) < 8) : xs.length < 8 := by omega
theorem run8o {ys : List Value} {xs : List UInt8} (h : ys.length = xs.length) (q : ¬ ((ys.length : Nat) : Int) < 8) : ¬ xs.length < 8 := by omega
theorem run8n {n : Nat} {xs : List UInt8} {o : UInt8} (h : n = 8 - xs.length) (q : xs.length < 8) : 8 - (xs ++ [o]).length < n := by rw [List.length_append, List.length_cons, List.length_nil]; omega
theorem run8l {xs : List UInt8} {o : UInt8} (q : xs.length < 8) : (xs ++ [o]).length ≤ 8 := by rw [List.length_append, List.length_cons, List.length_nil]; omega
theorem ints_snoc {ys : List Value} {xs : List UInt8} {o : UInt8} {t : Tok} (h : IntsAre ys (xs.map fun b => ((b.toNat : Nat) : Int))) : IntsAre (ys ++ [.int (o.toNat : Int) t]) ((xs ++ [o]).map fun b => ((b.toNat : Nat) : Int)) := by
  rw [List.map_append]
  exact h.append (.cons _ _ .nil)
section
variable {l : List TE} {k : Nat} {e : TE} {tl now : Int} {led : List (Addr × Obj)} {vs : List Value} {v : Value}
theorem keep_yes (he : l[k]? = some e) (hd : tl ≤ now - e.d.began) : keepT tl now (l.take (k + 1)) ++ l.drop (k + 1) = keepT tl now (l.take k) ++ l.drop (k + 1) := by
  have hb : dueT tl now e.d = true := decide_eq_true hd
  unfold keepT
  rw [List.take_add_one, he, List.filter_append]
  simp [hb]
theorem keep_no (he : l[k]? = some e) (hd : ¬ tl ≤ now - e.d.began) : keepT tl now (l.take (k + 1)) ++ l.drop (k + 1) = keepT tl now (l.take k) ++ e :: l.drop (k + 1) := by
  have hb : dueT tl now e.d = false := decide_eq_false hd
  unfold keepT
  rw [List.take_add_one, he, List.filter_append]
  simp [hb]
theorem gone_yes (he : l[k]? = some e) (hd : tl ≤ now - e.d.began) (h : AllAre (TGoneIs led) vs ((goneT tl now (l.take k)).map absT)) (hv : TGoneIs led v (e.i, e.d)) : AllAre (TGoneIs led) (vs ++ [v]) ((goneT tl now (l.take (k + 1))).map absT) := by
  have hb : dueT tl now e.d = true := decide_eq_true hd
  have : (goneT tl now (l.take (k + 1))).map absT = (goneT tl now (l.take k)).map absT ++ [(e.i, e.d)] := by
    unfold goneT
    rw [List.take_add_one, he, List.filter_append, List.map_append]
    simp [hb, absT]
  rw [this]
  exact h.snoc hv
theorem gone_no (he : l[k]? = some e) (hd : ¬ tl ≤ now - e.d.began) (h : AllAre (TGoneIs led) vs ((goneT tl now (l.take k)).map absT)) : AllAre (TGoneIs led) vs ((goneT tl now (l.take (k + 1))).map absT) := by
  have hb : dueT tl now e.d = false := decide_eq_false hd
  have : (goneT tl now (l.take (k + 1))).map absT = (goneT tl now (l.take k)).map absT := by
    unfold goneT
    rw [List.take_add_one, he, List.filter_append, List.map_append]
    simp [hb]
  rw [this]
  exact h
theorem TGoneIs.mono {led' : List (Addr × Obj)} (hs : Ext led led') (v : Value) (x : Int × TwS) (h : TGoneIs led v x) : TGoneIs led' v x := by
  obtain ⟨h1, h2, h3⟩ := h
  refine ⟨h1, hs _ h2, ?_⟩
  revert h3
  cases x.2.first with
  | none => exact id
  | some f => exact fun ⟨t, T, k, h1, h2⟩ => ⟨t, T, k, h1, hs _ h2⟩
end
theorem keepT_len {l : List TE} {k : Nat} {e : TE} {tl now : Int} (he : l[k]? = some e) : (keepT tl now (l.take k) ++ e :: l.drop (k + 1)).length ≤ l.length := by
  rw [← dropT he]
  exact keepT_sub.length_le
theorem keepDone {ks : List Value} {l : List TE} {tl now : Int} (h : IntsAre ks (l.map (·.i))) : keepT tl now (l.take ks.toArray.size) ++ l.drop ks.toArray.size = keepT tl now l := by
  have : ks.toArray.size = l.length := by rw [List.size_toArray, h.length, List.length_map]
  rw [this, List.take_length, List.drop_length, List.append_nil]
theorem goneDone {ks : List Value} {l : List TE} {tl now : Int} (h : IntsAre ks (l.map (·.i))) : goneT tl now (l.take ks.toArray.size) = goneT tl now l := by
  have : ks.toArray.size = l.length := by rw [List.size_toArray, h.length, List.length_map]
  rw [this, List.take_length]
theorem lenX {vs : List Value} {x : Value} {k : Nat} (h : vs.length ≤ k) : (vs ++ [x]).length ≤ k + 1 := by rw [List.length_append]; exact Nat.add_le_add_right h 1
end
section
section
open PySem.SeqAt
variable {A : Around} {s : Shared}
theorem rc_bytes (b : Array UInt8) (t u : Tok) : RcAt A s (.bytes b t) (.bytes b u) true := fun prog w E Q h =>
  richCompare_gives (typeIs_bytes s b t) (typeIs_bytes s b u) FB.slot_bytes_eq FB.entry_bytes_eq (FB.args_bytes_eq_2 _ _) (gives_bytes_eq b b t u) (fun x => nomatch x) (by rw [beq_self_eq_true]; exact h)
theorem eq_byt (b : Array UInt8) (t u : Tok) : EqAt A s (.bytes b t) (.bytes b u) true := fun prog w E Q h => by
  unfold eqBool
  refine wpAny_holding ?_
  refine wpAny_ite_split (fun hab => ?_) (fun _ => ?_)
  · exact wpAny_bind (wpAny_rule (wpAny_pure h))
  · exact wpAny_bind (rc_bytes b t u prog w E _ (wpAny_truthy_bool h))
theorem eq_int (a : Int) (t u : Tok) : EqAt A s (.int a t) (.int a u) true := by
  have := EqAt.int_int (A := A) (s := s) a t a u
  rwa [beq_self_eq_true] at this
theorem eq_boo (a : Bool) : EqAt A s (.bool a) (.bool a) true := EqAt.same _
theorem eq_told {t t' : Addr} {T T' : Nat → Tok} {n n' : Nat} {i o : Int} {mo : Bool} {b : Array UInt8} (hu : A.units < cLine) (h : s.heap.get? t = some (toldObj T n i mo o b)) (h' : s.heap.get? t' = some (toldObj T' n' i mo o b)) : EqAt A s (.ref t) (.ref t') true := by
  by_cases e : t = t'
  · rw [e]; exact EqAt.same _
  · have k : RcAt A s (.ref t) (.ref t') ((List.range (min 10 10)).all (fun _ => true) && 10 == 10) := RcAt.tuples (items := #[.int 10 (T 0), .int 20 (T 1), .int 17 (T 2), .int i (T 3), .int 64 (T 4), .int 0 (T 5), .bool false, .bool mo, .int o (T 6), .bytes b (T 7)])
      (items2 := #[.int 10 (T' 0), .int 20 (T' 1), .int 17 (T' 2), .int i (T' 3), .int 64 (T' 4), .int 0 (T' 5), .bool false, .bool mo, .int o (T' 6), .bytes b (T' 7)]) (e := fun _ => true) ⟨_, h, rfl, _, rfl⟩ ⟨_, h', rfl, _, rfl⟩ hu (fun j h1 h2 => by
      match j with
      | 0 => exact eq_int _ _ _
      | 1 => exact eq_int _ _ _
      | 2 => exact eq_int _ _ _
      | 3 => exact eq_int _ _ _
      | 4 => exact eq_int _ _ _
      | 5 => exact eq_int _ _ _
      | 6 => exact eq_boo _
      | 7 => exact eq_boo _
      | 8 => exact eq_int _ _ _
      | 9 => exact eq_byt _ _ _
      | j + 10 => exact absurd h1 (by simp))
    exact EqAt.of_refs e k
theorem items2 {fv fv' : Value} {b : Array UInt8} {u u' : Tok} (h : EqAt A.in1 s fv fv' true) : ∀ j (h1 : j < (#[fv, .bytes b u] : Array Value).size) (h2 : j < (#[fv', .bytes b u'] : Array Value).size), EqAt A.in1 s (#[fv, .bytes b u] : Array Value)[j] (#[fv', .bytes b u'] : Array Value)[j] ((fun _ => true) j) := fun j h1 h2 => by
  match j with
  | 0 => exact h
  | 1 => exact eq_byt _ _ _
  | j + 2 => exact absurd h1 (by simp)
theorem ne_pair {l l' : Addr} {fv fv' : Value} {b : Array UInt8} {u u' : Tok} {n n' : Nat} (hu : A.units < cLine) (h1 : s.heap.get? l = some (W.listOf #[fv, .bytes b u] n)) (h2 : s.heap.get? l' = some (W.listOf #[fv', .bytes b u'] n')) (h : EqAt A.in1 s fv fv' true) : RcNeAt A s (.ref l) (.ref l') false :=
  RcNeAt.lists (e := fun _ => true) ⟨_, h1, rfl, _, rfl⟩ ⟨_, h2, rfl, _, rfl⟩ rfl hu (items2 h)
theorem eq_pair {l l' : Addr} {fv fv' : Value} {b : Array UInt8} {u u' : Tok} {n n' : Nat} (hu : A.units < cLine) (h1 : s.heap.get? l = some (W.listOf #[fv, .bytes b u] n)) (h2 : s.heap.get? l' = some (W.listOf #[fv', .bytes b u'] n')) (h : EqAt A.in1 s fv fv' true) : EqAt A s (.ref l) (.ref l') true := by
  by_cases e : l = l'
  · rw [e]; exact EqAt.same _
  · have k : RcAt A s (.ref l) (.ref l') ((List.range 2).all (fun _ => true)) := RcAt.lists (e := fun _ => true) ⟨_, h1, rfl, _, rfl⟩ ⟨_, h2, rfl, _, rfl⟩ rfl hu (items2 h)
    exact EqAt.of_refs e k
end
end
section
noncomputable def inRow (rows : List (Nat × Nat)) (a : Nat) : Prop := ∃ q ∈ rows, q.1 ≤ a ∧ a < q.2
noncomputable def partAt (parts : List (Nat × Array UInt8)) (a : Nat) (o : UInt8) : Prop := ∃ x ∈ parts, x.1 ≤ a ∧ x.2.toList[a - x.1]? = some o
noncomputable def cnt (p : Nat → Bool) : Nat → Nat
  | 0 => 0
  | k + 1 => cnt p k + if p k = true then 1 else 0
structure DRel (n : Nat) (d : DgS) (t : TwS) : Prop where
  began : d.began = t.began
  en : d.en = t.en
  ahead : d.ahead = t.ahead
  first : d.first = t.first
  enPos : ∀ z, d.en = some z → 0 < z ∧ z ≤ 96
  rowsOk : ∀ q ∈ d.rows, q.1 < q.2 ∧ q.2 ≤ 96
  rowsApart : d.rows.Pairwise (fun q r => q.2 < r.1)
  hole : ∀ a, inRow d.rows a ↔ (a < d.en.getD 96 ∧ octAt t.places a = none)
  keyLt : ∀ a, octAt t.places a ≠ none → a < d.en.getD 96
  len : t.places.length = cnt (fun a => (octAt t.places a).isSome) 96
  size : d.size = t.places.length
  parts : ∀ a o, octAt t.places a = some o ↔ partAt d.parts a o
  partsOk : ∀ x ∈ d.parts, 0 < x.2.size
  partsApart : d.parts.Pairwise (fun x y => x.1 + x.2.size ≤ y.1 ∨ y.1 + y.2.size ≤ x.1)
  sum : (d.parts.map fun x => x.2.size).sum = d.size
  zero : octAt t.places 0 ≠ none → d.first.isSome = true
  nRows : d.rows.length ≤ n + 1
  nParts : 2 * d.parts.length ≤ n * (n + 1)
noncomputable def Rel (n : Nat) : List (Int × DgS) → List (Int × TwS) → Prop
  | [], [] => True
  | x :: r, y :: q => x.1 = y.1 ∧ DRel n x.2 y.2 ∧ Rel n r q
  | _, _ => False
end
section
theorem DRel.mono {n : Nat} {d : DgS} {t : TwS} (R : DRel n d t) : DRel (n + 1) d t where
  began := R.began
  en := R.en
  ahead := R.ahead
  first := R.first
  enPos := R.enPos
  rowsOk := R.rowsOk
  rowsApart := R.rowsApart
  hole := R.hole
  keyLt := R.keyLt
  len := R.len
  size := R.size
  parts := R.parts
  partsOk := R.partsOk
  partsApart := R.partsApart
  sum := R.sum
  zero := R.zero
  nRows := Nat.le_succ_of_le R.nRows
  nParts := Nat.le_trans R.nParts (Nat.mul_le_mul (Nat.le_succ n) (Nat.le_succ (n + 1)))
theorem Rel.mono {n : Nat} : ∀ {st : List (Int × DgS)} {tt : List (Int × TwS)}, Rel n st tt → Rel (n + 1) st tt
  | [], [], _ => trivial
  | _ :: _, _ :: _, h => ⟨h.1, h.2.1.mono, h.2.2.mono⟩
  | [], _ :: _, h => h.elim
  | _ :: _, [], h => h.elim
end
section
theorem cnt_le (p : Nat → Bool) : ∀ k, cnt p k ≤ k
  | 0 => Nat.le_refl _
  | k + 1 => by
    have := cnt_le p k
    unfold cnt
    split <;> omega
theorem Rel.len {n : Nat} : ∀ {st : List (Int × DgS)} {tt : List (Int × TwS)}, Rel n st tt → st.length = tt.length
  | [], [], _ => rfl
  | _ :: _, _ :: _, h => congrArg (· + 1) h.2.2.len
  | [], _ :: _, h => h.elim
  | _ :: _, [], h => h.elim
theorem Rel.left {n : Nat} : ∀ {st : List (Int × DgS)} {tt : List (Int × TwS)}, Rel n st tt → ∀ x ∈ st, ∃ y ∈ tt, x.1 = y.1 ∧ DRel n x.2 y.2
  | [], [], _, x, hx => nomatch hx
  | a :: r, b :: q, h, x, hx => by
    rcases List.mem_cons.mp hx with rfl | hx
    · exact ⟨b, .head _, h.1, h.2.1⟩
    · obtain ⟨y, hy, e⟩ := h.2.2.left x hx
      exact ⟨y, .tail _ hy, e⟩
  | [], _ :: _, h, _, _ => h.elim
  | _ :: _, [], h, _, _ => h.elim
theorem Rel.right {n : Nat} : ∀ {st : List (Int × DgS)} {tt : List (Int × TwS)}, Rel n st tt → ∀ y ∈ tt, ∃ x ∈ st, x.1 = y.1 ∧ DRel n x.2 y.2
  | [], [], _, x, hx => nomatch hx
  | a :: r, b :: q, h, x, hx => by
    rcases List.mem_cons.mp hx with rfl | hx
    · exact ⟨a, .head _, h.1, h.2.1⟩
    · obtain ⟨y, hy, e⟩ := h.2.2.right x hx
      exact ⟨y, .tail _ hy, e⟩
  | [], _ :: _, h, _, _ => h.elim
  | _ :: _, [], h, _, _ => h.elim
theorem DRel.places {n : Nat} {d : DgS} {t : TwS} (R : DRel n d t) : t.places.length ≤ 96 := by
  rw [R.len]
  exact cnt_le _ _
theorem nParts_lt {n p : Nat} (hn : n ≤ 10) (h : 2 * p ≤ n * (n + 1)) : p < 64 := by
  have : n * (n + 1) ≤ 10 * 11 := Nat.mul_le_mul hn (Nat.succ_le_succ hn)
  omega
theorem apart_nodup {ps : List (Nat × Array UInt8)} (h1 : ∀ x ∈ ps, 0 < x.2.size) (h2 : ps.Pairwise (fun x y => x.1 + x.2.size ≤ y.1 ∨ y.1 + y.2.size ≤ x.1)) : (ps.map (·.1)).Nodup := by
  rw [List.nodup_iff_pairwise_ne, List.pairwise_map]
  refine (List.Pairwise.imp_of_mem ?_ h2)
  intro x y hx hy h e
  have a := h1 x hx
  have b := h1 y hy
  omega
theorem DRel.dims {n : Nat} {d : DgS} {t : TwS} (R : DRel n d t) (hn : n ≤ 10) : d.rows.length ≤ 400 ∧ d.parts.length ≤ 400 ∧ d.parts.length < 64 ∧ (d.parts.map (·.1)).Nodup ∧ (d.parts.map fun x => x.2.size).sum ≤ 1000 := by
  have h1 := R.nRows
  have h2 := nParts_lt hn R.nParts
  have h3 := R.places
  have h4 := R.size
  have h5 := R.sum
  exact ⟨by omega, by omega, h2, apart_nodup R.partsOk R.partsApart, by omega⟩
theorem rel_dg {n : Nat} {st : List (Int × DgS)} {tt : List (Int × TwS)} (R : Rel n st tt) (hn : n ≤ 10) : ∀ x ∈ st, x.2.rows.length ≤ 400 ∧ x.2.parts.length ≤ 400 ∧ x.2.parts.length < 64 ∧ (x.2.parts.map (·.1)).Nodup ∧ (x.2.parts.map fun x => x.2.size).sum ≤ 1000 := fun x hx => by
  obtain ⟨y, -, -, h⟩ := R.left x hx
  exact h.dims hn
theorem rel_tw {n : Nat} {st : List (Int × DgS)} {tt : List (Int × TwS)} (R : Rel n st tt) : ∀ x ∈ tt, x.2.places.length ≤ 1000 := fun y hy => by
  obtain ⟨x, -, -, h⟩ := R.right y hy
  exact Nat.le_trans h.places (by decide)
theorem inRow_nil {a : Nat} : inRow [] a ↔ False := by simp [inRow]
theorem inRow_cons {l h a : Nat} {r : List (Nat × Nat)} : inRow ((l, h) :: r) a ↔ (l ≤ a ∧ a < h) ∨ inRow r a := by
  unfold inRow
  simp only [List.mem_cons, exists_eq_or_imp]
theorem inRow_app {a : Nat} {x y : List (Nat × Nat)} : inRow (x ++ y) a ↔ inRow x a ∨ inRow y a := by
  unfold inRow
  simp only [List.mem_append, or_and_right, exists_or]
theorem inRow_if {x y a : Nat} : inRow (if x < y then [(x, y)] else []) a ↔ x ≤ a ∧ a < y := by
  split
  · rw [inRow_cons, or_iff_left (inRow_nil.mp)]
  · rw [inRow_nil, false_iff]
    exact fun h => absurd (Nat.lt_of_le_of_lt h.1 h.2) (by assumption)
theorem maxmin {l h b e a : Nat} : (max l b ≤ a ∧ a < min h e) ↔ (l ≤ a ∧ a < h) ∧ b ≤ a ∧ a < e := by
  rw [Nat.max_le, Nat.lt_min]
  exact ⟨fun ⟨⟨p, q⟩, r, s⟩ => ⟨⟨p, r⟩, q, s⟩, fun ⟨⟨p, r⟩, q, s⟩ => ⟨⟨p, q⟩, r, s⟩⟩
theorem fillF_in {b e a : Nat} : ∀ {rows : List (Nat × Nat)}, inRow (fillF b e rows) a ↔ inRow rows a ∧ b ≤ a ∧ a < e
  | [] => by rw [fillF, inRow_nil, false_and]
  | (l, h) :: r => by
    have ih := fillF_in (b := b) (e := e) (a := a) (rows := r)
    rw [inRow_cons, or_and_right, ← ih, ← maxmin]
    show inRow (if max l b < min h e then (max l b, min h e) :: fillF b e r else fillF b e r) a ↔ _
    split
    · exact inRow_cons
    · exact (or_iff_right fun (q : max l b ≤ a ∧ a < min h e) => absurd (Nat.lt_of_le_of_lt q.1 q.2) (by assumption)).symm
theorem cutRow {l h b e a : Nat} (c : max l b < min h e) : ((l ≤ a ∧ a < max l b) ∨ (min h e ≤ a ∧ a < h)) ↔ (l ≤ a ∧ a < h) ∧ ¬ (b ≤ a ∧ a < e) := by
  obtain ⟨c1, c2⟩ := Nat.lt_min.mp c
  obtain ⟨c3, c4⟩ := Nat.max_lt.mp c1
  obtain ⟨c5, c6⟩ := Nat.max_lt.mp c2
  constructor
  · rintro (⟨p, q⟩ | ⟨p, q⟩)
    · exact ⟨⟨p, Nat.lt_trans q c1⟩, fun z => absurd q (Nat.not_lt.mpr (Nat.max_le.mpr ⟨p, z.1⟩))⟩
    · rcases Nat.le_total h e with s | s
      · rw [Nat.min_eq_left s] at p
        exact absurd q (Nat.not_lt.mpr p)
      · rw [Nat.min_eq_right s] at p
        exact ⟨⟨Nat.le_of_lt (Nat.lt_of_lt_of_le c5 p), q⟩, fun z => absurd z.2 (Nat.not_lt.mpr p)⟩
  · rintro ⟨⟨p, q⟩, z⟩
    rcases Nat.lt_or_ge a b with s | s
    · exact .inl ⟨p, Nat.lt_of_lt_of_le s (Nat.le_max_right _ _)⟩
    · exact .inr ⟨Nat.le_trans (Nat.min_le_right _ _) (Nat.not_lt.mp fun y => z ⟨s, y⟩), q⟩
theorem fillR_in {b e a : Nat} : ∀ {rows : List (Nat × Nat)}, (∀ q ∈ rows, q.1 < q.2) → (inRow (fillR b e rows) a ↔ inRow rows a ∧ ¬ (b ≤ a ∧ a < e))
  | [], _ => by rw [fillR, inRow_nil, false_and]
  | (l, h) :: r, hr => by
    have ih := fillR_in (b := b) (e := e) (a := a) (rows := r) fun q hq => hr q (.tail _ hq)
    rw [inRow_cons, or_and_right, ← ih]
    show inRow (if max l b < min h e then (if l < max l b then [(l, max l b)] else []) ++ ((if min h e < h then [(min h e, h)] else []) ++ fillR b e r) else (l, h) :: fillR b e r) a ↔ _
    split
    · rw [inRow_app, inRow_app, inRow_if, inRow_if, ← or_assoc, cutRow (by assumption)]
    · rw [inRow_cons, and_iff_left_of_imp (fun q z => absurd (Nat.lt_of_le_of_lt (maxmin.mpr ⟨q, z⟩).1 (maxmin.mpr ⟨q, z⟩).2) (by assumption))]
theorem fillR_sub {b e : Nat} : ∀ {rows : List (Nat × Nat)}, (∀ q ∈ rows, q.1 < q.2) → ∀ q ∈ fillR b e rows, q.1 < q.2 ∧ ∃ p ∈ rows, p.1 ≤ q.1 ∧ q.2 ≤ p.2
  | [], _, q, hq => nomatch hq
  | (l, h) :: r, hr, q, hq => by
    have hl := hr (l, h) (.head _)
    dsimp only at hl
    have old : q ∈ fillR b e r → q.1 < q.2 ∧ ∃ p ∈ (l, h) :: r, p.1 ≤ q.1 ∧ q.2 ≤ p.2 := fun hq => by
      obtain ⟨h1, p, hp, h2⟩ := fillR_sub (fun q hq => hr q (.tail _ hq)) q hq
      exact ⟨h1, p, .tail _ hp, h2⟩
    unfold fillR at hq
    split at hq
    · rcases List.mem_append.mp hq with hq | hq
      · split at hq
        · rw [List.mem_singleton.mp hq]
          exact ⟨by assumption, (l, h), .head _, Nat.le_refl _, by dsimp only; omega⟩
        · exact nomatch hq
      · rcases List.mem_append.mp hq with hq | hq
        · split at hq
          · rw [List.mem_singleton.mp hq]
            exact ⟨by assumption, (l, h), .head _, by dsimp only; omega, Nat.le_refl _⟩
          · exact nomatch hq
        · exact old hq
    · rcases List.mem_cons.mp hq with rfl | hq
      · exact ⟨hl, (l, h), .head _, Nat.le_refl _, Nat.le_refl _⟩
      · exact old hq
theorem fillR_apart {b e : Nat} : ∀ {rows : List (Nat × Nat)}, (∀ q ∈ rows, q.1 < q.2) → rows.Pairwise (fun q r => q.2 < r.1) → (fillR b e rows).Pairwise (fun q r => q.2 < r.1)
  | [], _, _ => List.Pairwise.nil
  | (l, h) :: r, hr, hp => by
    have hr' : ∀ q ∈ r, q.1 < q.2 := fun q hq => hr q (.tail _ hq)
    obtain ⟨h1, h2⟩ := List.pairwise_cons.mp hp
    have ih := fillR_apart (b := b) (e := e) hr' h2
    have key : ∀ q ∈ fillR b e r, h < q.1 := fun q hq => by
      obtain ⟨-, p, hp, h3, -⟩ := fillR_sub hr' q hq
      have := h1 p hp
      dsimp only at this
      omega
    unfold fillR
    split
    · have c2 : ((if min h e < h then [(min h e, h)] else []) ++ fillR b e r).Pairwise (fun q r => q.2 < r.1) := by
        split
        · exact List.pairwise_cons.mpr ⟨key, ih⟩
        · exact ih
      split
      · rw [List.cons_append, List.nil_append]
        refine List.pairwise_cons.mpr ⟨fun q hq => ?_, c2⟩
        rcases List.mem_append.mp hq with hq | hq
        · split at hq
          · rw [List.mem_singleton.mp hq]; dsimp only; omega
          · exact nomatch hq
        · have := key q hq
          dsimp only; omega
      · exact c2
    · exact List.pairwise_cons.mpr ⟨key, ih⟩
theorem fillR_far {b e : Nat} : ∀ {rows : List (Nat × Nat)}, (∀ q ∈ rows, e ≤ q.1) → fillR b e rows = rows
  | [], _ => rfl
  | (l, h) :: r, hr => by
    have := hr (l, h) (.head _)
    dsimp only at this
    unfold fillR
    rw [if_neg (by omega), fillR_far fun q hq => hr q (.tail _ hq)]
theorem fillR_one {b e : Nat} : ∀ {rows : List (Nat × Nat)}, rows.Pairwise (fun q r => q.2 < r.1) → (fillR b e rows).length ≤ rows.length + 1
  | [], _ => Nat.zero_le _
  | (l, h) :: r, hp => by
    obtain ⟨h1, h2⟩ := List.pairwise_cons.mp hp
    have ih := fillR_one (b := b) (e := e) h2
    unfold fillR
    split
    · by_cases c : min h e < h
      · have hf : fillR b e r = r := fillR_far fun q hq => by
          have := h1 q hq
          dsimp only at this
          omega
        rw [hf, if_pos c]
        split <;> simp
      · rw [if_neg c, List.nil_append]
        split
        · simp only [List.length_cons, List.length_append, List.length_nil]
          omega
        · simp only [List.nil_append, List.length_cons]
          omega
    · simp only [List.length_cons]
      omega
theorem fillR_top {b e : Nat} : ∀ {rows : List (Nat × Nat)}, (∀ q ∈ rows, q.2 ≤ e) → (fillR b e rows).length ≤ rows.length
  | [], _ => Nat.le_refl _
  | (l, h) :: r, hr => by
    have ih := fillR_top (b := b) (e := e) (rows := r) fun q hq => hr q (.tail _ hq)
    have := hr (l, h) (.head _)
    dsimp only at this
    unfold fillR
    split
    · rw [if_neg (show ¬ min h e < h by omega), List.nil_append]
      split
      · simp only [List.length_cons, List.length_append, List.length_nil]
        omega
      · simp only [List.nil_append, List.length_cons]
        omega
    · simp only [List.length_cons]
      omega
theorem cnt_congr {p q : Nat → Bool} : ∀ {k : Nat}, (∀ a, a < k → p a = q a) → cnt p k = cnt q k
  | 0, _ => rfl
  | k + 1, h => by
    unfold cnt
    rw [cnt_congr (fun a ha => h a (Nat.lt_succ_of_lt ha)), h k (Nat.lt_succ_self k)]
theorem cnt_one {p q : Nat → Bool} {a : Nat} (h0 : p a = false) (h1 : q a = true) (h : ∀ c, c ≠ a → q c = p c) : ∀ {k : Nat}, a < k → cnt q k = cnt p k + 1
  | 0, hk => absurd hk (Nat.not_lt_zero _)
  | k + 1, hk => by
    unfold cnt
    by_cases e : a = k
    · subst e
      rw [cnt_congr (p := q) (q := p) fun c hc => h c (Nat.ne_of_lt hc), h0, h1]
      rfl
    · rw [cnt_one h0 h1 h (by omega), h k (Ne.symm e)]
      omega
end
section
theorem octAt_snoc {ps : List (Nat × UInt8)} {k a : Nat} {o : UInt8} : octAt (ps ++ [(k, o)]) a = (octAt ps a).or (if k = a then some o else none) := by
  unfold octAt
  rw [List.find?_append]
  cases List.find? (fun p => decide (p.1 = a)) ps with
  | some x => rfl
  | none =>
    by_cases h : k = a
    · simp [h]
    · simp [h]
theorem twPl_at {off a : Nat} {pl : Array UInt8} {ps : List (Nat × UInt8)} : ∀ {k : Nat}, octAt (twPl off pl ps k) a = (octAt ps a).or (if off ≤ a ∧ a < off + k then some (pl.toList.getD (a - off) 0) else none)
  | 0 => by
    rw [if_neg (by omega)]
    cases h : octAt ps a <;> simp [twPl, h]
  | k + 1 => by
    have ih := twPl_at (off := off) (a := a) (pl := pl) (ps := ps) (k := k)
    have ih2 := twPl_at (off := off) (a := off + k) (pl := pl) (ps := ps) (k := k)
    rw [if_neg (by omega), Option.or_none] at ih2
    cases hq : octAt (twPl off pl ps k) (off + k) with
    | some o =>
      rw [twPl_some hq, ih]
      rw [hq] at ih2
      by_cases e : a = off + k
      · subst e
        rw [← ih2]
        rfl
      · by_cases c : off ≤ a ∧ a < off + k
        · rw [if_pos c, if_pos (by omega)]
        · rw [if_neg c, if_neg (by omega)]
    | none =>
      rw [twPl_none hq, octAt_snoc, ih]
      rw [hq] at ih2
      by_cases e : a = off + k
      · subst e
        rw [← ih2, if_pos rfl, if_neg (by omega), if_pos (by omega), Nat.add_sub_cancel_left]
        rfl
      · rw [if_neg (Ne.symm e), Option.or_none]
        by_cases c : off ≤ a ∧ a < off + k
        · rw [if_pos c, if_pos (by omega)]
        · rw [if_neg c, if_neg (by omega)]
theorem twPl_len {off : Nat} {pl : Array UInt8} {ps : List (Nat × UInt8)} (h : ps.length = cnt (fun a => (octAt ps a).isSome) 96) : ∀ {k : Nat}, off + k ≤ 96 → (twPl off pl ps k).length = cnt (fun a => (octAt (twPl off pl ps k) a).isSome) 96
  | 0, _ => h
  | k + 1, hk => by
    have ih := twPl_len (off := off) (pl := pl) h (k := k) (by omega)
    cases hq : octAt (twPl off pl ps k) (off + k) with
    | some o => rw [twPl_some hq]; exact ih
    | none =>
      rw [twPl_none hq, List.length_append, ih]
      refine (cnt_one (k := 96) (p := fun a => (octAt (twPl off pl ps k) a).isSome) (a := off + k) ?_ ?_ (fun c hc => ?_) (by omega)).symm
      · show (octAt (twPl off pl ps k) (off + k)).isSome = false
        rw [hq]; rfl
      · show (octAt (twPl off pl ps k ++ [(off + k, _)]) (off + k)).isSome = true
        rw [octAt_snoc, hq, if_pos rfl]; rfl
      · show (octAt (twPl off pl ps k ++ [(off + k, _)]) c).isSome = (octAt (twPl off pl ps k) c).isSome
        rw [octAt_snoc, if_neg (Ne.symm hc), Option.or_none]
noncomputable def rowB (rows : List (Nat × Nat)) (a : Nat) : Bool := rows.any fun q => decide (q.1 ≤ a ∧ a < q.2)
theorem rowB_iff {rows : List (Nat × Nat)} {a : Nat} : rowB rows a = true ↔ inRow rows a := by
  unfold rowB inRow
  simp only [List.any_eq_true, decide_eq_true_eq]
theorem cnt_seg {l h : Nat} : ∀ {k : Nat}, cnt (fun a => decide (l ≤ a ∧ a < h)) k = min h k - l
  | 0 => by rw [Nat.min_zero, Nat.zero_sub]; rfl
  | k + 1 => by
    unfold cnt
    rw [cnt_seg]
    rcases Nat.lt_or_ge k h with c | c
    · rw [Nat.min_eq_right (Nat.le_of_lt c), Nat.min_eq_right c]
      rcases Nat.lt_or_ge k l with q | q
      · rw [if_neg (fun z => absurd (of_decide_eq_true z).1 (Nat.not_le.mpr q)), Nat.sub_eq_zero_of_le (Nat.le_of_lt q), Nat.sub_eq_zero_of_le q]
      · rw [if_pos (decide_eq_true ⟨q, c⟩), Nat.succ_sub q]
    · rw [Nat.min_eq_left c, Nat.min_eq_left (Nat.le_succ_of_le c), if_neg (fun z => absurd (of_decide_eq_true z).2 (Nat.not_lt.mpr c)), Nat.add_zero]
theorem cnt_or {p q : Nat → Bool} : ∀ {k : Nat}, (∀ a, a < k → ¬ (p a = true ∧ q a = true)) → cnt (fun a => p a || q a) k = cnt p k + cnt q k
  | 0, _ => rfl
  | k + 1, h => by
    unfold cnt
    rw [cnt_or fun a ha => h a (Nat.lt_succ_of_lt ha)]
    have := h k (Nat.lt_succ_self k)
    cases hp : p k <;> cases hq : q k
    · simp
    · simp; omega
    · simp; omega
    · exact absurd ⟨hp, hq⟩ this
theorem cnt_rows : ∀ {rows : List (Nat × Nat)}, (∀ q ∈ rows, q.1 < q.2 ∧ q.2 ≤ 96) → rows.Pairwise (fun q r => q.2 < r.1) → cnt (rowB rows) 96 = sumLen rows
  | [], _, _ => by
    have : cnt (rowB []) 96 = cnt (fun a => decide (1 ≤ a ∧ a < 0)) 96 := cnt_congr fun a _ => by simp [rowB]
    rw [this, cnt_seg]
    rfl
  | (l, h) :: r, hr, hp => by
    obtain ⟨h1, h2⟩ := List.pairwise_cons.mp hp
    have ih := cnt_rows (fun q hq => hr q (.tail _ hq)) h2
    have hl := hr (l, h) (.head _)
    dsimp only at hl
    have e : cnt (rowB ((l, h) :: r)) 96 = cnt (fun a => decide (l ≤ a ∧ a < h) || rowB r a) 96 := cnt_congr fun a _ => by simp [rowB]
    rw [e, cnt_or, cnt_seg, ih]
    · show min h 96 - l + sumLen r = (h - l) + sumLen r
      rw [Nat.min_eq_left hl.2]
    · intro a _ ⟨q1, q2⟩
      obtain ⟨q, hq, q3⟩ := rowB_iff.mp q2
      have := h1 q hq
      have := of_decide_eq_true q1
      dsimp only at *
      omega
theorem fillF_apart {b e : Nat} : ∀ {rows : List (Nat × Nat)}, rows.Pairwise (fun q r => q.2 < r.1) → (fillF b e rows).Pairwise (fun q r => q.2 < r.1) ∧ ∀ q ∈ fillF b e rows, ∃ p ∈ rows, p.1 ≤ q.1 ∧ q.2 ≤ p.2
  | [], _ => ⟨List.Pairwise.nil, fun _ h => nomatch h⟩
  | (l, h) :: r, hp => by
    obtain ⟨h1, h2⟩ := List.pairwise_cons.mp hp
    obtain ⟨i1, i2⟩ := fillF_apart (b := b) (e := e) h2
    unfold fillF
    split
    · refine ⟨List.pairwise_cons.mpr ⟨fun q hq => ?_, i1⟩, fun q hq => ?_⟩
      · obtain ⟨p, hp, h3, -⟩ := i2 q hq
        have := h1 p hp
        dsimp only at this ⊢
        omega
      · rcases List.mem_cons.mp hq with rfl | hq
        · exact ⟨(l, h), .head _, by dsimp only; omega, by dsimp only; omega⟩
        · obtain ⟨p, hp, h3⟩ := i2 q hq
          exact ⟨p, .tail _ hp, h3⟩
    · exact ⟨i1, fun q hq => by
        obtain ⟨p, hp, h3⟩ := i2 q hq
        exact ⟨p, .tail _ hp, h3⟩⟩
end
section
theorem last_apart : ∀ {rows : List (Nat × Nat)} {q : Nat × Nat}, rows.Pairwise (fun q r => q.2 < r.1) → rows.getLast? = some q → q ∈ rows ∧ ∀ p ∈ rows, p = q ∨ p.2 < q.1
  | [], _, _, h => nomatch h
  | [x], q, _, h => by
    obtain rfl : x = q := Option.some.inj h
    exact ⟨.head _, fun p hp => .inl (List.mem_singleton.mp hp)⟩
  | x :: y :: r, q, hp, h => by
    rw [List.getLast?_cons_cons] at h
    obtain ⟨h1, h2⟩ := List.pairwise_cons.mp hp
    obtain ⟨i1, i2⟩ := last_apart h2 h
    refine ⟨.tail _ i1, fun p hp => ?_⟩
    rcases List.mem_cons.mp hp with rfl | hp
    · exact .inr (h1 q i1)
    · exact i2 p hp
theorem reach_iff {rows : List (Nat × Nat)} {c : Nat → Prop} {e : Nat} (hr : ∀ q ∈ rows, q.1 < q.2 ∧ q.2 ≤ 96) (hp : rows.Pairwise (fun q r => q.2 < r.1)) (hh : ∀ a, inRow rows a ↔ (a < 96 ∧ ¬ c a)) (hc : ∀ a, c a → a < 96) (he : e ≤ 96) :
    e < reachV rows 96 ↔ ∃ a, e ≤ a ∧ c a := by
  classical
  have cov : ∀ a, a < 96 → ¬ inRow rows a → c a := fun a h1 h2 => Classical.byContradiction fun h3 => h2 ((hh a).mpr ⟨h1, h3⟩)
  unfold reachV
  cases hl : rows.getLast? with
  | none =>
    dsimp only
    rw [List.getLast?_eq_none_iff] at hl
    refine ⟨fun h => ⟨e, Nat.le_refl _, cov e h (by rw [hl]; exact fun q => inRow_nil.mp q)⟩, fun ⟨a, h1, h2⟩ => Nat.lt_of_le_of_lt h1 (hc a h2)⟩
  | some q =>
    obtain ⟨lo, hi⟩ := q
    obtain ⟨m1, m2⟩ := last_apart hp hl
    have hq := hr _ m1
    dsimp only at hq ⊢
    split
    · refine ⟨fun h => ⟨lo - 1, by omega, cov (lo - 1) (by omega) fun ⟨p, hp, h1, h2⟩ => ?_⟩, fun ⟨a, h1, h2⟩ => ?_⟩
      · rcases m2 p hp with rfl | h3
        · dsimp only at h1; omega
        · dsimp only at h3; omega
      · have h3 := hc a h2
        have h4 : ¬ inRow rows a := fun h => ((hh a).mp h).2 h2
        have h5 : ¬ (lo ≤ a ∧ a < hi) := fun h => h4 ⟨_, m1, h⟩
        omega
    · refine ⟨fun h => ⟨95, by omega, cov 95 (by omega) fun ⟨p, hp, h1, h2⟩ => ?_⟩, fun ⟨a, h1, h2⟩ => Nat.lt_of_le_of_lt h1 (hc a h2)⟩
      rcases m2 p hp with rfl | h3
      · dsimp only at h2; omega
      · dsimp only at h3; omega
theorem octAt_key {ps : List (Nat × UInt8)} {a : Nat} : octAt ps a ≠ none ↔ a ∈ ps.map (·.1) := by
  unfold octAt
  rw [ne_eq, Option.map_eq_none_iff, List.find?_eq_none]
  simp
theorem places_iff {ps : List (Nat × UInt8)} {e : Nat} : ((ps.map fun p => (p.1 : Int)).filter fun p => decide ((e : Int) ≤ p)).length = 0 ↔ ¬ ∃ a, e ≤ a ∧ octAt ps a ≠ none := by
  rw [List.length_eq_zero_iff, List.filter_eq_nil_iff]
  constructor
  · rintro h ⟨a, h1, h2⟩
    obtain ⟨p, hp, rfl⟩ := List.mem_map.mp (octAt_key.mp h2)
    have := h _ (List.mem_map_of_mem (f := fun p : Nat × UInt8 => (p.1 : Int)) hp)
    simp only [decide_eq_true_eq] at this
    omega
  · intro h x hx
    obtain ⟨p, hp, rfl⟩ := List.mem_map.mp hx
    simp only [decide_eq_true_eq]
    exact fun q => h ⟨p.1, by omega, octAt_key.mpr (List.mem_map_of_mem (f := (·.1)) hp)⟩
theorem against_tw {n : Nat} {d : DgS} {t : TwS} {e : Nat} {mo : Bool} (R : DRel n d t) (he : 0 < e) : against 96 d.rows d.en d.ahead e mo = twDenies 96 t.places t.en t.ahead e mo := by
  unfold against twDenies
  rw [R.en, R.ahead]
  by_cases h9 : 96 < e
  · rw [if_pos h9, if_pos h9]
  rw [if_neg h9, if_neg h9]
  by_cases hm : mo = true
  · rw [if_pos hm, if_pos hm]
    all_goals (cases t.en <;> rfl)
  rw [if_neg hm, if_neg hm]
  cases hen : t.en with
  | some z => exact decide_eq_decide.mpr ⟨Ne.symm, Ne.symm⟩
  | none =>
    have hd : d.en.getD 96 = 96 := by rw [R.en, hen]; rfl
    have key := reach_iff (rows := d.rows) (c := fun a => octAt t.places a ≠ none) (e := e) R.rowsOk R.rowsApart (fun a => by rw [R.hole a, hd]; simp) (fun a h => hd ▸ R.keyLt a h) (by omega)
    have k2 := places_iff (ps := t.places) (e := e)
    dsimp only
    rw [decide_eq_true he, Bool.and_true]
    congr 1
    by_cases h : e < reachV d.rows 96
    · rw [decide_eq_true h, decide_eq_false fun q => k2.mp q (key.mp h)]
      rfl
    · rw [decide_eq_false h, decide_eq_true (k2.mpr fun q => h (key.mpr q))]
      rfl
end
section
theorem offAdd {k off a : Nat} (h1 : off ≤ k) (h2 : k ≤ a) : k - off + (a - k) = a - off := by
  obtain ⟨x, rfl⟩ := Nat.exists_eq_add_of_le h1
  obtain ⟨y, rfl⟩ := Nat.exists_eq_add_of_le h2
  rw [Nat.add_sub_cancel_left, Nat.add_sub_cancel_left, Nat.add_assoc, Nat.add_sub_cancel_left]
theorem lt_of_subs {a b c : Nat} (h : a - c < b - c) : a < b := Nat.lt_of_not_le fun q => Nat.not_lt.mpr (Nat.sub_le_sub_right q c) h
theorem parts_new {off a : Nat} {pl : Array UInt8} {rows : List (Nat × Nat)} {o : UInt8} : partAt ((fillF off (off + pl.size) rows).map (partOf off pl)) a o ↔ inRow (fillF off (off + pl.size) rows) a ∧ pl.toList[a - off]? = some o := by
  constructor
  · rintro ⟨x, hx, h1, h2⟩
    obtain ⟨q, hq, rfl⟩ := List.mem_map.mp hx
    have m1 := (fillF_mem hq).1
    have h2 : ((pl.toList.drop (q.1 - off)).take (q.2 - q.1))[a - q.1]? = some o := h2
    rw [List.getElem?_take] at h2
    split at h2
    · rename_i hlt
      rw [List.getElem?_drop, offAdd m1 h1] at h2
      exact ⟨⟨q, hq, h1, lt_of_subs hlt⟩, h2⟩
    · exact nomatch h2
  · rintro ⟨⟨q, hq, h1, h2⟩, h3⟩
    refine ⟨partOf off pl q, List.mem_map_of_mem hq, h1, ?_⟩
    show ((pl.toList.drop (q.1 - off)).take (q.2 - q.1))[a - q.1]? = some o
    rw [List.getElem?_take, if_pos (Nat.sub_lt_sub_right h1 h2), List.getElem?_drop, offAdd (fillF_mem hq).1 h1]
    exact h3
theorem partOf_size {off : Nat} {pl : Array UInt8} {rows : List (Nat × Nat)} {q : Nat × Nat} (hq : q ∈ fillF off (off + pl.size) rows) : (partOf off pl q).2.size = q.2 - q.1 := by
  obtain ⟨m1, m2, m3⟩ := fillF_mem hq
  show ((pl.toList.drop (q.1 - off)).take (q.2 - q.1)).length = _
  rw [List.length_take, List.length_drop, Array.length_toList]
  refine Nat.min_eq_left (Nat.le_sub_of_add_le ?_)
  rw [Nat.add_comm, offAdd m1 (Nat.le_of_lt m2)]
  exact Nat.sub_le_of_le_add (Nat.le_trans m3 (Nat.le_of_eq (Nat.add_comm _ _)))
theorem sum_new {off : Nat} {pl : Array UInt8} : ∀ {Fs : List (Nat × Nat)}, (∀ q ∈ Fs, (partOf off pl q).2.size = q.2 - q.1) → ((Fs.map (partOf off pl)).map fun x => x.2.size).sum = sumLen Fs
  | [], _ => rfl
  | q :: r, h => by
    have ih := sum_new (off := off) (pl := pl) (Fs := r) fun q hq => h q (.tail _ hq)
    rw [List.map_cons, List.map_cons, List.sum_cons, ih, h q (.head _)]
    rfl
theorem partAt_app {x y : List (Nat × Array UInt8)} {a : Nat} {o : UInt8} : partAt (x ++ y) a o ↔ partAt x a o ∨ partAt y a o := by
  unfold partAt
  simp only [List.mem_append, or_and_right, exists_or]
theorem end_le {d : DgS} {h : HdS} {pl : Array UInt8} (ha : against 96 d.rows d.en d.ahead (h.off + pl.size) h.more = false) : h.off + pl.size ≤ 96 ∧ (∀ z, d.en = some z → h.off + pl.size ≤ z) ∧ (h.more = false → ∀ z, d.en = some z → h.off + pl.size = z) := by
  unfold against at ha
  by_cases h9 : 96 < h.off + pl.size
  · rw [if_pos h9] at ha; exact nomatch ha
  rw [if_neg h9] at ha
  refine ⟨by omega, fun z hz => ?_, fun hm z hz => ?_⟩
  · rw [hz] at ha
    cases hm : h.more with
    | true =>
      rw [hm, if_pos rfl] at ha
      have := of_decide_eq_false ha
      omega
    | false =>
      rw [hm, if_neg (by decide)] at ha
      have := of_decide_eq_false ha
      omega
  · rw [hz, hm, if_neg (by decide)] at ha
    have := of_decide_eq_false ha
    omega
theorem hole_new {rows : List (Nat × Nat)} {ps : List (Nat × UInt8)} {top off : Nat} {pl : Array UInt8} (hole : ∀ a, inRow rows a ↔ (a < top ∧ octAt ps a = none)) : ∀ a, (inRow rows a ∧ ¬ (off ≤ a ∧ a < off + pl.size)) ↔ (a < top ∧ octAt (twPl off pl ps pl.size) a = none) := fun a => by
  rw [hole a, twPl_at]
  by_cases c : off ≤ a ∧ a < off + pl.size
  · rw [if_pos c]
    cases octAt ps a <;> simp [c]
  · rw [if_neg c, Option.or_none]
    simp only [c, not_false_eq_true, and_true]
theorem key_new {ps : List (Nat × UInt8)} {off a : Nat} {pl : Array UInt8} : octAt (twPl off pl ps pl.size) a ≠ none ↔ (octAt ps a ≠ none ∨ (off ≤ a ∧ a < off + pl.size)) := by
  rw [twPl_at]
  by_cases c : off ≤ a ∧ a < off + pl.size
  · rw [if_pos c]
    cases octAt ps a <;> simp [c]
  · rw [if_neg c, Option.or_none]
    simp only [c, or_false]
theorem parts_upd {rows : List (Nat × Nat)} {parts : List (Nat × Array UInt8)} {ps : List (Nat × UInt8)} {off top : Nat} {pl : Array UInt8} (hole : ∀ a, inRow rows a ↔ (a < top ∧ octAt ps a = none)) (he : off + pl.size ≤ top) (hp : ∀ a o, octAt ps a = some o ↔ partAt parts a o) :
    ∀ a o, octAt (twPl off pl ps pl.size) a = some o ↔ partAt (parts ++ (fillF off (off + pl.size) rows).map (partOf off pl)) a o := fun a o => by
  rw [partAt_app, parts_new, fillF_in, ← hp a o, hole a, twPl_at]
  cases hq : octAt ps a with
  | some x =>
    simp
  | none =>
    by_cases c : off ≤ a ∧ a < off + pl.size
    · rw [if_pos c]
      have hl : a - off < pl.toList.length := by rw [Array.length_toList]; omega
      have h1 : pl.toList[a - off]? = some (pl.toList.getD (a - off) 0) := by
        rw [List.getD_eq_getElem?_getD, List.getElem?_eq_getElem hl]; rfl
      rw [h1]
      have h2 : a < top := by omega
      simp [c, h2]
    · rw [if_neg c]
      simp [c]
theorem covers_common {x y : Nat × Array UInt8} {parts : List (Nat × Array UInt8)} (hx : x ∈ parts) {a : Nat} (h1 : x.1 ≤ a) (h2 : a < x.1 + x.2.size) : ∃ o, partAt parts a o :=
  have h : a - x.1 < x.2.toList.length := by rw [Array.length_toList]; omega
  ⟨_, x, hx, h1, List.getElem?_eq_getElem h⟩
theorem apart_new {rows : List (Nat × Nat)} {parts : List (Nat × Array UInt8)} {ps : List (Nat × UInt8)} {off top : Nat} {pl : Array UInt8} (hr : ∀ q ∈ rows, q.1 < q.2) (hap : rows.Pairwise (fun q r => q.2 < r.1)) (hole : ∀ a, inRow rows a ↔ (a < top ∧ octAt ps a = none)) (hp : ∀ a o, octAt ps a = some o ↔ partAt parts a o)
    (hs : ∀ x ∈ parts, 0 < x.2.size) (ha : parts.Pairwise (fun x y => x.1 + x.2.size ≤ y.1 ∨ y.1 + y.2.size ≤ x.1)) : (parts ++ (fillF off (off + pl.size) rows).map (partOf off pl)).Pairwise (fun x y => x.1 + x.2.size ≤ y.1 ∨ y.1 + y.2.size ≤ x.1) := by
  refine List.pairwise_append.mpr ⟨ha, ?_, ?_⟩
  · rw [List.pairwise_map]
    refine (fillF_apart hap).1.imp_of_mem ?_
    intro q r hq hr' h
    rw [partOf_size hq, partOf_size hr']
    have := fillF_mem hq
    exact .inl (by show q.1 + (q.2 - q.1) ≤ r.1; omega)
  · intro x hx y hy
    obtain ⟨q, hq, rfl⟩ := List.mem_map.mp hy
    rw [partOf_size hq]
    have m := fillF_mem hq
    have hx0 := hs x hx
    show x.1 + x.2.size ≤ q.1 ∨ q.1 + (q.2 - q.1) ≤ x.1
    apply Classical.byContradiction
    intro hc
    have hin : inRow rows (max x.1 q.1) := (fillF_in.mp ⟨q, hq, by omega, by omega⟩).1
    obtain ⟨o, ho⟩ := covers_common (y := x) hx (a := max x.1 q.1) (by omega) (by omega)
    have := ((hole _).mp hin).2
    rw [(hp _ o).mpr ho] at this
    exact nomatch this
end
section
theorem size_new {n : Nat} {d : DgS} {t : TwS} {off : Nat} {pl : Array UInt8} (R : DRel n d t) (he : off + pl.size ≤ d.en.getD 96) (h96 : off + pl.size ≤ 96) : (twPl off pl t.places pl.size).length = cnt (fun a => (octAt (twPl off pl t.places pl.size) a).isSome) 96 ∧ d.size + sumLen (fillF off (off + pl.size) d.rows) = (twPl off pl t.places pl.size).length := by
  have h1 := twPl_len (off := off) (pl := pl) R.len (k := pl.size) h96
  refine ⟨h1, ?_⟩
  obtain ⟨a1, a2⟩ := fillF_apart (b := off) (e := off + pl.size) R.rowsApart
  have a3 : ∀ q ∈ fillF off (off + pl.size) d.rows, q.1 < q.2 ∧ q.2 ≤ 96 := fun q hq => by
    have := fillF_mem hq
    exact ⟨this.2.1, by omega⟩
  have h2 := cnt_rows a3 a1
  have h3 : cnt (fun a => (octAt (twPl off pl t.places pl.size) a).isSome) 96 = cnt (fun a => (octAt t.places a).isSome || rowB (fillF off (off + pl.size) d.rows) a) 96 := cnt_congr fun a _ => by
    rw [Bool.eq_iff_iff, Bool.or_eq_true, rowB_iff, fillF_in, R.hole a, Option.isSome_iff_ne_none, Option.isSome_iff_ne_none, key_new]
    by_cases c : octAt t.places a = none
    · simp only [c, ne_eq, not_true, false_or, and_true]
      exact ⟨fun h => ⟨by omega, h⟩, fun h => h.2⟩
    · simp [c]
  rw [h1, h3, cnt_or, h2, R.size, R.len]
  intro a _ ⟨q1, q2⟩
  have := (fillF_in.mp (rowB_iff.mp q2)).1
  have := ((R.hole a).mp this).2
  rw [this] at q1
  exact nomatch q1
end
section
theorem drel_mk {n : Nat} {d d' : DgS} {t : TwS} {h : HdS} {pl : Array UInt8} (R : DRel n d t) (hr : ∀ q ∈ d'.rows, q.1 < q.2 ∧ q.2 ≤ 96) (hra : d'.rows.Pairwise (fun q r => q.2 < r.1)) (hl : d'.rows.length ≤ d.rows.length + 1)
    (hin : ∀ a, inRow d'.rows a ↔ (a < d'.en.getD 96 ∧ octAt (twPl h.off pl t.places pl.size) a = none)) (hk : ∀ a, octAt (twPl h.off pl t.places pl.size) a ≠ none → a < d'.en.getD 96) (he : h.off + pl.size ≤ d.en.getD 96) (h96 : h.off + pl.size ≤ 96)
    (hb : d'.began = d.began) (hen : d'.en = (twNext t h pl).en) (hpos : ∀ z, d'.en = some z → 0 < z ∧ z ≤ 96) (hah : d'.ahead = (twNext t h pl).ahead) (hf : d'.first = firstOf d.first h) (hs : d'.size = d.size + sumLen (fillF h.off (h.off + pl.size) d.rows)) (hps : d'.parts = d.parts ++ (fillF h.off (h.off + pl.size) d.rows).map (partOf h.off pl)) :
    DRel (n + 1) d' (twNext t h pl) := by
  obtain ⟨s1, s2⟩ := size_new R he h96
  have hr0 : ∀ q ∈ d.rows, q.1 < q.2 := fun q hq => (R.rowsOk q hq).1
  refine ⟨hb.trans R.began, hen, hah, ?_, hpos, hr, hra, hin, hk, s1, hs.trans s2, ?_, ?_, ?_, ?_, ?_, ?_, ?_⟩
  · rw [hf, R.first]; rfl
  · rw [hps]; exact parts_upd R.hole he R.parts
  · rw [hps]
    intro x hx
    rcases List.mem_append.mp hx with hx | hx
    · exact R.partsOk x hx
    · obtain ⟨q, hq, rfl⟩ := List.mem_map.mp hx
      rw [partOf_size hq]
      have := fillF_mem hq
      omega
  · rw [hps]; exact apart_new hr0 R.rowsApart R.hole R.parts R.partsOk R.partsApart
  · rw [hps, List.map_append, List.sum_append, R.sum, sum_new fun q hq => partOf_size hq, hs]
  · intro q
    rw [hf]
    rcases key_new.mp q with q | q
    · have := R.zero q
      unfold firstOf
      split
      · rfl
      · exact this
    · unfold firstOf
      split
      · rfl
      · rename_i hc
        cases hfi : d.first with
        | some f => rfl
        | none => exact absurd ⟨by omega, by rw [hfi]; rfl⟩ hc
  · have := R.nRows; omega
  · rw [hps, List.length_append, List.length_map]
    have h1 := fillF_len h.off (h.off + pl.size) d.rows
    have h2 := R.nRows
    have h3 := R.nParts
    have h4 : (n + 1) * (n + 1 + 1) = n * (n + 1) + 2 * (n + 1) := by
      rw [Nat.add_mul, Nat.one_mul, Nat.mul_add n (n + 1) 1, Nat.mul_one]; omega
    omega
end
section
theorem getD_le {d : DgS} {e : Nat} (h : e ≤ 96) (h2 : ∀ z, d.en = some z → e ≤ z) : e ≤ d.en.getD 96 := by
  cases hz : d.en with
  | none => exact h
  | some z => exact h2 z hz
theorem drel_put {n : Nat} {d d' : DgS} {t : TwS} {h : HdS} {pl : Array UInt8} (R : DRel n d t) (hput : dgPut 96 d h pl = some d') (he : 0 < h.off + pl.size) : DRel (n + 1) d' (twNext t h pl) := by
  unfold dgPut at hput
  split at hput
  · exact nomatch hput
  rename_i ha
  obtain ⟨e1, e2, e3⟩ := end_le (by simpa using ha)
  have e4 := getD_le e1 e2
  have hd := Option.some.inj hput
  have hr0 : ∀ q ∈ d.rows, q.1 < q.2 := fun q hq => (R.rowsOk q hq).1
  have hr1 : ∀ q ∈ fillR h.off (h.off + pl.size) d.rows, q.1 < q.2 ∧ q.2 ≤ 96 := fun q hq => by
    obtain ⟨f1, p, hp, -, f2⟩ := fillR_sub hr0 q hq
    exact ⟨f1, Nat.le_trans f2 (R.rowsOk p hp).2⟩
  have ha1 := fillR_apart (b := h.off) (e := h.off + pl.size) hr0 R.rowsApart
  have hl1 := fillR_one (b := h.off) (e := h.off + pl.size) R.rowsApart
  have hn := hole_new (off := h.off) (pl := pl) R.hole
  have hkey : ∀ a, octAt (twPl h.off pl t.places pl.size) a ≠ none → a < d.en.getD 96 := fun a q => by
    rcases key_new.mp q with q | q
    · exact R.keyLt a q
    · omega
  by_cases hc : h.more = true ∨ d.en.isSome = true
  · rw [if_pos hc] at hd
    have hen : d'.en = d.en := by
      rw [← hd]
      show (if h.more = true then d.en else some (d.en.getD (h.off + pl.size))) = d.en
      split
      · rfl
      · rename_i hm
        obtain ⟨z, hz⟩ := Option.isSome_iff_exists.mp (hc.resolve_left hm)
        rw [hz]; rfl
    refine drel_mk R ?_ ?_ ?_ ?_ ?_ e4 e1 ?_ ?_ ?_ ?_ ?_ ?_ ?_
    · rw [← hd]; exact hr1
    · rw [← hd]; exact ha1
    · rw [← hd]; exact hl1
    · intro a
      rw [hen, ← hn a, ← hd]
      exact fillR_in hr0
    · rw [hen]; exact hkey
    · rw [← hd]
    · rw [← hd]
      show (if h.more = true then d.en else some (d.en.getD (h.off + pl.size))) = (if h.more = true then t.en else some (h.off + pl.size))
      rw [R.en]
      split
      · rfl
      · rename_i hm
        obtain ⟨z, hz⟩ := Option.isSome_iff_exists.mp (hc.resolve_left hm)
        have := e3 (by simpa using hm) z hz
        rw [← R.en, hz, this]; rfl
    · rw [hen]; exact R.enPos
    · rw [← hd]
      show (if h.more = true then max d.ahead (h.off + pl.size) else d.ahead) = (if h.more = true then max t.ahead (h.off + pl.size) else t.ahead)
      rw [R.ahead]
    · rw [← hd]; rfl
    · rw [← hd]
    · rw [← hd]
  · have hm : h.more = false := by
      cases hq : h.more
      · rfl
      · exact absurd (.inl hq) hc
    have hn0 : d.en = none := by
      cases hq : d.en
      · rfl
      · exact absurd (.inr (by rw [hq]; rfl)) hc
    rw [if_neg hc] at hd
    have hcov : ∀ a, octAt t.places a ≠ none → a < h.off + pl.size := fun a q => Classical.byContradiction fun hx => by
      have h1 := against_tw (mo := h.more) R he
      rw [show against 96 d.rows d.en d.ahead (h.off + pl.size) h.more = false by simpa using ha] at h1
      unfold twDenies at h1
      rw [if_neg (by omega), if_neg (by rw [hm]; decide), ← R.en, hn0] at h1
      dsimp only at h1
      have h2 := (Bool.or_eq_false_iff.mp h1.symm).1
      have h3 : ((t.places.map fun p => (p.1 : Int)).filter fun p => decide (((h.off + pl.size : Nat) : Int) ≤ p)).length = 0 := by simpa using h2
      exact places_iff.mp h3 ⟨a, by omega, q⟩
    have hen : d'.en = some (h.off + pl.size) := by
      rw [← hd]
      show (if h.more = true then d.en else some (d.en.getD (h.off + pl.size))) = _
      rw [if_neg (by rw [hm]; decide), hn0]; rfl
    have hg : d'.en.getD 96 = h.off + pl.size := by rw [hen]; rfl
    have hr2 : ∀ q ∈ fillR h.off (h.off + pl.size) d.rows, q.1 < q.2 := fun q hq => (hr1 q hq).1
    have h96 : d.en.getD 96 = 96 := by rw [hn0]; rfl
    rw [h96] at hn hkey
    refine drel_mk R ?_ ?_ ?_ ?_ ?_ e4 e1 ?_ ?_ ?_ ?_ ?_ ?_ ?_
    · rw [← hd]
      intro q hq
      obtain ⟨f1, p, hp, -, f2⟩ := fillR_sub hr2 q hq
      exact ⟨f1, Nat.le_trans f2 (hr1 p hp).2⟩
    · rw [← hd]; exact fillR_apart hr2 ha1
    · rw [← hd]; exact Nat.le_trans (fillR_top fun q hq => (hr1 q hq).2) hl1
    · intro a
      rw [hg, ← hd]
      show inRow (fillR (h.off + pl.size) 96 (fillR h.off (h.off + pl.size) d.rows)) a ↔ _
      rw [fillR_in hr2, fillR_in hr0, hn a]
      constructor
      · rintro ⟨⟨q1, q2⟩, q3⟩
        exact ⟨by omega, q2⟩
      · rintro ⟨q1, q2⟩
        exact ⟨⟨by omega, q2⟩, by omega⟩
    · rw [hg]
      intro a q
      rcases key_new.mp q with q | q
      · exact hcov a q
      · exact q.2
    · rw [← hd]
    · rw [hen]
      show _ = (if h.more = true then t.en else some (h.off + pl.size))
      rw [if_neg (by rw [hm]; decide)]
    · rw [hen]
      intro z hz
      obtain rfl := Option.some.inj hz
      exact ⟨he, e1⟩
    · rw [← hd]
      show (if h.more = true then max d.ahead (h.off + pl.size) else d.ahead) = (if h.more = true then max t.ahead (h.off + pl.size) else t.ahead)
      rw [R.ahead]
    · rw [← hd]; rfl
    · rw [← hd]
    · rw [← hd]
end
section
theorem drel_new {n : Nat} {now : Int} : DRel n (newDg 96 now) (newTw now) where
  began := rfl
  en := rfl
  ahead := rfl
  first := rfl
  enPos := fun z h => nomatch h
  rowsOk := fun q hq => by rw [List.mem_singleton.mp hq]; exact ⟨by decide, Nat.le_refl _⟩
  rowsApart := List.pairwise_singleton _ _
  hole := fun a => by
    show inRow [(0, 96)] a ↔ (a < 96 ∧ octAt [] a = none)
    rw [inRow_cons]
    simp [inRow_nil, octAt]
  keyLt := fun a h => absurd rfl h
  len := rfl
  size := rfl
  parts := fun a o => ⟨fun h => (nomatch h), fun ⟨_, h, _⟩ => (nomatch h)⟩
  partsOk := fun x h => nomatch h
  partsApart := List.Pairwise.nil
  sum := rfl
  zero := fun h => absurd rfl h
  nRows := by show 1 ≤ n + 1; omega
  nParts := Nat.zero_le _
end
section
theorem cnt_mono {p q : Nat → Bool} : ∀ {k : Nat}, (∀ a, a < k → p a = true → q a = true) → cnt p k ≤ cnt q k
  | 0, _ => Nat.le_refl _
  | k + 1, h => by
    have h1 := cnt_mono (k := k) fun a ha => h a (Nat.lt_succ_of_lt ha)
    unfold cnt
    cases hp : p k with
    | false =>
      rw [if_neg (by decide)]
      exact Nat.le_trans h1 (Nat.le_add_right _ _)
    | true =>
      rw [h k (Nat.lt_succ_self k) hp, if_pos rfl]
      exact Nat.add_le_add_right h1 1
theorem cnt_below {p : Nat → Bool} {z : Nat} (hz : z ≤ 96) (h : ∀ a, a < 96 → (p a = true ↔ a < z)) : cnt p 96 = z := by
  rw [cnt_congr (q := fun a => decide (0 ≤ a ∧ a < z)) fun a ha => ?_, cnt_seg, Nat.sub_zero, Nat.min_eq_left hz]
  have := h a ha
  cases hp : p a with
  | true => exact (decide_eq_true ⟨Nat.zero_le _, this.mp hp⟩).symm
  | false => exact (decide_eq_false fun q => Bool.noConfusion ((this.mpr q.2).symm.trans hp)).symm
theorem whole_rows {n : Nat} {d : DgS} {t : TwS} {z : Nat} (R : DRel n d t) (hz : d.en = some z) : d.rows = [] ↔ t.places.length = z := by
  have h1 : d.en.getD 96 = z := by rw [hz]; rfl
  have hole := R.hole
  have key := R.keyLt
  rw [h1] at hole key
  have z96 := (R.enPos z hz).2
  have hl := R.len
  constructor
  · intro hr
    rw [hl]
    refine cnt_below z96 fun a ha => ⟨fun q => key a (Option.isSome_iff_ne_none.mp q), fun q => ?_⟩
    have h2 := hole a
    rw [hr, inRow_nil] at h2
    cases ho : octAt t.places a with
    | some o => rfl
    | none => exact (h2.mpr ⟨q, ho⟩).elim
  · intro hp
    cases hr : d.rows with
    | nil => rfl
    | cons q r =>
      have hq : q ∈ d.rows := by rw [hr]; exact .head _
      have hok := R.rowsOk q hq
      obtain ⟨ha, hb⟩ := (hole q.1).mp ⟨q, hq, Nat.le_refl _, hok.1⟩
      have h3 := cnt_one (p := fun a => (octAt t.places a).isSome) (q := fun a => (octAt t.places a).isSome || decide (a = q.1)) (a := q.1) (by rw [hb]; rfl) (by simp) (fun c hc => by simp [hc]) (k := 96) (Nat.lt_of_lt_of_le ha z96)
      have h4 : cnt (fun a => (octAt t.places a).isSome || decide (a = q.1)) 96 ≤ cnt (fun a => decide (0 ≤ a ∧ a < z)) 96 := cnt_mono fun a _ h => by
        rcases Bool.or_eq_true_iff.mp h with h | h
        · exact decide_eq_true ⟨Nat.zero_le _, key a (Option.isSome_iff_ne_none.mp h)⟩
        · exact decide_eq_true ⟨Nat.zero_le _, (of_decide_eq_true h) ▸ ha⟩
      rw [cnt_seg, Nat.sub_zero, Nat.min_eq_left z96, h3, ← hl, hp] at h4
      exact absurd h4 (Nat.not_succ_le_self _)
theorem whole_all {n : Nat} {d : DgS} {t : TwS} {z : Nat} (R : DRel n d t) (hz : d.en = some z) (hr : d.rows = []) : ∀ a, a < z → (octAt t.places a).isSome = true := fun a ha => by
  have h := R.hole a
  rw [hr, inRow_nil, show d.en.getD 96 = z by rw [hz]; rfl] at h
  cases ho : octAt t.places a with
  | some o => rfl
  | none => exact (h.mpr ⟨ha, ho⟩).elim
theorem whole_first {n : Nat} {d : DgS} {t : TwS} {z : Nat} (R : DRel n d t) (hz : d.en = some z) (hr : d.rows = []) : d.first.isSome = true :=
  R.zero (Option.isSome_iff_ne_none.mp (whole_all R hz hr 0 (R.enPos z hz).1))
theorem whole_iff {n : Nat} {d : DgS} {t : TwS} (R : DRel n d t) : (d.en.isSome && (d.first.isSome && decide (d.rows.length = 0))) = wholeT t := by
  unfold wholeT
  rw [← R.en]
  cases hz : d.en with
  | none => rfl
  | some z =>
    show (true && (d.first.isSome && decide (d.rows.length = 0))) = decide (t.places.length = z)
    have hw := whole_rows R hz
    by_cases hr : d.rows = []
    · rw [whole_first R hz hr, decide_eq_true (hw.mp hr), decide_eq_true (by rw [hr]; rfl)]; rfl
    · rw [decide_eq_false (fun q => hr (hw.mpr q)), decide_eq_false (fun q => hr (List.length_eq_zero_iff.mp q)), Bool.and_false, Bool.and_false]
noncomputable def runF : Nat → List (Nat × Array UInt8) → List UInt8
  | _, [] => []
  | b, x :: r => if x.1 = b then x.2.toList ++ runF (b + x.2.size) r else []
theorem runOf_F : ∀ {xs : List (Nat × Array UInt8)} {acc : List UInt8}, runOf acc xs = acc ++ runF acc.length xs
  | [], acc => (List.append_nil acc).symm
  | (b, p) :: r, acc => by
    unfold runOf runF
    by_cases h : b = acc.length
    · rw [if_pos h, if_pos h, runOf_F, List.append_assoc, List.length_append]
      rfl
    · rw [if_neg h, if_neg h, List.append_nil]
theorem partAt_cons {x : Nat × Array UInt8} {r : List (Nat × Array UInt8)} {a : Nat} {o : UInt8} : partAt (x :: r) a o ↔ (x.1 ≤ a ∧ x.2.toList[a - x.1]? = some o) ∨ partAt r a o := by
  unfold partAt
  simp
theorem partAt_own {x : Nat × Array UInt8} {a : Nat} {o : UInt8} (h : x.2.toList[a - x.1]? = some o) (h1 : x.1 ≤ a) : a < x.1 + x.2.size := by
  obtain ⟨q, -⟩ := List.getElem?_eq_some_iff.mp h
  rw [Array.length_toList] at q
  omega
structure Chain (b : Nat) (xs : List (Nat × Array UInt8)) : Prop where
  low : ∀ x ∈ xs, b ≤ x.1
  pos : ∀ x ∈ xs, 0 < x.2.size
  inc : xs.Pairwise fun x y => x.1 + x.2.size ≤ y.1
theorem Chain.tail {b : Nat} {x : Nat × Array UInt8} {r : List (Nat × Array UInt8)} (h : Chain b (x :: r)) : Chain (x.1 + x.2.size) r :=
  ⟨(List.pairwise_cons.mp h.inc).1, fun y hy => h.pos y (.tail _ hy), (List.pairwise_cons.mp h.inc).2⟩
theorem Chain.mk' {xs : List (Nat × Array UInt8)} (h1 : ∀ x ∈ xs, 0 < x.2.size) (h2 : xs.Pairwise fun x y => x.1 + x.2.size ≤ y.1 ∨ y.1 + y.2.size ≤ x.1) (h3 : xs.Pairwise fun x y => x.1 < y.1) : Chain 0 xs where
  low := fun _ _ => Nat.zero_le _
  pos := h1
  inc := (List.Pairwise.and h2 h3).imp fun {x y} h => by
    rcases h with ⟨h | h, h4⟩
    · exact h
    · omega
theorem Chain.at {b : Nat} : ∀ {xs : List (Nat × Array UInt8)} {a : Nat} {o : UInt8}, Chain b xs → partAt xs a o → b ≤ a := fun h ⟨x, hx, h1, _⟩ => Nat.le_trans (h.low x hx) h1
theorem run_T {ps : List (Nat × UInt8)} : ∀ {f b : Nat} {xs : List (Nat × Array UInt8)}, Chain b xs → (∀ a o, b ≤ a → (octAt ps a = some o ↔ partAt xs a o)) → runT ps f b = (runF b xs).take f
  | 0, b, xs, _, _ => by rw [List.take_zero]; rfl
  | f + 1, b, [], _, h => by
    have : octAt ps b = none := by
      cases ho : octAt ps b with
      | none => rfl
      | some o => obtain ⟨x, hx, -⟩ := (h b o (Nat.le_refl _)).mp ho; exact nomatch hx
    unfold runT runF
    rw [this]
    rfl
  | f + 1, b, x :: r, C, h => by
    unfold runF
    by_cases hb : x.1 = b
    · rw [if_pos hb]
      suffices hs : ∀ (k : Nat), k ≤ x.2.size → ∀ g, runT ps g (b + (x.2.size - k)) = ((x.2.toList.drop (x.2.size - k)) ++ runF (b + x.2.size) r).take g by
        have := hs x.2.size (Nat.le_refl _) (f + 1)
        rwa [Nat.sub_self, Nat.add_zero, List.drop_zero] at this
      intro k
      induction k with
      | zero =>
        intro _ g
        rw [Nat.sub_zero, List.drop_of_length_le (by rw [Array.length_toList]; exact Nat.le_refl _), List.nil_append]
        refine run_T (hb ▸ C.tail) fun a o ha => ?_
        rw [h a o (Nat.le_trans (Nat.le_add_right _ _) ha), partAt_cons]
        constructor
        · rintro (⟨q1, q2⟩ | q)
          · exact absurd (partAt_own q2 q1) (by omega)
          · exact q
        · exact .inr
      | succ k ih =>
        intro hk g
        have hlt : x.2.size - (k + 1) < x.2.toList.length := by rw [Array.length_toList]; omega
        have e1 : octAt ps (b + (x.2.size - (k + 1))) = some (x.2.toList[x.2.size - (k + 1)]) := by
          rw [h _ _ (Nat.le_add_right _ _), partAt_cons]
          refine .inl ⟨by omega, ?_⟩
          rw [hb, Nat.add_sub_cancel_left]
          exact List.getElem?_eq_getElem hlt
        rw [List.drop_eq_getElem_cons hlt]
        cases g with
        | zero => rw [List.take_zero]; rfl
        | succ g =>
          unfold runT
          rw [e1]
          dsimp only
          have e2 : x.2.size - (k + 1) + 1 = x.2.size - k := by omega
          rw [List.cons_append, List.take_succ_cons, e2, ← ih (by omega) g, Nat.add_assoc, e2]
    · rw [if_neg hb]
      have h0 := C.low x (.head _)
      have : octAt ps b = none := by
        cases ho : octAt ps b with
        | none => rfl
        | some o =>
          rcases partAt_cons.mp ((h b o (Nat.le_refl _)).mp ho) with ⟨q, -⟩ | q
          · omega
          · have := C.tail.at q
            omega
      unfold runT
      rw [this]
      rfl
theorem run_whole {z : Nat} : ∀ {xs : List (Nat × Array UInt8)} {b : Nat}, Chain b xs → (∀ a, b ≤ a → a < z → ∃ o, partAt xs a o) → (∀ a o, partAt xs a o → a < z) → runF b xs = octOf xs ∧ b + (octOf xs).length = max b z
  | [], b, _, h, _ => by
    refine ⟨rfl, ?_⟩
    by_cases hz : b < z
    · obtain ⟨o, x, hx, -⟩ := h b (Nat.le_refl _) hz
      exact nomatch hx
    · show b + 0 = max b z
      omega
  | x :: r, b, C, h, hz => by
    have h0 := C.low x (.head _)
    have hp := C.pos x (.head _)
    have hlast : x.1 + x.2.size ≤ z := by
      have hlt : x.2.size - 1 < x.2.toList.length := by rw [Array.length_toList]; omega
      have := hz (x.1 + (x.2.size - 1)) _ ⟨x, .head _, Nat.le_add_right _ _, by rw [Nat.add_sub_cancel_left]; exact List.getElem?_eq_getElem hlt⟩
      omega
    have hb : x.1 = b := by
      obtain ⟨o, ho⟩ := h b (Nat.le_refl _) (by omega)
      rcases partAt_cons.mp ho with ⟨q, -⟩ | q
      · omega
      · have := C.tail.at q
        omega
    obtain ⟨i1, i2⟩ := run_whole (z := z) C.tail (fun a h1 h2 => by
      obtain ⟨o, ho⟩ := h a (by omega) h2
      rcases partAt_cons.mp ho with ⟨q1, q2⟩ | q
      · exact absurd (partAt_own q2 q1) (by omega)
      · exact ⟨o, q⟩) (fun a o q => hz a o (partAt_cons.mpr (.inr q)))
    unfold runF
    rw [if_pos hb, ← hb, i1]
    refine ⟨by simp [octOf], ?_⟩
    have e : (octOf (x :: r)).length = x.2.size + (octOf r).length := by simp [octOf]
    rw [e]
    omega
theorem octs_run {ps : List (Nat × UInt8)} : ∀ {k b : Nat}, (∀ a, b ≤ a → a < b + k → (octAt ps a).isSome = true) → runT ps k b = (List.range' b k).map fun a => (octAt ps a).getD 0
  | 0, _, _ => rfl
  | k + 1, b, h => by
    obtain ⟨o, ho⟩ := Option.isSome_iff_exists.mp (h b (Nat.le_refl _) (by omega))
    unfold runT
    rw [ho, List.range'_succ, List.map_cons, ho]
    dsimp only
    rw [octs_run fun a h1 h2 => h a (by omega) (by omega)]
    rfl
theorem whole_octs {n : Nat} {d : DgS} {t : TwS} {z : Nat} {xs : List (Nat × Array UInt8)} (R : DRel n d t) (hz : d.en = some z) (hr : d.rows = []) (hp : xs.Perm d.parts) (hs : xs.Pairwise fun a b => a.1 < b.1) : octOf xs = octsT t.places z := by
  have hpm : ∀ a o, partAt xs a o ↔ partAt d.parts a o := fun a o => ⟨fun ⟨x, h1, h2⟩ => ⟨x, hp.mem_iff.mp h1, h2⟩, fun ⟨x, h1, h2⟩ => ⟨x, hp.mem_iff.mpr h1, h2⟩⟩
  have C : Chain 0 xs := .mk' (fun x hx => R.partsOk x (hp.mem_iff.mp hx)) ((hp.pairwise_iff fun h => h.symm).mpr R.partsApart) hs
  have hall := whole_all R hz hr
  obtain ⟨r1, r2⟩ := run_whole (z := z) C (fun a _ ha => by
    obtain ⟨o, ho⟩ := Option.isSome_iff_exists.mp (hall a ha)
    exact ⟨o, (hpm a o).mpr ((R.parts a o).mp ho)⟩) (fun a o q => by
    have := R.keyLt a (by rw [(R.parts a o).mpr ((hpm a o).mp q)]; exact Option.some_ne_none _)
    rwa [show d.en.getD 96 = z by rw [hz]; rfl] at this)
  have h1 := run_T (ps := t.places) (f := z) C fun a o _ => (R.parts a o).trans (hpm a o).symm
  rw [r1, List.take_of_length_le (by omega), octs_run (fun a _ ha => hall a (by omega))] at h1
  rw [← h1, ← List.range_eq_range']
  rfl
theorem gone_octs {n : Nat} {d : DgS} {t : TwS} {oct : List UInt8} (R : DRel n d t) (h : OctG d oct) : oct = octT t := by
  unfold octT
  rw [← R.first]
  by_cases hf : d.first = none
  · rw [if_pos hf]; exact h.1 hf
  · rw [if_neg hf]
    obtain ⟨xs, hp, hs, e⟩ := h.2 hf
    have C : Chain 0 xs := .mk' (fun x hx => R.partsOk x (hp.mem_iff.mp hx)) ((hp.pairwise_iff fun h => h.symm).mpr R.partsApart) hs
    rw [e, runOf_F, List.nil_append, run_T (f := 8) C fun a o _ => (R.parts a o).trans ⟨fun ⟨x, h1, h2⟩ => ⟨x, hp.mem_iff.mpr h1, h2⟩, fun ⟨x, h1, h2⟩ => ⟨x, hp.mem_iff.mp h1, h2⟩⟩]
    rfl
end
section
theorem Rel.ids {n : Nat} : ∀ {st : List (Int × DgS)} {tt : List (Int × TwS)}, Rel n st tt → st.map (·.1) = tt.map (·.1)
  | [], [], _ => rfl
  | x :: r, y :: q, h => by rw [List.map_cons, List.map_cons, h.1, h.2.2.ids]
  | [], _ :: _, h => h.elim
  | _ :: _, [], h => h.elim
theorem Rel.app {n : Nat} {s2 : List (Int × DgS)} {t2 : List (Int × TwS)} (h2 : Rel n s2 t2) : ∀ {s1 : List (Int × DgS)} {t1 : List (Int × TwS)}, Rel n s1 t1 → Rel n (s1 ++ s2) (t1 ++ t2)
  | [], [], _ => h2
  | _ :: _, _ :: _, h => ⟨h.1, h.2.1, h2.app h.2.2⟩
  | [], _ :: _, h => h.elim
  | _ :: _, [], h => h.elim
theorem Rel.cut {n : Nat} {s2 : List (Int × DgS)} {t2 : List (Int × TwS)} : ∀ {s1 : List (Int × DgS)} {t1 : List (Int × TwS)}, s1.length = t1.length → Rel n (s1 ++ s2) (t1 ++ t2) → Rel n s1 t1 ∧ Rel n s2 t2
  | [], [], _, h => ⟨trivial, h⟩
  | _ :: _, _ :: _, e, h => ⟨⟨h.1, h.2.1, (Rel.cut (Nat.succ.inj e) h.2.2).1⟩, (Rel.cut (Nat.succ.inj e) h.2.2).2⟩
  | [], _ :: _, e, _ => nomatch e
  | _ :: _, [], e, _ => nomatch e
theorem nodup_mid {i : Int} : ∀ {a b a' b' : List Int}, (a ++ i :: b).Nodup → a ++ i :: b = a' ++ i :: b' → a.length = a'.length
  | [], _, [], _, _, _ => rfl
  | [], b, y :: a', b', nd, e => by
    rw [List.nil_append, List.cons_append, List.cons.injEq] at e
    rw [List.nil_append, e.2] at nd
    exact ((List.nodup_cons.mp nd).1 (List.mem_append_right _ (.head _))).elim
  | x :: a, b, [], b', nd, e => by
    rw [List.nil_append, List.cons_append, List.cons.injEq] at e
    rw [e.1, List.cons_append] at nd
    exact ((List.nodup_cons.mp nd).1 (List.mem_append_right _ (.head _))).elim
  | x :: a, b, y :: a', b', nd, e => by
    rw [List.cons_append, List.cons_append, List.cons.injEq] at e
    rw [List.cons_append] at nd
    exact congrArg Nat.succ (nodup_mid (List.nodup_cons.mp nd).2 e.2)
theorem any_ids {β : Type} {i : Int} {l : List (Int × β)} : l.any (fun x => decide (x.1 = i)) = (l.map (·.1)).any (fun x => decide (x = i)) := by
  rw [List.any_map]; rfl
theorem rel_entry {n : Nat} {st : List (Int × DgS)} {tt : List (Int × TwS)} {i now : Int} (R : Rel n st tt) : Rel n (entryOf 96 st i now) (entryT tt i now) := by
  unfold entryOf entryT
  rw [any_ids, any_ids, R.ids]
  by_cases h : (tt.map (·.1)).any (fun x => decide (x = i)) = true
  · rw [if_pos h, if_pos h]; exact R
  · rw [if_neg h, if_neg h]; exact Rel.app (s2 := [(i, newDg 96 now)]) (t2 := [(i, newTw now)]) ⟨rfl, drel_new, trivial⟩ R
theorem entry_nd {st : List (Int × DgS)} {i now : Int} (nd : (st.map (·.1)).Nodup) : ((entryOf 96 st i now).map (·.1)).Nodup := by
  unfold entryOf
  by_cases h : st.any (fun x => decide (x.1 = i)) = true
  · rw [if_pos h]; exact nd
  · rw [if_neg h, List.map_append]
    refine List.nodup_append.mpr ⟨nd, List.nodup_cons.mpr ⟨fun q => (nomatch q), List.nodup_nil⟩, fun a ha b hb e => h ?_⟩
    obtain ⟨x, hx, rfl⟩ := List.mem_map.mp ha
    exact List.any_eq_true.mpr ⟨x, hx, decide_eq_true (e.trans (List.mem_singleton.mp hb))⟩
theorem rel_total {n : Nat} : ∀ {st : List (Int × DgS)} {tt : List (Int × TwS)}, Rel n st tt → totalOf (st.map (·.2)) = totalT (tt.map (·.2))
  | [], [], _ => rfl
  | x :: r, y :: q, h => by
    have := rel_total h.2.2
    unfold totalOf totalT at this ⊢
    rw [List.map_cons, List.map_cons, List.map_cons, List.map_cons, List.sum_cons, List.sum_cons, this, h.2.1.size]
  | [], _ :: _, h => h.elim
  | _ :: _, [], h => h.elim
theorem rel_room {n mo : Nat} : ∀ {st : List (Int × DgS)} {tt : List (Int × TwS)}, Rel n st tt → Rel n (roomD mo st) (roomT mo tt)
  | [], [], _ => trivial
  | x :: r, y :: q, h => by
    unfold roomD roomT
    rw [rel_total h]
    by_cases hm : mo < totalT ((y :: q).map (·.2))
    · rw [if_pos hm, if_pos hm]; exact rel_room h.2.2
    · rw [if_neg hm, if_neg hm]; exact h
  | [], _ :: _, h => h.elim
  | _ :: _, [], h => h.elim
section
variable {n mo : Nat} {st st' : List (Int × DgS)} {tt tt' : List (Int × TwS)} {i now : Int} {h : HdS} {pl : Array UInt8} {out out' : Option Spec}
theorem end_pos (h1 : ¬ (h.off = 0 ∧ h.more = false)) (h2 : (h.more && (decide (pl.size = 0) || decide (pl.size % 8 ≠ 0))) = false) : 0 < h.off + pl.size := by
  refine Nat.pos_of_ne_zero fun q => h1 ⟨by omega, ?_⟩
  cases hm : h.more with
  | false => rfl
  | true => rw [hm, decide_eq_true (show pl.size = 0 by omega)] at h2; exact nomatch h2
theorem put_some {d : DgS} {t : TwS} (D : DRel n d t) (h1 : ¬ (h.off = 0 ∧ h.more = false)) (h2 : (h.more && (decide (pl.size = 0) || decide (pl.size % 8 ≠ 0))) = false) (hd : twDenies 96 t.places t.en t.ahead (h.off + pl.size) h.more = false) : ∃ d', dgPut 96 d h pl = some d' ∧ DRel (n + 1) d' (twNext t h pl) := by
  have ha := (against_tw (mo := h.more) D (end_pos h1 h2)).trans hd
  obtain ⟨d', e⟩ : ∃ d', dgPut 96 d h pl = some d' := by
    unfold dgPut
    rw [if_neg (by rw [ha]; decide)]
    exact ⟨_, rfl⟩
  exact ⟨d', e, drel_put D e (end_pos h1 h2)⟩
theorem put_none {d : DgS} {t : TwS} (D : DRel n d t) (h1 : ¬ (h.off = 0 ∧ h.more = false)) (h2 : (h.more && (decide (pl.size = 0) || decide (pl.size % 8 ≠ 0))) = false) (hd : twDenies 96 t.places t.en t.ahead (h.off + pl.size) h.more = true) : dgPut 96 d h pl = none := by
  unfold dgPut
  rw [if_pos ((against_tw (mo := h.more) D (end_pos h1 h2)).trans hd)]
theorem rel_put (R : Rel n st tt) (nd : (st.map (·.1)).Nodup) (hp : RePutR 96 mo st i h pl now st' out) (ht : TwPutR 96 mo tt i h pl now tt' out') : Rel (n + 1) st' tt' ∧ out = out' := by
  unfold RePutR at hp
  unfold TwPutR at ht
  by_cases h1 : h.off = 0 ∧ h.more = false
  · rw [if_pos h1] at hp ht
    rw [hp.1, hp.2, ht.1, ht.2]
    exact ⟨R.mono, rfl⟩
  rw [if_neg h1] at hp ht
  by_cases h2 : (h.more && (decide (pl.size = 0) || decide (pl.size % 8 ≠ 0))) = true
  · rw [if_pos h2] at hp ht
    rw [hp.1, hp.2, ht.1, ht.2]
    exact ⟨R.mono, rfl⟩
  rw [if_neg h2] at hp ht
  have h2' := Bool.eq_false_iff.mpr h2
  obtain ⟨pre, d, post, e1, hp⟩ := hp
  obtain ⟨pre', t, post', e2, ht⟩ := ht
  have R1 := rel_entry (i := i) (now := now) R
  have n1 := entry_nd (i := i) (now := now) nd
  have i1 := R1.ids
  rw [e1] at n1
  rw [e1, e2, List.map_append, List.map_append, List.map_cons, List.map_cons] at i1
  rw [List.map_append, List.map_cons] at n1
  have hl := nodup_mid n1 i1
  rw [List.length_map, List.length_map] at hl
  rw [e1, e2] at R1
  obtain ⟨Ra, -, D, Rb⟩ := Rel.cut hl R1
  cases hd : twDenies 96 t.places t.en t.ahead (h.off + pl.size) h.more with
  | true =>
    rw [put_none D h1 h2' hd] at hp
    rw [if_pos hd] at ht
    dsimp only at hp
    rw [hp.1, hp.2, ht.1, ht.2]
    exact ⟨(Rb.app Ra).mono, rfl⟩
  | false =>
    obtain ⟨d', ed, D'⟩ := put_some D h1 h2' hd
    rw [ed] at hp
    rw [hd, if_neg (by decide), ← whole_iff D'] at ht
    dsimp only at hp D'
    by_cases hw : (d'.en.isSome && (d'.first.isSome && decide (d'.rows.length = 0))) = true
    · rw [if_pos hw] at hp ht
      obtain ⟨a1, xs, f, a2, a3, a4, a5⟩ := hp
      obtain ⟨b1, f', z, b2, b3, b4⟩ := ht
      rw [a1, b1, a5, b4]
      refine ⟨(Rb.app Ra).mono, ?_⟩
      have hf : f = f' := Option.some.inj (a2.symm.trans (D'.first.trans b2))
      have hr : d'.rows = [] := List.length_eq_zero_iff.mp (of_decide_eq_true ((Bool.and_eq_true_iff.mp (Bool.and_eq_true_iff.mp hw).2).2))
      have := whole_octs D' (D'.en.trans b3) hr a3 a4
      unfold octOf at this
      rw [this, hf]
    · rw [if_neg hw] at hp ht
      rw [hp.1, hp.2, ht.1, ht.2]
      exact ⟨rel_room (Rel.app (s2 := (i, d') :: post) (t2 := (i, twNext t h pl) :: post') ⟨rfl, D', Rb.mono⟩ Ra.mono), rfl⟩
theorem rel_hdo (R : Rel n st tt) (hn : n ≤ 9) : ∀ d d', (i, d) ∈ entryOf 96 st i now → dgPut 96 d h pl = some d' → d'.parts.length < 64 ∧ (d'.parts.map (·.1)).Nodup ∧ (d'.parts.map fun x => x.2.size).sum ≤ 1000 := fun d d' hm hd => by
  obtain ⟨y, -, -, D⟩ := (rel_entry (i := i) (now := now) R).left _ hm
  by_cases he : 0 < h.off + pl.size
  · exact ((drel_put D hd he).dims (by omega)).2.2
  · have h3 : d'.parts = d.parts := by
      unfold dgPut at hd
      split at hd
      · exact nomatch hd
      rw [← Option.some.inj hd]
      have : fillF h.off (h.off + pl.size) d.rows = [] := by
        cases hq : fillF h.off (h.off + pl.size) d.rows with
        | nil => rfl
        | cons q r =>
          have := fillF_mem (b := h.off) (e := h.off + pl.size) (rows := d.rows) (q := q) (by rw [hq]; exact .head _)
          omega
      dsimp only
      rw [this]
      exact List.append_nil _
    rw [h3]
    exact (D.dims (by omega)).2.2
theorem rel_hdoT (R : Rel n st tt) (h1 : ¬ (h.off = 0 ∧ h.more = false)) (h2 : (h.more && (decide (pl.size = 0) || decide (pl.size % 8 ≠ 0))) = false) : ∀ t, (i, t) ∈ entryT tt i now → twDenies 96 t.places t.en t.ahead (h.off + pl.size) h.more = false → wholeT (twNext t h pl) = true → (twNext t h pl).first.isSome = true ∧ ∀ z a, (twNext t h pl).en = some z → a < z → (octAt (twNext t h pl).places a).isSome = true := fun t hm hd hw => by
  obtain ⟨x, -, -, D⟩ := (rel_entry (i := i) (now := now) R).right _ hm
  obtain ⟨d', -, D'⟩ := put_some D h1 h2 hd
  rw [← whole_iff D'] at hw
  obtain ⟨q1, q2⟩ := Bool.and_eq_true_iff.mp hw
  obtain ⟨q3, q4⟩ := Bool.and_eq_true_iff.mp q2
  have hr : d'.rows = [] := List.length_eq_zero_iff.mp (of_decide_eq_true q4)
  refine ⟨D'.first ▸ q3, fun z a hz ha => whole_all D' (D'.en.trans hz) hr a ha⟩
theorem rel_keep {tl : Int} : ∀ {st : List (Int × DgS)} {tt : List (Int × TwS)}, Rel n st tt → Rel n (st.filter fun x => !due tl now x.2) (tt.filter fun x => !dueT tl now x.2) ∧ Rel n (st.filter fun x => due tl now x.2) (tt.filter fun x => dueT tl now x.2)
  | [], [], _ => ⟨trivial, trivial⟩
  | x :: r, y :: q, h => by
    obtain ⟨i1, i2⟩ := rel_keep (tl := tl) h.2.2
    have e : due tl now x.2 = dueT tl now y.2 := by unfold due dueT; rw [h.2.1.began]
    rw [List.filter_cons, List.filter_cons, List.filter_cons, List.filter_cons, e]
    cases dueT tl now y.2 with
    | true => exact ⟨i1, h.1, h.2.1, i2⟩
    | false => exact ⟨⟨h.1, h.2.1, i1⟩, i2⟩
  | [], _ :: _, h => h.elim
  | _ :: _, [], h => h.elim
end
end
section
open LCg
noncomputable def BentOf (sp sp' : Spec) : Prop := sp'.opt = sp.opt ∧ (sp'.off = sp.off ∨ sp'.off = sp.off + 96 ∨ sp'.off = sp.off + 8) ∧ sp'.pl.size ≤ sp.pl.size
theorem flip_ok (c : UInt8) : (255 : Int) - ((c.toNat : Nat) : Int) = (((UInt8.ofNat (255 - c.toNat)).toNat : Nat) : Int) := by
  have := UInt8.toNat_lt c
  rw [UInt8.toNat_ofNat']
  omega
theorem flip_snoc {ys : List Value} {l : List UInt8} {c : UInt8} {t : Tok} {v : Int} (hv : v = (255 : Int) - ((c.toNat : Nat) : Int)) (h : IntsAre ys (l.map fun b => ((b.toNat : Nat) : Int))) : IntsAre (ys ++ [.int v t]) ((l ++ [UInt8.ofNat (255 - c.toNat)]).map fun b => ((b.toNat : Nat) : Int)) := by
  rw [List.map_append, hv, flip_ok]
  exact h.append (.cons _ _ .nil)
theorem pick_less {b : Array UInt8} : (KBy.picked b none (some (-1))).size ≤ b.size := by
  rw [KBc.picked_eq]
  simp only [List.size_toArray, List.length_take, List.length_drop, Array.length_toList]
  omega
end
section
inductive CutR (M : Nat) (mo : Bool) (o : Int) (lat : Array UInt8) : Array UInt8 → Nat → List UInt8 → List Spec → Prop
  | last {b : Array UInt8} {k : Nat} {pl : List UInt8} : 20 + b.size + pl.length ≤ M → CutR M mo o lat b k pl [⟨mo, o + (k : Int), b, pl.toArray⟩]
  | step {b : Array UInt8} {k : Nat} {pl : List UInt8} {room : Nat} {rest : List Spec} : M < 20 + b.size + pl.length → room % 8 = 0 → 8 ≤ room → 20 + b.size + room ≤ M → M < 20 + b.size + room + 8 →
      CutR M mo o lat lat (k + room) (pl.drop room) rest → CutR M mo o lat b k pl (⟨true, o + (k : Int), b, (pl.take room).toArray⟩ :: rest)
theorem pick_from (pl : Array UInt8) (c : Nat) : KBy.picked pl (some (c : Int)) none = (pl.toList.drop c).toArray := by
  rw [KBc.picked_eq]
  show ((pl.toList.drop (clipAt pl.size c)).take (pl.size - clipAt pl.size c)).toArray = _
  rw [clipAt_nat]
  rcases Nat.le_total c pl.size with h | h
  · rw [Nat.min_eq_left h, List.take_of_length_le (by simp)]
  · rw [Nat.min_eq_right h, List.drop_of_length_le (by simp), List.drop_of_length_le (by simpa using h)]
    simp
theorem pick_mid (pl : Array UInt8) (c d : Nat) : KBy.picked pl (some (c : Int)) (some (c + d : Nat)) = ((pl.toList.drop c).take d).toArray := by
  rw [KBc.picked_eq]
  show ((pl.toList.drop (clipAt pl.size c)).take (clipAt pl.size (c + d : Nat) - clipAt pl.size c)).toArray = _
  rw [clipAt_nat, clipAt_nat]
  rcases Nat.le_total c pl.size with h | h
  · rw [Nat.min_eq_left h]
    rcases Nat.le_total (c + d) pl.size with h' | h'
    · rw [Nat.min_eq_left h', Nat.add_sub_cancel_left]
    · rw [Nat.min_eq_right h', List.take_of_length_le (by simp), List.take_of_length_le (by simp; omega)]
  · rw [Nat.min_eq_right h, List.drop_of_length_le (by simp), List.drop_of_length_le (by simpa using h)]
    simp
theorem natOf {v K : Int} (_ : v % 8 = 0) (h2 : K < v + 8) (h : 8 ≤ K) : ∃ r : Nat, v = (r : Int) := Int.eq_ofNat_of_zero_le (by omega)
theorem CutR.ne {M : Nat} {mo : Bool} {o : Int} {lat b : Array UInt8} {k : Nat} {pl : List UInt8} {ss : List Spec} (h : CutR M mo o lat b k pl ss) : ss ≠ [] := by cases h <;> simp
theorem CutR.flat {M : Nat} {mo : Bool} {o : Int} {lat b : Array UInt8} {k : Nat} {pl : List UInt8} {ss : List Spec} (h : CutR M mo o lat b k pl ss) : (ss.map fun s => s.pl.toList).flatten = pl := by
  induction h with
  | last _ => simp
  | step _ _ _ _ _ _ ih => simp [ih]
noncomputable def CutAt (M : Nat) (mo : Bool) (o : Int) (b : Array UInt8) (pl : List UInt8) (ss : List Spec) (i c : Nat) : Prop :=
  i < ss.length → ∃ bc, CutR M mo o (laterO b) bc c (pl.drop c) (ss.drop i) ∧ bc = if i = 0 then b else laterO b
theorem CutAt.zero {M : Nat} {mo : Bool} {o : Int} {b : Array UInt8} {pl : List UInt8} {ss : List Spec} (h : CutR M mo o (laterO b) b 0 pl ss) : CutAt M mo o b pl ss 0 0 :=
  fun _ => ⟨b, h, rfl⟩
theorem CutAt.turn {M : Nat} {mo : Bool} {o : Int} {b : Array UInt8} {pl : List UInt8} {ss : List Spec} {i c : Nat} {s : Spec} (h : CutAt M mo o b pl ss i c) (hs : ss[i]? = some s) :
    s.off = o + (c : Int) ∧ s.opt = (if i = 0 then b else laterO b) ∧ 20 + s.opt.size + s.pl.size ≤ M ∧ CutAt M mo o b pl ss (i + 1) (c + s.pl.size) ∧
      ((i + 1 = ss.length ∧ s.more = mo) ∨ (i + 1 < ss.length ∧ s.more = true ∧ s.pl.size % 8 = 0 ∧ 8 ≤ s.pl.size ∧ M < 20 + s.opt.size + s.pl.size + 8)) := by
  have hi : i < ss.length := by
    rcases Nat.lt_or_ge i ss.length with h | h
    · exact h
    · rw [List.getElem?_eq_none h] at hs; cases hs
  obtain ⟨bc, hc, rfl⟩ := h hi
  have e : ss.drop i = s :: ss.drop (i + 1) := by
    rw [List.drop_eq_getElem_cons hi]
    rw [List.getElem?_eq_getElem hi] at hs
    rw [Option.some.inj hs]
  rw [e] at hc
  generalize hr : ss.drop (i + 1) = r at hc
  cases hc with
  | last hl =>
    have : ss.length ≤ i + 1 := by simpa using hr
    refine ⟨rfl, rfl, by simpa using hl, fun h => absurd h (by omega), .inl ⟨by omega, rfl⟩⟩
  | step h1 h2 h3 h4 h5 h6 =>
    have hl : i + 1 < ss.length := by
      rcases Nat.lt_or_ge (i + 1) ss.length with h | h
      · exact h
      · rw [List.drop_of_length_le h] at hr
        exact absurd hr.symm h6.ne
    have z : ∀ room : Nat, M < 20 + (if i = 0 then b else laterO b).size + (List.drop c pl).length → 20 + (if i = 0 then b else laterO b).size + room ≤ M → ((List.drop c pl).take room).toArray.size = room := by
      intro room h1 h4
      rw [List.size_toArray, List.length_take]
      omega
    have z' := z _ h1 h4
    refine ⟨rfl, rfl, by dsimp only; omega, fun _ => ⟨laterO b, ?_, rfl⟩, .inr ⟨hl, rfl, by dsimp only; omega, by dsimp only; omega, by dsimp only; omega⟩⟩
    dsimp only
    rw [z', hr]
    rw [List.drop_drop] at h6
    exact h6
theorem CutR.len {M : Nat} {mo : Bool} {o : Int} {lat b : Array UInt8} {k : Nat} {pl : List UInt8} {ss : List Spec} (h : CutR M mo o lat b k pl ss) : ss.length ≤ pl.length + 1 := by
  induction h with
  | last _ => simp
  | step _ _ _ _ _ _ ih => simp at ih ⊢; omega
theorem sum_flat (ls : List (List UInt8)) : ls.flatten.length = (ls.map (·.length)).sum := List.length_flatten
theorem cut_sum {M : Nat} {mo : Bool} {o : Int} {lat b : Array UInt8} {k : Nat} {pl : Array UInt8} {ss : List Spec} (h : CutR M mo o lat b k pl.toList ss) : ((ss.map (·.pl)).map (·.size)).sum = pl.size := by
  have e := congrArg List.length h.flat
  rw [sum_flat, List.map_map] at e
  rw [List.map_map]
  simpa [Function.comp_def] using e
end
section
noncomputable def GoodSp (sp : Spec) : Prop := OptOk sp.opt ∧ 0 ≤ sp.off ∧ sp.off + (sp.pl.size : Int) ≤ 47
noncomputable def PiecesOk (P : Params) (led : List (Addr × Obj)) (i : Int) (vs : List Value) : Prop := ∀ v ∈ vs, ∃ sp, PieceIs P led v i sp ∧ GoodSp sp
theorem PiecesOk.mono {P : Params} {led led' : List (Addr × Obj)} {i : Int} {vs : List Value} (hs : Ext led led') (h : PiecesOk P led i vs) : PiecesOk P led' i vs := fun v hv => by
  obtain ⟨sp, h1, h2⟩ := h v hv
  exact ⟨sp, h1.mono hs, h2⟩
theorem PiecesOk.sub {P : Params} {led : List (Addr × Obj)} {i : Int} {vs vs' : List Value} (hs : ∀ v ∈ vs', v ∈ vs) (h : PiecesOk P led i vs) : PiecesOk P led i vs' := fun v hv => h v (hs v hv)
theorem PiecesOk.app {P : Params} {led : List (Addr × Obj)} {i : Int} {vs vs' : List Value} (h : PiecesOk P led i vs) (h' : PiecesOk P led i vs') : PiecesOk P led i (vs ++ vs') := fun v hv => (List.mem_append.mp hv).elim (h v) (h' v)
theorem CutR.good {M : Nat} {mo : Bool} {o : Int} {lat b : Array UInt8} {k : Nat} {pl : List UInt8} {ss : List Spec} (h : CutR M mo o lat b k pl ss) (hl : OptOk lat) : OptOk b → 0 ≤ o → o + (k : Int) + (pl.length : Int) ≤ 47 → ∀ s ∈ ss, GoodSp s := by
  induction h with
  | last _ =>
    intro hb ho hz s hs
    rw [List.mem_singleton.mp hs]
    refine ⟨hb, by show 0 ≤ o + (_ : Int); omega, ?_⟩
    show o + (_ : Int) + ((Array.size (List.toArray _) : Nat) : Int) ≤ 47
    rw [List.size_toArray]; exact hz
  | @step b k pl room rest h1 h2 h3 h4 h5 h6 ih =>
    intro hb ho hz s hs
    rcases List.mem_cons.mp hs with rfl | hs
    · refine ⟨hb, by show 0 ≤ o + (_ : Int); omega, ?_⟩
      show o + (_ : Int) + ((Array.size (List.toArray _) : Nat) : Int) ≤ 47
      rw [List.size_toArray, List.length_take]; omega
    · refine ih hl ho ?_ s hs
      rw [List.length_drop]; omega
theorem PiecesOk.of {P : Params} {led : List (Addr × Obj)} {i : Int} : ∀ {vs : List Value} {ss : List Spec}, PiecesAre P led i vs ss → (∀ s ∈ ss, GoodSp s) → PiecesOk P led i vs
  | [], [], _, _ => fun _ h => nomatch h
  | v :: vs, s :: ss, h, g => fun x hx => by
    rcases List.mem_cons.mp hx with rfl | hx
    · exact ⟨s, h.1, g s (.head _)⟩
    · exact PiecesOk.of h.2 (fun s hs => g s (.tail _ hs)) x hx
  | [], _ :: _, h, _ => h.elim
  | _ :: _, [], h, _ => h.elim
theorem onePlus {q : Int} (h : 0 ≤ q) (h2 : q < 2) : ∃ kk : Nat, 1 + q = (kk : Int) ∧ 1 ≤ kk ∧ kk ≤ 2 := ⟨(1 + q).toNat, by omega, by omega, by omega⟩
theorem pcsZ {vs ws : List Value} {ss : List Spec} {k : Nat} (h1 : ws.length = ss.length) (h2 : ss.length ≤ k + 1) (h3 : vs.length ≤ 1000) (h4 : k ≤ 47) : vs.length + ws.length ≤ 1000000 := by omega
theorem pcsL {vs ws : List Value} {ss : List Spec} {k z : Nat} (h1 : ws.length = ss.length) (h2 : ss.length ≤ z + 1) (hz : z ≤ 47) (j : vs.length ≤ 48 * k ∧ (1 ≤ k → 0 < vs.length)) (hn : ss ≠ []) : (vs ++ ws).length ≤ 48 * (k + 1) ∧ (1 ≤ k + 1 → 0 < (vs ++ ws).length) := by
  have := List.length_pos_iff.mpr hn
  rw [List.length_append]
  omega
theorem pcsG {pl : Array UInt8} (hz : pl.size ≤ 47) : (0 : Int) + ((0 : Nat) : Int) + ((pl.toList.length : Nat) : Int) ≤ 47 := by rw [Array.length_toList]; omega
theorem pcsAt {q : Int} {vs : List Value} (h0 : 0 ≤ q) (h1 : q < (vs.length : Int)) : ∃ (j : Nat) (v : Value), q = (j : Int) ∧ vs[j]? = some v := by
  have hj : q.toNat < vs.length := by omega
  exact ⟨q.toNat, vs[q.toNat], by omega, List.getElem?_eq_getElem hj⟩
theorem pcsS {sp : Spec} (h : 0 ≤ sp.off) (h2 : sp.off + (sp.pl.size : Int) ≤ 47) : sp.pl.size ≤ 100 := by omega
theorem pcsS2 {sp : Spec} (h2 : sp.off + (sp.pl.size : Int) ≤ 47) : sp.off ≤ 1000 := by omega
theorem pcsG2 {sp : Spec} (h2 : sp.off + (sp.pl.size : Int) ≤ 47) : sp.off + ((0 : Nat) : Int) + ((sp.pl.toList.length : Nat) : Int) ≤ 47 := by rw [Array.length_toList]; omega
theorem pcsL2 {vs ws : List Value} {ss : List Spec} {sp : Spec} (h1 : ws.length = ss.length) (h2 : ss.length ≤ sp.pl.size + 1) (g3 : 0 ≤ sp.off) (g4 : sp.off + (sp.pl.size : Int) ≤ 47) (j : vs.length ≤ 100) (hn : ss ≠ []) : (vs ++ ws).length ≤ 200 ∧ 0 < (vs ++ ws).length := by
  have := List.length_pos_iff.mpr hn
  rw [List.length_append]
  omega
theorem pcsZ2 {vs ws : List Value} {ss : List Spec} {sp : Spec} (h1 : ws.length = ss.length) (h2 : ss.length ≤ sp.pl.size + 1) (g3 : 0 ≤ sp.off) (g4 : sp.off + (sp.pl.size : Int) ≤ 47) (h3 : vs.length ≤ 100) : vs.length + ws.length ≤ 1000000 := by omega
theorem pcs9s {vs : List Value} {v : Value} {n : Nat} (h : vs.length < n) : (vs ++ [v]).length ≤ n := by rw [List.length_append]; exact h
theorem pcsLt {vs : List Value} {v : Value} {n j : Nat} (h : n = vs.length) (hv : vs[j]? = some v) : (vs.eraseIdx j).length < n := by
  have hj := (List.getElem?_eq_some_iff.mp hv).1
  rw [List.length_eraseIdx_of_lt hj, h]
  omega
theorem pcs9 {n : Nat} (h : ((n : Nat) : Int) < 9) : n < 9 := by omega
theorem oneOpt {a b c d : Tok} {k : Nat} {v : Value} (h : [Value.bytes #[] a, Value.bytes #[] b, Value.bytes #[148, 4, 0, 0] c, Value.bytes #[7, 7, 4, 0, 0, 0, 0, 0] d][k]? = some v) : ∃ b t, v = .bytes b t ∧ OptOk b := by
  rcases k with _ | _ | _ | _ | k <;> simp at h <;> subst h
  · exact ⟨_, _, rfl, .inl rfl⟩
  · exact ⟨_, _, rfl, .inl rfl⟩
  · exact ⟨_, _, rfl, .inr (.inl rfl)⟩
  · exact ⟨_, _, rfl, .inr (.inr rfl)⟩
theorem oneMtu {a b c d : Tok} {k : Nat} {v : Value} (h : [Value.int 36 a, Value.int 44 b, Value.int 52 c, Value.int 60 d][k]? = some v) : ∃ (M : Nat) (t : Tok), v = .int (M : Int) t ∧ 36 ≤ M ∧ M ≤ 70 := by
  rcases k with _ | _ | _ | _ | k <;> simp at h <;> subst h
  · exact ⟨36, _, rfl, by decide, by decide⟩
  · exact ⟨44, _, rfl, by decide, by decide⟩
  · exact ⟨52, _, rfl, by decide, by decide⟩
  · exact ⟨60, _, rfl, by decide, by decide⟩
end
section
inductive PGone (led : List (Addr × Obj)) (v : Value) (x : Int × DgS) : Prop
  | mk {lo : Addr} {fv : Value} {n : Nat} {u : Tok} {oct : List UInt8} : v = .ref lo → (lo, W.listOf #[fv, .bytes oct.toArray u] n) ∈ led → ToldV led x.1 fv x.2.first → OctG x.2 oct → PGone led v x
theorem Ext.cons' {q : Addr × Obj} {b : List (Addr × Obj)} : Ext b (q :: b) := fun _ h => .tail _ h
theorem ToldV.mono {led led' : List (Addr × Obj)} (hs : Ext led led') {i : Int} {v : Value} : ∀ {f : Option HdS}, ToldV led i v f → ToldV led' i v f
  | none, h => h
  | some _, ⟨t, T, k, e, h⟩ => ⟨t, T, k, e, hs _ h⟩
theorem PGone.mono {led led' : List (Addr × Obj)} (hs : Ext led led') (v : Value) (x : Int × DgS) : PGone led v x → PGone led' v x
  | .mk h1 h2 h3 h4 => .mk h1 (hs _ h2) (h3.mono hs) h4
theorem Rel.get {n : Nat} : ∀ {st : List (Int × DgS)} {tt : List (Int × TwS)}, Rel n st tt → ∀ {j : Nat} {x : Int × DgS} {y : Int × TwS}, st[j]? = some x → tt[j]? = some y → x.1 = y.1 ∧ DRel n x.2 y.2
  | x :: r, y :: q, h, 0, _, _, e, e' => by
    obtain rfl := Option.some.inj e
    obtain rfl := Option.some.inj e'
    exact ⟨h.1, h.2.1⟩
  | x :: r, y :: q, h, j + 1, _, _, e, e' => h.2.2.get (j := j) e e'
  | [], [], _, _, _, _, e, _ => nomatch e
  | [], _ :: _, h, _, _, _, _, _ => h.elim
  | _ :: _, [], h, _, _, _, _, _ => h.elim
section
open PySem.SeqAt
variable {A : Around} {s : Shared} {h₀ : Heap} {L : Addr} {news led led' : List (Addr × Obj)} {i : Int} {fv fv' : Value}
theorem eqTold (hu : A.units < cLine) (N : News h₀ L s.heap news) : ∀ {f : Option HdS}, ToldV news i fv f → ToldV news i fv' f → EqAt A s fv fv' true
  | none, h, h' => by
    obtain rfl : fv = .none := h
    obtain rfl : fv' = .none := h'
    exact EqAt.same _
  | some f, ⟨t, T, k, e, h⟩, ⟨t', T', k', e', h'⟩ => by
    rw [e, e']
    exact eq_told hu (N.get h) (N.get h')
variable {prog : Program} {w : World} {E Q : Value → Shared → Prop}
theorem neOut {l1 t1 : Addr} {T : Nat → Tok} {n k : Nat} {u : Tok} {v : Value} {sp : Spec} (hu : A.units + 1 < cLine) (N : News h₀ L s.heap news) (m1 : (l1, W.listOf #[.ref t1, .bytes sp.pl u] n) ∈ news) (m2 : (t1, toldObj T k i sp.more sp.off sp.opt) ∈ news) (m3 : TOutIs led i v (some sp)) (hs : Ext led news)
    (h : Q (.bool false) s) : wpAny (model prog w) A (compareOp .NotEq (.ref l1) v) Q E s := by
  cases m3 with
  | some e1 e2 e3 =>
    rw [e1]
    exact ne_pair (Nat.lt_of_succ_lt hu) (N.get m1) (N.get (hs _ e2)) (eq_told (A := A.in1) hu (N.get m2) (N.get (hs _ e3))) prog w E Q h
theorem neGone {a b : Addr} {na nb n : Nat} {vs vs' : List Value} {xs : List (Int × DgS)} {ys : List (Int × TwS)} (hu : A.units + 2 < cLine) (N : News h₀ L s.heap news) (m1 : (a, W.listOf vs.toArray na) ∈ news) (m2 : (b, W.listOf vs'.toArray nb) ∈ news)
    (a1 : AllAre (PGone led) vs xs) (a2 : AllAre (TGoneIs led') vs' ys) (s1 : Ext led news) (s2 : Ext led' news) (R : Rel n xs ys) (h : Q (.bool false) s) : wpAny (model prog w) A (compareOp .NotEq (.ref a) (.ref b)) Q E s := by
  have hl : vs.length = vs'.length := a1.len.trans (R.len.trans a2.len.symm)
  have k : RcNeAt A s (.ref a) (.ref b) (!(List.range vs.toArray.size).all (fun _ => true)) := RcNeAt.lists (e := fun _ => true) ⟨_, N.get m1, rfl, _, rfl⟩ ⟨_, N.get m2, rfl, _, rfl⟩ (by simpa using hl) (by omega) fun j h1 h2 => by
    obtain ⟨x, hx, p⟩ := a1.at (k := j) (v := vs.toArray[j]) (by simp)
    obtain ⟨y, hy, q⟩ := a2.at (k := j) (v := vs'.toArray[j]) (by simp)
    obtain ⟨e1, D⟩ := R.get hx hy
    cases p with
    | mk p1 p2 p3 p4 =>
      cases q with
      | mk q1 q2 q3 =>
        rw [p1, q1]
        rw [← e1, ← D.first] at q3
        rw [← gone_octs D p4] at q2
        exact eq_pair (A := A.in1) (by show A.units + 1 < cLine; omega) (N.get (s1 _ p2)) (N.get (s2 _ q2)) (eqTold (A := A.in1.in1) hu N (p3.mono s1) (q3.mono s2))
  have e : (List.range vs.toArray.size).all (fun _ => true) = true := List.all_eq_true.mpr fun _ _ => rfl
  rw [e] at k
  exact k prog w E Q h
end
theorem room_len {mo : Nat} : ∀ {st : List (Int × DgS)}, (roomD mo st).length ≤ st.length
  | [] => Nat.le_refl _
  | e :: r => by
    unfold roomD
    split
    · exact Nat.le_succ_of_le room_len
    · exact Nat.le_refl _
theorem put_len {mo : Nat} {st st' : List (Int × DgS)} {i now : Int} {h : HdS} {pl : Array UInt8} {out : Option Spec} (hp : RePutR 96 mo st i h pl now st' out) : st'.length ≤ st.length + 1 := by
  unfold RePutR at hp
  split at hp
  · rw [hp.1]; exact Nat.le_succ _
  · split at hp
    · rw [hp.1]; exact Nat.le_succ _
    · obtain ⟨pre, d, post, e1, hp⟩ := hp
      have e2 : pre.length + (post.length + 1) ≤ st.length + 1 := by
        have := congrArg List.length e1
        rw [List.length_append, List.length_cons] at this
        rw [← this]
        unfold entryOf
        split
        · exact Nat.le_succ _
        · rw [List.length_append]; exact Nat.le_refl _
      split at hp
      · rw [hp.1, List.length_append]; omega
      · split at hp
        · rw [hp.1, List.length_append]; omega
        · rw [hp.1]
          refine Nat.le_trans room_len ?_
          rw [List.length_append, List.length_cons]; exact e2
structure GF (P : Params) (RT : Nat → Tok) (tl : Int) (mo : Nat) (t1 t2 t3 : Tok) (ln : Nat) (rx rdx wd lim rl d1 d2 : Addr) (im : List (Addr × Obj)) : Prop where
  g1 : (rx, instObj 260 rdx) ∈ im
  g2 : (rdx, reObj P RT tl mo ((96 : Nat) : Int) wd) ∈ im
  g3 : (lim, tupOf #[.int tl t1, .int (mo : Int) t2, .int ((96 : Nat) : Int) t3] ln) ∈ im
  g4 : (rl, W.listOf #[.ref d1, .ref d2] 0) ∈ im
theorem GF.mono {P : Params} {RT : Nat → Tok} {tl : Int} {mo : Nat} {t1 t2 t3 : Tok} {ln : Nat} {rx rdx wd lim rl d1 d2 : Addr} {im im' : List (Addr × Obj)} (hs : Ext im im') (g : GF P RT tl mo t1 t2 t3 ln rx rdx wd lim rl d1 d2 im) : GF P RT tl mo t1 t2 t3 ln rx rdx wd lim rl d1 d2 im' := ⟨hs _ g.g1, hs _ g.g2, hs _ g.g3, hs _ g.g4⟩
structure MF (rl src lim rx tw : Addr) (z : Int) (tz : Tok) (m : Str → Option Value) : Prop where
  m1 : m (Str.ofString "rows") = some (.ref rl)
  m2 : m (Str.ofString "source") = some (.ref src)
  m3 : m (Str.ofString "limits") = some (.ref lim)
  m4 : m (Str.ofString "joined") = some (.ref rx)
  m5 : m (Str.ofString "twin") = some (.ref tw)
  m6 : m (Str.ofString "now") = some (.int z tz)
theorem bentPiece {P : Params} {led : List (Addr × Obj)} {v : Value} {i : Int} {sp : Spec} {h : HdS} {pl : Array UInt8} (hp : PieceIs P led v i sp) (hb : BentOf ⟨h.more, (h.off : Int), h.opt, pl⟩ sp) (hz : pl.size ≤ 47) :
    ∃ (t x : Addr) (h' : HdS) (pl' : Array UInt8) (u : Tok) (n : Nat), v = .ref t ∧ (t, tupOf #[.ref x, .bytes pl' u] n) ∈ led ∧ HdrIs P led x i h'.more (h'.off : Int) h'.opt ∧ pl'.size ≤ 47 := by
  obtain ⟨t, x, n, u, e, h1, h2⟩ := hp
  have h0 : 0 ≤ sp.off := by
    have := hb.2.1
    dsimp only at this
    omega
  exact ⟨t, x, ⟨sp.more, sp.off.toNat, sp.opt⟩, sp.pl, u, n, e, h1, by rw [Int.toNat_of_nonneg h0]; exact h2, Nat.le_trans hb.2.2 hz⟩
theorem rel_dims {n : Nat} {l : List WE} {tt : List (Int × TwS)} (R : Rel n (l.map absE) tt) (hn : n ≤ 9) : ∀ e ∈ l, e.d.rows.length ≤ 400 ∧ e.d.parts.length ≤ 400 := fun e he => by
  have := rel_dg R (Nat.le_succ_of_le hn) (absE e) (List.mem_map_of_mem he)
  exact ⟨this.1, this.2.1⟩
theorem tw_dims {n : Nat} {st : List (Int × DgS)} {l : List TE} (R : Rel n st (l.map absT)) : ∀ e ∈ l, e.d.places.length ≤ 1000 := fun e he => rel_tw R (absT e) (List.mem_map_of_mem he)
theorem reNd {P : Params} {im : List (Addr × Obj)} {l : List WE} (R : ReIn P im l) : ((l.map absE).map (·.1)).Nodup := by
  have := R.nd
  rwa [List.map_map]
theorem tOutNone {led : List (Addr × Obj)} {i : Int} {v : Value} (h : TOutIs led i v none) : v = .none := by
  cases h with
  | none e => exact e
theorem rel_dims2 {n : Nat} {l : List WE} {tt : List (Int × TwS)} (R : Rel n (l.map absE) tt) (hn : n ≤ 10) : ∀ e ∈ l, e.d.parts.length < 64 ∧ (e.d.parts.map (·.1)).Nodup ∧ (e.d.parts.map fun x => x.2.size).sum ≤ 1000 := fun e he => (rel_dg R hn (absE e) (List.mem_map_of_mem he)).2.2
theorem gone_len {α : Type} {R : Value → α → Prop} {f : WE → α} {tl z : Int} {l : List WE} {vs : List Value} {k : Nat} (h : AllAre R vs ((goneW tl z l).map f)) (hl : l.length ≤ k + 1) (hk : k < 10) : vs.toArray.size ≤ sizeLine := by
  have h1 := h.len
  rw [List.length_map] at h1
  have h2 : (goneW tl z l).length ≤ l.length := List.length_filter_le _ _
  rw [List.size_toArray, sizeLine_eq]
  omega
theorem rel_gone {n : Nat} {l : List WE} {lt : List TE} {tl z : Int} (R : Rel n (l.map absE) (lt.map absT)) : Rel n ((keepW tl z l).map absE) ((keepT tl z lt).map absT) ∧ Rel n ((goneW tl z l).map absE) ((goneT tl z lt).map absT) := by
  have h := rel_keep (tl := tl) (now := z) R
  rw [List.filter_map, List.filter_map, List.filter_map, List.filter_map] at h
  exact h
theorem lawM {v : Int} (h : 0 ≤ v) (h2 : v < 30) : ∃ M : Nat, 36 + v = (M : Int) ∧ 36 ≤ M ∧ M ≤ 70 := ⟨(36 + v).toNat, by omega, by omega, by omega⟩
theorem one2 {a b : Tok} {k : Nat} {v : Value} (h : [Value.int 12 a, Value.int 30 b][k]? = some v) : ∃ (n : Int) (t : Tok), v = .int n t := by
  rcases k with _ | _ | k <;> simp at h <;> subst h <;> exact ⟨_, _, rfl⟩
theorem one3 {a b c : Tok} {k : Nat} {v : Value} (h : [Value.int 32 a, Value.int 56 b, Value.int 200 c][k]? = some v) : ∃ (n : Nat) (t : Tok), v = .int (n : Int) t := by
  rcases k with _ | _ | _ | k <;> simp at h <;> subst h
  · exact ⟨32, _, rfl⟩
  · exact ⟨56, _, rfl⟩
  · exact ⟨200, _, rfl⟩
theorem oneNow {a b c d e : Tok} {k : Nat} {v : Value} (h : [Value.int 0 a, Value.int 1 b, Value.int 1 c, Value.int 2 d, Value.int 5 e][k]? = some v) : ∃ n t, v = .int n t := by
  have := List.mem_of_getElem? h
  simp only [List.mem_cons, List.not_mem_nil, or_false] at this
  rcases this with h | h | h | h | h <;> exact ⟨_, _, h⟩
theorem oneRow {d1 d2 : Addr} {k : Nat} {v : Value} (h : [Value.ref d1, Value.ref d2][k]? = some v) : ∃ dr, v = .ref dr ∧ (dr = d1 ∨ dr = d2) := by
  rcases k with _ | _ | k <;> simp at h <;> subst h
  · exact ⟨_, rfl, .inl rfl⟩
  · exact ⟨_, rfl, .inr rfl⟩
theorem oneOpt3 {a c d : Tok} {k : Nat} {v : Value} (h : [Value.bytes #[] a, Value.bytes #[148, 4, 0, 0] c, Value.bytes #[7, 7, 4, 0, 0, 0, 0, 0] d][k]? = some v) : ∃ b t, v = .bytes b t ∧ OptOk b := by
  rcases k with _ | _ | _ | k <;> simp at h <;> subst h
  · exact ⟨_, _, rfl, .inl rfl⟩
  · exact ⟨_, _, rfl, .inr (.inl rfl)⟩
  · exact ⟨_, _, rfl, .inr (.inr rfl)⟩
structure LawB where
  o : Obj
  v1 : List Value
  n1 : Nat
  v2 : List Value
  n2 : Nat
  l : List WE
  ep : Nat
  lt : List TE
  ot : Obj
  nw : List (Addr × Obj)
noncomputable abbrev lawLed (prog : Program) (w : World) (src d1 d2 wd tw : Addr) (b : LawB) (X : List (Addr × Obj)) : List (Addr × Obj) :=
  (src, b.o) :: (d1, W.listOf b.v1.toArray b.n1) :: (d2, W.listOf b.v2.toArray b.n2) :: (wd, wdObj prog w (wsOf b.l) b.ep) :: (tw, b.ot) :: (feet w.params 96 b.l ++ (feetG tft b.lt ++ X))
structure LawJ (prog : Program) (w : World) (n : Nat) (i1 i2 : Int) (b : LawB) (M : List (Addr × Obj)) : Prop where
  sr : SrcIs b.o
  p1 : PiecesOk w.params M i1 b.v1
  p2 : PiecesOk w.params M i2 b.v2
  z1 : b.v1.length ≤ 10
  z2 : b.v2.length ≤ 10
  re : ReIn w.params M b.l
  tws : TwsIn prog w M b.lt
  rel : Rel n (b.l.map absE) (b.lt.map absT)
  dict : b.ot.IsDictOf (intKind prog w) (tkv b.lt)
  len : b.l.length ≤ n
noncomputable def Halt (d1 d2 dr dq : Addr) (ir iq : Int) : Prop := (dr = d1 ∧ dq = d2 ∧ ir = 1 ∧ iq = 2) ∨ (dr = d2 ∧ dq = d1 ∧ ir = 2 ∧ iq = 1)
theorem LawJ.swap {prog : Program} {w : World} {n : Nat} {i1 i2 : Int} {b : LawB} {M : List (Addr × Obj)} (J : LawJ prog w n i1 i2 b M) : LawJ prog w n i2 i1 { b with v1 := b.v2, n1 := b.n2, v2 := b.v1, n2 := b.n1 } M :=
  ⟨J.sr, J.p2, J.p1, J.z2, J.z1, J.re, J.tws, J.rel, J.dict, J.len⟩
theorem LawJ.pick {prog : Program} {w : World} {n : Nat} {src d1 d2 wd tw dr : Addr} {b : LawB} {M X : List (Addr × Obj)} (J : LawJ prog w n 1 2 b M) (h : dr = d1 ∨ dr = d2) : ∃ dq ir iq b', Halt d1 d2 dr dq ir iq ∧ LawJ prog w n ir iq b' M ∧ b'.o = b.o ∧ b'.nw = b.nw ∧ (lawLed prog w src d1 d2 wd tw b X).Perm (lawLed prog w src dr dq wd tw b' X) := by
  rcases h with rfl | rfl
  · exact ⟨d2, 1, 2, b, .inl ⟨rfl, rfl, rfl, rfl⟩, J, rfl, rfl, .refl _⟩
  · exact ⟨d1, 2, 1, _, .inr ⟨rfl, rfl, rfl, rfl⟩, J.swap, rfl, rfl, .cons _ (.swap _ _ _)⟩
theorem LawJ.back {prog : Program} {w : World} {n : Nat} {ir iq : Int} {src d1 d2 wd tw dr dq : Addr} {b : LawB} {M X : List (Addr × Obj)} (J : LawJ prog w n ir iq b M) (h : Halt d1 d2 dr dq ir iq) : ∃ b', LawJ prog w n 1 2 b' M ∧ b'.nw = b.nw ∧ (lawLed prog w src dr dq wd tw b X).Perm (lawLed prog w src d1 d2 wd tw b' X) := by
  rcases h with ⟨rfl, rfl, rfl, rfl⟩ | ⟨rfl, rfl, rfl, rfl⟩
  · exact ⟨b, J, rfl, .refl _⟩
  · exact ⟨_, J.swap, rfl, .cons _ (.swap _ _ _)⟩
theorem permTurn {prog : Program} {w : World} {src d1 d2 wd tw : Addr} {b : LawB} {N M : List (Addr × Obj)} {p r : Addr × Obj} : (p :: r :: lawLed prog w src d1 d2 wd tw b (N ++ M)).Perm (lawLed prog w src d1 d2 wd tw b (N ++ (p :: r :: M))) := by
  have h : ∀ A : List (Addr × Obj), (p :: r :: (A ++ (feet w.params 96 b.l ++ (feetG tft b.lt ++ (N ++ M))))).Perm (A ++ (feet w.params 96 b.l ++ (feetG tft b.lt ++ (N ++ (p :: r :: M))))) := fun A =>
    (List.perm_append_comm_assoc [p, r] A _).trans (.append_left A ((List.perm_append_comm_assoc [p, r] _ _).trans (.append_left _ ((List.perm_append_comm_assoc [p, r] _ _).trans (.append_left _ (List.perm_append_comm_assoc [p, r] N M))))))
  exact h [_, _, _, _, _]
theorem PiecesOk.head {P : Params} {M : List (Addr × Obj)} {i : Int} {vs : List Value} (p : PiecesOk P M i vs) (h : ¬ vs.length = 0) :
    ∃ (v : Value) (x : Addr), vs[0]? = some v ∧ ∃ (h : HdS) (pl : Array UInt8) (u : Tok) (t : Addr) (n : Nat), v = .ref t ∧ (t, tupOf #[.ref x, .bytes pl u] n) ∈ M ∧ HdrIs P M x i h.more (h.off : Int) h.opt ∧ pl.size ≤ 47 := by
  cases vs with
  | nil => exact absurd rfl h
  | cons v r =>
    obtain ⟨sp, ⟨t, x, n, u, e, h1, h2⟩, h3, h4, h5⟩ := p v (.head _)
    exact ⟨v, x, rfl, ⟨sp.more, sp.off.toNat, sp.opt⟩, sp.pl, u, t, n, e, h1, by rw [Int.toNat_of_nonneg h4]; exact h2, by omega⟩
theorem LawJ.nw {prog : Program} {w : World} {n : Nat} {i1 i2 : Int} {b : LawB} {M X : List (Addr × Obj)} (J : LawJ prog w n i1 i2 b M) : LawJ prog w n i1 i2 { b with nw := X } M := ⟨J.sr, J.p1, J.p2, J.z1, J.z2, J.re, J.tws, J.rel, J.dict, J.len⟩
theorem LawJ.src {prog : Program} {w : World} {n : Nat} {i1 i2 : Int} {b : LawB} {M : List (Addr × Obj)} {o : Obj} (J : LawJ prog w n i1 i2 b M) (h : SrcIs o) : LawJ prog w n i1 i2 { b with o := o } M := ⟨h, J.p1, J.p2, J.z1, J.z2, J.re, J.tws, J.rel, J.dict, J.len⟩
theorem LawJ.mono {prog : Program} {w : World} {n : Nat} {i1 i2 : Int} {b : LawB} {M M' : List (Addr × Obj)} (J : LawJ prog w n i1 i2 b M) (e : Ext M M') : LawJ prog w n i1 i2 b M' := ⟨J.sr, J.p1.mono e, J.p2.mono e, J.z1, J.z2, J.re.mono e, J.tws.mono e, J.rel, J.dict, J.len⟩
theorem LawJ.step {prog : Program} {w : World} {n : Nat} {i1 i2 : Int} {b : LawB} {M : List (Addr × Obj)} (J : LawJ prog w n i1 i2 b M) : LawJ prog w (n + 1) i1 i2 b M := ⟨J.sr, J.p1, J.p2, J.z1, J.z2, J.re, J.tws, J.rel.mono, J.dict, Nat.le_succ_of_le J.len⟩
theorem LawJ.zero {prog : Program} {w : World} {o ot : Obj} {v1 v2 : List Value} {n1 n2 ep : Nat} {nw1 nw2 M : List (Addr × Obj)} (h : SrcIs o) (a1 : PiecesOk w.params nw1 1 v1) (c1 : PiecesOk w.params nw2 2 v2) (a2 : v1.length ≤ 10) (c2 : v2.length ≤ 10)
    (hd : ot.IsDictOf (intKind prog w) []) (s1 : Ext nw1 M) (s2 : Ext nw2 M) : LawJ prog w 0 1 2 ⟨o, v1, n1, v2, n2, [], ep, [], ot, M⟩ M :=
  ⟨h, a1.mono s1, c1.mono s2, a2, c2, ⟨fun e he => (nomatch he), fun e he => (nomatch he), List.nodup_nil⟩, ⟨fun e he => (nomatch he), List.nodup_nil⟩, trivial, hd, Nat.le_refl _⟩
section
open Classical
theorem permLaw {prog : Program} {w : World} {rl d2 d1 tw wd a b c d e f s : Addr × Obj} {N1 N2 : List (Addr × Obj)} : (rl :: d2 :: (N2 ++ (d1 :: (N1 ++ [tw, wd, a, b, c, d, e, f, s])))).Perm (s :: d1 :: d2 :: wd :: tw :: (rl :: (N2 ++ (N1 ++ [a, b, c, d, e, f])))) := by
  have p1 : (N1 ++ [tw, wd, a, b, c, d, e, f, s]).Perm (s :: wd :: tw :: (N1 ++ [a, b, c, d, e, f])) :=
    (List.perm_append_comm_assoc N1 [tw, wd] [a, b, c, d, e, f, s]).trans (((List.Perm.of_eq (List.append_assoc N1 [a, b, c, d, e, f] [s]).symm).trans List.perm_append_comm |>.append_left [tw, wd]).trans ((List.reverse_perm [s, wd, tw]).append_right (N1 ++ [a, b, c, d, e, f])))
  have p2 := (p1.cons d1).append_left N2 |>.trans (List.perm_append_comm_assoc N2 [d1, s, wd, tw] (N1 ++ [a, b, c, d, e, f]))
  exact ((p2.cons d2).cons rl).trans (((List.perm_append_comm (l₁ := [rl]) (l₂ := [d2, d1, s, wd, tw])).append_right (N2 ++ (N1 ++ [a, b, c, d, e, f]))).trans ((List.reverse_perm [s, d1, d2]).append_right (wd :: tw :: rl :: (N2 ++ (N1 ++ [a, b, c, d, e, f])))))
end
noncomputable def Tl (nw TL M X : List (Addr × Obj)) : Prop := ∃ N, M = N ++ nw ∧ X = N ++ TL
theorem Tl.grow {nw TL M X A : List (Addr × Obj)} (h : Tl nw TL M X) : Tl nw TL (A ++ M) (A ++ X) := by
  obtain ⟨N, rfl, rfl⟩ := h
  exact ⟨A ++ N, (List.append_assoc ..).symm, (List.append_assoc ..).symm⟩
theorem Tl.ext {nw TL M X : List (Addr × Obj)} (h : Tl nw TL M X) (e : Ext nw TL) : Ext M X := by
  obtain ⟨N, rfl, rfl⟩ := h
  exact Ext.app2 e
section
variable {prog : Program} {w : World} {src d1 d2 wd tw : Addr} {b : LawB} {X N A : List (Addr × Obj)}
theorem lawMem {q s a c x t : Addr × Obj} {F G : List (Addr × Obj)} (h : q ∈ X) : q ∈ s :: a :: c :: x :: t :: (F ++ (G ++ X)) := .tail _ (.tail _ (.tail _ (.tail _ (.tail _ (List.mem_append_right _ (List.mem_append_right _ h))))))
theorem permNew : (A ++ lawLed prog w src d1 d2 wd tw b X).Perm (lawLed prog w src d1 d2 wd tw b (A ++ X)) :=
  (List.perm_append_comm_assoc A [_, _, _, _, _] _).trans (.append_left [_, _, _, _, _] ((List.perm_append_comm_assoc A _ _).trans (.append_left _ (List.perm_append_comm_assoc A _ X))))
variable {s a c x t : Addr × Obj} {F G : List (Addr × Obj)}
theorem permW : (s :: a :: c :: x :: t :: (F ++ (G ++ X))).Perm (x :: (F ++ (s :: a :: c :: t :: (G ++ X)))) :=
  (List.perm_middle (l₁ := [s, a, c])).trans (.cons _ (List.perm_append_comm_assoc [s, a, c, t] F _))
theorem permWo : (x :: (F ++ (N ++ (s :: a :: c :: t :: (G ++ X))))).Perm (s :: a :: c :: x :: t :: (F ++ (G ++ (N ++ X)))) :=
  List.Perm.trans (l₂ := x :: (F ++ (s :: a :: c :: t :: (G ++ (N ++ X))))) (.cons _ (.append_left F ((List.perm_append_comm_assoc N [s, a, c, t] _).trans (.append_left [s, a, c, t] (List.perm_append_comm_assoc N G X))))) permW.symm
theorem permT : (s :: a :: c :: x :: t :: (F ++ (G ++ X))).Perm (t :: (G ++ (s :: a :: c :: x :: (F ++ X)))) :=
  (List.perm_middle (l₁ := [s, a, c, x])).trans (.cons _ ((List.Perm.append_left [s, a, c, x] (List.perm_append_comm_assoc F G X)).trans (List.perm_append_comm_assoc [s, a, c, x] G _)))
theorem permTo : (t :: (G ++ (N ++ (s :: a :: c :: x :: (F ++ X))))).Perm (s :: a :: c :: x :: t :: (F ++ (G ++ (N ++ X)))) :=
  List.Perm.trans (l₂ := t :: (G ++ (s :: a :: c :: x :: (F ++ (N ++ X))))) (.cons _ (.append_left G ((List.perm_append_comm_assoc N [s, a, c, x] _).trans (.append_left [s, a, c, x] (List.perm_append_comm_assoc N F X))))) permT.symm
end
structure T4B where
  o : Obj
  x : Addr
  h : HdS
  pl : Array UInt8
  pt : Tok
  M : List (Addr × Obj)
  X : List (Addr × Obj)
theorem LawJ.pop {prog : Program} {w : World} {n nn : Nat} {i1 i2 : Int} {o ot : Obj} {vr vq : List Value} {nr nq ep k : Nat} {l : List WE} {lt : List TE} {Y M : List (Addr × Obj)} (J : LawJ prog w n i1 i2 ⟨o, vr, nr, vq, nq, l, ep, lt, ot, Y⟩ M) : LawJ prog w n i1 i2 ⟨o, vr.eraseIdx k, nn, vq, nq, l, ep, lt, ot, Y⟩ M :=
  ⟨J.sr, J.p1.sub fun _ hv => (List.eraseIdx_sublist _ _).subset hv, J.p2, Nat.le_trans (List.eraseIdx_sublist _ _).length_le J.z1, J.z2, J.re, J.tws, J.rel, J.dict, J.len⟩
section
variable {y z s a c x t : Addr × Obj} {F G X N : List (Addr × Obj)}
theorem permT2 : (y :: z :: s :: a :: c :: x :: t :: (F ++ (G ++ X))).Perm (t :: (G ++ (y :: z :: s :: a :: c :: x :: (F ++ X)))) :=
  (List.Perm.append_left [y, z] (permT (s := s) (a := a) (c := c) (x := x) (t := t) (F := F) (G := G) (X := X))).trans ((List.perm_middle (l₁ := [y, z])).trans (.cons _ (List.perm_append_comm_assoc [y, z] G _)))
theorem permTo2 : (t :: (G ++ (N ++ (y :: z :: s :: a :: c :: x :: (F ++ X))))).Perm ([y, z] ++ (s :: a :: c :: x :: t :: (F ++ (G ++ (N ++ X))))) := by
  refine List.Perm.trans (l₂ := [y, z] ++ (t :: (G ++ (N ++ (s :: a :: c :: x :: (F ++ X)))))) ?_ (.append_left [y, z] permTo)
  refine List.Perm.trans (l₂ := t :: ([y, z] ++ (G ++ (N ++ (s :: a :: c :: x :: (F ++ X)))))) (.cons _ ?_) List.perm_middle.symm
  exact (List.Perm.append_left G (List.perm_append_comm_assoc N [y, z] _)).trans (List.perm_append_comm_assoc G [y, z] _)
end
theorem goneAdd {M nw : List (Addr × Obj)} {ys : List Value} {xs : List (Int × DgS)} {k : Nat} {y : Int × DgS} {v : Value} (A : List (Addr × Obj)) (hR : AllAre (PGone (nw ++ M)) ys (xs.take k)) (hy : xs[k]? = some y) (h : PGone ((A ++ nw) ++ M) v y) : AllAre (PGone ((A ++ nw) ++ M)) (ys ++ [v]) (xs.take (k + 1)) := by
  rw [List.take_add_one, hy]
  exact (hR.imp (PGone.mono fun p hp => by rw [List.append_assoc]; exact List.mem_append_right _ hp)).snoc h
theorem goneAll {M : List (Addr × Obj)} {ys vs : List Value} {xs : List (Int × DgS)} {P : Params} {L : List (Addr × Obj)} (hR : AllAre (PGone M) ys (xs.take vs.toArray.size)) (q : AllAre (GoneIs P L) vs xs) : AllAre (PGone M) ys xs := by
  rw [List.size_toArray, q.len, List.take_length] at hR
  exact hR
end
section
section
variable {w : World} {c : Cx} {sc : Scope} {m : Nms} {n im : Led} {d u : Nat} {K P : Value → Led → Prop} {v1 v2 v3 : Value} {i j : Int}
theorem ge_mulI (h1 : IsI i v1) (h2 : IsI j v2) (hb : Builtin.Int.intBits i ≤ 64) (kk : ∀ v, IsI (i * j) v → K v n) : GE w c sc m (binaryOp .Mult v1 v2) n K := fun s Q E F N r => by
  obtain ⟨t1, rfl⟩ := h1
  obtain ⟨t2, rfl⟩ := h2
  exact PyProof.Rows.mul_int (r _ _ _ _ (kk _ .mk) F N) (PySem.IntMulOk.of_left hb)
theorem one_m {src t : Addr} {o : Obj} {f : Obj → Led} {vs : List Value} {kk : Nat} (ok : CxOk w c sc 2 20) (S : ∀ o', Sw src o o' n (f o')) (hs : SrcIs o) (hm : ∀ o', (t, W.listOf vs.toArray kk) ∈ f o') (h1 : 0 < vs.length) (h2 : vs.length ≤ 256)
    (ret : ∀ (v : Value) (i : Nat) o', i < vs.length → vs[i]? = some v → SrcIs o' → K v (f o')) : GE w c sc m (call (.ref 404) [.ref src, .ref t]) n K := fun s Q E F N r =>
  one_g ok S hs ((S o).same ▸ hm o) (Sw.other S N.D hm) h1 h2 ret s Q E F N r
theorem ge_neOut {l1 t1 : Addr} {T : Nat → Tok} {k k' : Nat} {tk : Tok} {v : Value} {sp : Spec} {led : Led} (ok : CxOk w c sc d (u + 1)) (m1 : (l1, W.listOf #[.ref t1, .bytes sp.pl tk] k) ∈ n) (m2 : (t1, toldObj T k' i sp.more sp.off sp.opt) ∈ n) (m3 : TOutIs led i v (some sp)) (hs : Ext led n) (kk : K (.bool false) n) : GE w c sc m (compareOp .NotEq (.ref l1) v) n K := fun s Q E F N r =>
  neOut ok.u1 N.N m1 m2 m3 hs (r _ _ _ _ kk F N)
theorem ge_neGone {a b : Addr} {na nb rn : Nat} {vs vs' : List Value} {xs : List (Int × DgS)} {ys : List (Int × TwS)} {led led' : Led} (ok : CxOk w c sc d (u + 2)) (m1 : (a, W.listOf vs.toArray na) ∈ n) (m2 : (b, W.listOf vs'.toArray nb) ∈ n) (a1 : AllAre (PGone led) vs xs) (a2 : AllAre (TGoneIs led') vs' ys) (s1 : Ext led n) (s2 : Ext led' n) (R : Rel rn xs ys) (kk : K (.bool false) n) : GE w c sc m (compareOp .NotEq (.ref a) (.ref b)) n K := fun s Q E F N r =>
  neGone (by obtain ⟨B, X, T, hk, hdp, hun⟩ := ok; exact Nat.lt_of_le_of_lt (Nat.add_le_add_left (Nat.le_add_left 2 u) _) hun) N.N m1 m2 a1 a2 s1 s2 R (r _ _ _ _ kk F N)
theorem cp_neNN : Cp w .NotEq (Is .none) (Is .none) false := fun _ _ h1 h2 _ s _ _ k => by
  rw [h1, h2]
  exact EqNone.ne_none_none (k s.toks)
theorem m260_put : MethIn w 260 (Str.ofString "put") 224 := ⟨by k_is, by k_is, by k_is, by k_is⟩
theorem m260_expire : MethIn w 260 (Str.ofString "expire") 250 := ⟨by k_is, by k_is, by k_is, by k_is⟩
theorem m260_count : MethIn w 260 (Str.ofString "count") 236 := ⟨by k_is, by k_is, by k_is, by k_is⟩
theorem rn_put {P : Params} {T : Nat → Tok} {tl mo most : Int} {wd : Addr} : ObjNo (Str.ofString "put") (reObj P T tl mo most wd) := ⟨_, _, rfl, rfl⟩
theorem rn_expire {P : Params} {T : Nat → Tok} {tl mo most : Int} {wd : Addr} : ObjNo (Str.ofString "expire") (reObj P T tl mo most wd) := ⟨_, _, rfl, rfl⟩
theorem rn_count {P : Params} {T : Nat → Tok} {tl mo most : Int} {wd : Addr} : ObjNo (Str.ofString "count") (reObj P T tl mo most wd) := ⟨_, _, rfl, rfl⟩
theorem gs_go {dp un : Nat} {gd : Option (List Code)} {cn : Str} {L a : Addr} {ccd : Value} {cl : List (Str × Addr)} {outer : List Env} {h₀ : Heap} {l : List (Str × Value)} {s : Shared} {Q : Flow → Shared → Prop} {E : Value → Shared → Prop} {body : List Stmt} {R : Flow → Nms → Led → Prop}
    {A₀ : Around} {base : Heap} {p : Program} {loose : List Str} {mean : ExcName → Option Value} {mg mb : Str → Option Value} {sl : Addr} {its : Array Value} (F : Fr h₀ L s.heap (fun x => l.lookup x)) (N : News h₀ L s.heap []) (B : Below A₀ base outer h₀) (X : (t1.heap_1_1 w.params).In h₀) (T : Top p loose mean mg mb h₀) (hL : h₀.IsList sl its)
    (hk : sc.kind = .function) (hdp : dp + d < recursionLimit) (hun : un + u < cLine)
    (q : ∀ f m' n' h' tk', R f m' n' → Fr h₀ L h' m' → News h₀ L h' n' → Q f { s with heap := h', toks := tk' }) (h : ∀ c : Cx, CxOk w c sc d u → c.h₀.IsList sl its → GS w c sc (NM nm0 l) (execs body (c.en sc)) [] R) :
    wpAny (model PR w) (ktrTop dp un gd cn sc L a ccd cl outer) (execs body (envX cn sc L a ccd cl)) Q E s :=
  h ⟨dp, un, gd, cn, L, a, ccd, cl, outer, h₀⟩ ⟨B, X, T, hk, hdp, hun⟩ hL s Q E (nm_enter ▸ F) ⟨N, List.nodup_nil⟩ fun f m' n' h' tk' p F' N' => q f m' n' h' tk' p F' N'.N
end
end
section
theorem cutM {n : Nat} (h : n % 8 = 0) : ((n : Nat) : Int).fmod 8 = 0 := by
  rw [Int.fmod_eq_emod_of_nonneg _ (by decide)]
  omega
theorem cut_flat {M : Nat} {mo : Bool} {o : Int} {lat b pl : Array UInt8} {k : Nat} {ss : List Spec} (hcr : CutR M mo o lat b k pl.toList ss) : (List.map (fun x => x.toList) (List.map (fun x => x.pl) ss)).flatten.toArray = pl := by
  apply Array.toList_inj.mp
  rw [List.map_map]
  exact hcr.flat
end
section
theorem ev_size {w : World} {c : Cx} {sc : Scope} {m : Nms} {n : Led} {x : Str} {pos ap xp : Pos} {d u : Nat} {pl : Env → Sem Bool} {xa : Addr} {i o : Int} {mo : Bool} {b : Array UInt8} (ok : CxOk w c sc d u) (hd : Nat.ble 1 d = true) (hu : Nat.ble 10 u = true) (hv : m x = some (.ref xa)) (hl : okL sc x = true) (H : HdrIs w.params n xa i mo o b) (hb : b.size ≤ 100)
    (he : ∀ env, eval (.Call (.Attribute (.Name x xp) (Str.ofString "size") ap) [] [] pos) env = (do
      let ov ← eval (.Name x xp) env
      standAt ap.atName
      let (f, first) ← holding [ov] (getMethod ov (Str.ofString "size") (pl env))
      callWith pos f first (backTo pos (starEach [] env)) []) := by intro _; rfl) :
    EvP w c sc m n (.Call (.Attribute (.Name x xp) (Str.ofString "size") ap) [] [] pos) (IsI (20 + (b.size : Int))) := by
  obtain ⟨dx, T, H1, H2⟩ := id H
  exact .of (ge_meth0 (pl := pl) ok (ev_name hv hl .mk) H1 H2 m74_size hn_size (size_g (ok.le hd hu) H hb fun v hv => ⟨hv, rfl⟩) he)
structure CutB where
  c : Nat
  bc : Array UInt8
  vs : List Value
  k : Nat
  done : List Spec
  new : Led
  va : Value
  u : Tok
structure CutJ (P : Params) (im : Led) (M : Nat) (i o : Int) (mo : Bool) (b pl : Array UInt8) (k : Nat) (a : CutB) : Prop where
  at_ : IsI (a.c : Int) a.va
  ps : PiecesAre P (a.new ++ im) i a.vs a.done
  opt : OptOk a.bc
  le : a.c ≤ pl.size
  left : k = pl.size - a.c
  len : a.done.length ≤ a.c
  cut : ∀ r, CutR M mo o (laterO b) a.bc a.c (pl.toList.drop a.c) r → CutR M mo o (laterO b) b 0 pl.toList (a.done ++ r)
theorem cut_g {w : World} {c : Cx} {sc : Scope} {m : Nms} {n im : Led} {P : Value → Led → Prop} {x : Addr} {i o : Int} {mo : Bool} {b pl : Array UInt8} {M : Nat} {tp : Tok} {v3 : Value}
    (ok : CxOk w c sc 7 100) (H : HdrIs w.params im x i mo o b) (him : Ext im n) (hb : OptOk b) (hpl : pl.size ≤ 100) (ho : 0 ≤ o ∧ o ≤ 1000) (hM : 36 ≤ M ∧ M ≤ 70) (h3 : IsI (M : Int) v3)
    (ret : ∀ (l : Addr) (vs : List Value) (k : Nat) (ss : List Spec) (new nx : Led), PiecesAre w.params (new ++ im) i vs ss → CutR M mo o (laterO b) b 0 pl.toList ss → nx = new ++ (l, W.listOf vs.toArray k) :: n → P (.ref l) nx) :
    GE w c sc m (call (.ref 383) [.ref x, .bytes pl tp, v3]) n P := by
  have hbs := hb.size
  have hb1 : b.size ≤ 100 := Nat.le_trans hbs (by decide)
  have H₀ := H.mono him
  obtain ⟨dx, T, H1, H2⟩ := id H₀
  refine' g_enter (d := 6) (u := 97) [(Str.ofString "header", .ref x), (Str.ofString "payload", .bytes pl tp), (Str.ofString "mtu", v3)] (by exact rfl) (ok.le rfl rfl) (by k_is) (by k_is) (by intro s; exact BindsTo.of_eq rfl) (by exact rfl) (by exact rfl) ?_
  intro c' ok'
  refine gs_if0 (ev_cmp (P1 := IsI _) (P2 := IsI _) (ev_add (ev_size ok' rfl rfl (by walk_at "nm") rfl H₀ hb1) (ev_len ok' (by walk_at "ev") rfl (by walk_at "bz"))) (by walk_at "ev") cp_le) (fun hc => ?_) fun hc => ?_
  · refine gs_ret (.pp (ge_list ok' (ga_cons (ge_tuple ok' (ga_v (by walk_at "ev") (ga_v (by walk_at "ev") (ga_nil ⟨rfl, fun t => ga_nil ⟨rfl, fun l => ⟨_, .swap _ _ _, ?_⟩⟩⟩)))))))
    exact ret l [.ref t] 0 [⟨mo, o + (0 : Nat), b, pl⟩] [(t, _)] _ ⟨⟨_, _, _, _, rfl, .head _, by simpa using H.mono (Ext.cons Ext.rfl)⟩, trivial⟩ (.last (by simp only [Array.length_toList]; omega)) rfl
  refine gs_ifF0 (ev_tb rfl (ev_attr ok' (by walk_at "nm") rfl H1 H2 i74_dont hd_dont .mk)) ?_
  refine gs_let rfl rfl (ge_list ok' (ga_nil ⟨rfl, fun l => ?_⟩))
  have mm1 : ∀ (nw : Led) (q : Addr × Obj) (_ : Unit), (x, instObj 74 dx) ∈ nw ++ q :: n := fun _ _ _ => List.mem_append_right _ (.tail _ H1)
  have mm2 : ∀ (nw : Led) (q : Addr × Obj) (_ : Unit), (dx, hdrObj w.params T i mo o b) ∈ nw ++ q :: n := fun _ _ _ => List.mem_append_right _ (.tail _ H2)
  refine gs_let rfl rfl (ge_ev (P := IsI 0) (by walk_at "ev") fun va ha => ?_)
  refine gs_let rfl rfl (ge_v (ev_attr ok' (by walk_at "nm") rfl (.tail _ H1) (.tail _ H2) i74_options hd_options .mk) ?_)
  refine gs_let rfl rfl (ge_call ok' (by k_is) (by k_is) rfl (ga_v (ev_attr ok' (by walk_at "nm") rfl (.tail _ H1) (.tail _ H2) i74_options hd_options .mk) (ga_nil (later_g (ok'.le rfl rfl) hb fun t3 => ?_))))
  refine gs_while (α := CutB) (fun a => a.new ++ (l, W.listOf a.vs.toArray a.k) :: n)
    (fun k m a => All8 (m (Str.ofString "found") = some (.ref l)) (m (Str.ofString "at") = some a.va) (m (Str.ofString "options") = some (.bytes a.bc a.u)) (m (Str.ofString "later") = some (.bytes (laterO b) t3)) (m (Str.ofString "header") = some (.ref x)) (m (Str.ofString "payload") = some (.bytes pl tp)) (m (Str.ofString "mtu") = some v3)
      (CutJ w.params im M i o mo b pl k a)) pl.size ⟨0, b, [], 0, [], [], va, _⟩ rfl ⟨by walk_at "nm", by walk_at "nm", by walk_at "nm", by walk_at "nm", by walk_at "nm", by walk_at "nm", by walk_at "nm", ⟨ha, trivial, hb, Nat.zero_le _, rfl, Nat.le_refl _, fun r h => h⟩⟩ ?_
  intro k m₁ ⟨cc, bc, vs, kk, done, new, va, u2⟩ ⟨m1, m2, m3, m4, m5, m6, m7, J⟩
  obtain ⟨ja, jp, jo, jl, jk, jn, jc⟩ := J
  dsimp only at m2 m3 ja jp jo jl jk jn jc ⊢
  refine evt_const.ge ?_
  rw [if_pos rfl]
  have hb8 := jo.size
  have hbcs : bc.size ≤ 100 := Nat.le_trans hb8 (by decide)
  have hvs := jp.len
  have HR : ∀ q, HdrIs w.params (new ++ q :: n) x i mo o b := fun q => H₀.mono fun p hp => List.mem_append_right _ (.tail _ hp)
  refine gs_let rfl rfl (ge_call ok' (by k_is) (by k_is) rfl (ga_v (by walk_at "ev") (ga_cons (ge_ev (by walk_at "ev") fun v4 h4 => ga_v ev_bool (ga_v (by walk_at "ev") (ga_nil (part_g (ok'.le rfl rfl) (HR _) h4 fun hx hdx T9 => ?_)))))))
  refine gs_let rfl rfl (ge_ev (ev_sub (ev_len ok' (by walk_at "ev") rfl (by walk_at "bz")) (by walk_at "ev")) fun v5 h5 => ?_)
  have HH : ∀ (r : Led), HdrIs w.params ((hx, instObj 74 hdx) :: (hdx, hdrObj w.params T9 i true (o + cc) bc) :: r) hx i true (o + cc) bc := fun r => ⟨hdx, T9, .head _, .tail _ (.head _)⟩
  refine gs_if0 (ev_cmp (P1 := IsI _) (P2 := IsI _) (ev_add (ev_size ok' rfl rfl (by walk_at "nm") rfl (HH _) hbcs) (by walk_at "ev")) (by walk_at "ev") cp_le) (fun hc2 => ?_) fun hc2 => ?_
  · refine gs_expr rfl (ge_bmeth (by walk_at "ev") (bm_append ok' (by walk_at "mm")) (ga_cons (ge_tuple ok' (ga_cons (ge_call ok' (by k_is) (by k_is) rfl (ga_v (by walk_at "ev") (ga_cons (ge_ev (by walk_at "ev") fun v6 h6 => ga_v (by walk_at "ev") (ga_v (by walk_at "ev") (ga_nil (part_g (ok'.le rfl rfl) ((HR _).mono (Ext.cons (Ext.cons Ext.rfl))) h6 fun hx2 hdx2 T8 => ga_cons (ge_ev (by walk_at "ev") fun v7 h7 => ga_nil ⟨rfl, fun t1 => ga_nil (ge_append (by walk_at "sw") (by rw [hvs]; omega) ?_)⟩))))))))))))
    obtain ⟨u7, rfl⟩ := h7
    refine gs_ret (ge_v (by walk_at "ev") (rk_ret (wk_ret (rk_ret ?_))))
    refine ret l _ _ (done ++ [⟨mo, o + (cc : Int), bc, KBy.picked pl (some (cc : Int)) none⟩]) (_ :: _ :: _ :: _ :: _ :: new) _ ?_ ?_ rfl
    · refine PiecesAre.snoc ?_ (jp.mono ?_)
      · exact ⟨_, _, _, _, rfl, .head _, _, _, .tail _ (.head _), .tail _ (.tail _ (.head _))⟩
      · exact Ext.cons (Ext.cons (Ext.cons (Ext.cons (Ext.cons Ext.rfl))))
    · refine jc _ ?_
      rw [pick_from]
      exact .last (by simp only [List.length_drop, Array.length_toList]; omega)
  refine gs_let rfl rfl (ge_call ok' (by k_is) (by k_is) rfl (ga_v (by walk_at "ev") (ga_cons (ge_ev (ev_size ok' rfl rfl (by walk_at "nm") rfl (HH _) hbcs) fun v6 h6 => ga_nil (room_g (M := M) (ok'.le rfl rfl) h3 h6 (by omega) (by omega) (by omega) fun z v7 h7 z1 z2 z3 => ?_)))))
  obtain ⟨r, rfl⟩ := natOf z1 z3 (by omega)
  refine gs_expr rfl (ge_bmeth (by walk_at "ev") (bm_append ok' (by walk_at "mm")) (ga_cons (ge_tuple ok' (ga_v (by walk_at "ev") (ga_cons (ge_ev (by walk_at "ev") fun v8 h8 => ga_nil ⟨rfl, fun t1 => ga_nil (ge_append (by walk_at "sw") (by rw [hvs]; omega) ?_)⟩))))))
  obtain ⟨u8, rfl⟩ := h8
  refine gs_let rfl rfl (ge_ev (by walk_at "ev") fun v9 h9 => ?_)
  refine gs_let rfl rfl (ge_v (by walk_at "ev") ?_)
  refine gs_nil (wk_next (α := CutB) (pl.size - (cc + r)) ⟨cc + r, laterO b, _, _, done ++ [⟨true, o + (cc : Int), bc, KBy.picked pl (some (cc : Int)) (some (cc + r : Nat))⟩], _ :: _ :: _ :: new, v9, t3⟩ (by omega) ⟨by walk_at "nm", by walk_at "nm", by walk_at "nm", by walk_at "nm", by walk_at "nm", by walk_at "nm", by walk_at "nm", ⟨h9.to (by dsimp only; omega), ?_, OptOk.later, by dsimp only; omega, rfl, ?_, ?_⟩⟩)
  · refine PiecesAre.snoc ?_ (jp.mono ?_)
    · exact ⟨_, _, _, _, rfl, .head _, _, _, .tail _ (.head _), .tail _ (.tail _ (.head _))⟩
    · exact Ext.cons (Ext.cons (Ext.cons Ext.rfl))
  · simp only [List.length_append, List.length_cons, List.length_nil]; omega
  · intro z hz
    dsimp only at hz ⊢
    rw [List.append_assoc]
    refine jc _ ?_
    rw [pick_mid]
    refine .step ?_ ?_ ?_ ?_ ?_ ?_
    · simp only [List.length_drop, Array.length_toList]; omega
    · omega
    · omega
    · omega
    · omega
    · rw [List.drop_drop]; exact hz
end
section
open LCg
theorem cut_right_g {w : World} {c : Cx} {sc : Scope} {m : Nms} {n im : Led} {P : Value → Led → Prop} {x : Addr} {i o : Int} {mo : Bool} {b pl : Array UInt8} {M : Nat} {tp : Tok} {v3 : Value}
    (ok : CxOk w c sc 9 140) (H : HdrIs w.params im x i mo o b) (him : Ext im n) (hb : OptOk b) (hpl : pl.size ≤ 100) (ho : 0 ≤ o ∧ o ≤ 1000) (hM : 36 ≤ M ∧ M ≤ 70) (h3 : IsI (M : Int) v3) (ret : P (.bool true) n) :
    GE w c sc m (call (.ref 442) [.ref x, .bytes pl tp, v3]) n P := by
  refine GE.app ?_
  refine' g_enter (d := 8) (u := 137) [(Str.ofString "header", .ref x), (Str.ofString "payload", .bytes pl tp), (Str.ofString "mtu", v3)] (by exact rfl) (ok.le rfl rfl) (by k_is) (by k_is) (by intro s; exact BindsTo.of_eq rfl) (by exact rfl) (by exact rfl) ?_
  intro c' ok'
  refine gs_let rfl rfl (ge_call ok' (by k_is) (by k_is) rfl (ga_v (by walk_at "ev") (ga_v (by walk_at "ev") (ga_v (by walk_at "ev") (ga_nil (cut_g (ok'.le rfl rfl) H him hb hpl ho hM h3 fun l vs kl ss new nx hpc hcr hnx => ?_))))))
  have hlen := hpc.len
  have hlen2 : ss.length ≤ pl.size + 1 := by simpa only [Array.length_toList] using hcr.len
  have hvz : vs.length ≤ 1000000 := by omega
  have hz9 : vs.length < 2 ^ 30 := by omega
  have hbs : b.size ≤ 100 := Nat.le_trans hb.size (by decide)
  have hln : (l, W.listOf vs.toArray kl) ∈ nx := hnx ▸ List.mem_append_right _ (.head _)
  have hpn := hpc.mono (led' := nx) (hnx ▸ fun p hp => (List.mem_append.mp hp).elim (fun q => List.mem_append_left _ q) fun q => List.mem_append_right _ (.tail _ (him p q)))
  have HN := H.mono (led' := nx) (hnx ▸ fun p hp => List.mem_append_right _ (.tail _ (him p hp)))
  have hfin : ∀ q : Led, ∃ nw, q ++ nx = nw ++ n := fun q => ⟨q ++ (new ++ [(l, W.listOf vs.toArray kl)]), by rw [hnx]; simp⟩
  clear hnx hpc him H
  refine gs_let rfl rfl (ge_ev (P := IsI 0) (by walk_at "ev") fun va ha => ?_)
  refine gs_forR (ge_type ok' (by k_is) (by boot_fast) (by decide) rfl (ga_cons (ge_ev (ev_lenL ok' (by walk_at "ev") rfl hln hvz) fun v hv => ga_nil ?_)))
  obtain ⟨tl, rfl⟩ := hv
  refine ge_range fun r t0 t2 => ?_
  refine ForR.mk (α := Nat × Value) (fun _ => (r, rangeObj (vs.length : Int) t0 tl t2) :: nx) (fun p _ => p :: (r, rangeObj (vs.length : Int) t0 tl t2) :: nx)
    (fun k m a => All6 (m (Str.ofString "header") = some (.ref x)) (m (Str.ofString "payload") = some (.bytes pl tp)) (m (Str.ofString "mtu") = some v3) (m (Str.ofString "parts") = some (.ref l)) (m (Str.ofString "at") = some a.2) (IsI (a.1 : Int) a.2 ∧ CutAt M mo o b pl.toList ss k a.1))
    (0, va) rfl rfl (fun _ _ => .refl _) (.head _) hz9 ⟨by walk_at "nm", by walk_at "nm", by walk_at "nm", by walk_at "nm", by walk_at "nm", ha, CutAt.zero hcr⟩ ?_ ?_
  · intro k v m₁ ⟨cc, vc⟩ p hk hv ⟨m1, m2, m3, m4, m5, hc, hat⟩
    dsimp only at m5 hc hat ⊢
    obtain ⟨v9, hv9⟩ : ∃ v, vs[k]? = some v := ⟨_, List.getElem?_eq_getElem hk⟩
    obtain ⟨⟨mo', of', b', pl'⟩, hs', tt, x', n', u', e9, ht, hx'⟩ := PieceIs.of hpn hv9
    rw [e9] at hv9
    obtain ⟨q1, q2, q3, q4, q5⟩ := hat.turn hs'
    dsimp only at q1 q2 q3 q4 q5 hx' ht
    subst q1
    have hx9 := hx'.mono (led' := p :: (r, rangeObj (vs.length : Int) t0 tl t2) :: nx) (Ext.cons (Ext.cons Ext.rfl))
    have HN9 := HN.mono (led' := p :: (r, rangeObj (vs.length : Int) t0 tl t2) :: nx) (Ext.cons (Ext.cons Ext.rfl))
    have hln9 : (l, W.listOf vs.toArray kl) ∈ p :: (r, rangeObj (vs.length : Int) t0 tl t2) :: nx := .tail _ (.tail _ hln)
    have ht9 : (tt, tupOf #[.ref x', .bytes pl' u'] n') ∈ p :: (r, rangeObj (vs.length : Int) t0 tl t2) :: nx := .tail _ (.tail _ ht)
    obtain ⟨dx', T', hx1, hx2⟩ := id hx9
    obtain ⟨dx0, T0, hx3, hx4⟩ := id HN9
    have hps : pl'.size ≤ 100 := by omega
    have hbs' : b'.size ≤ 100 := by omega
    clear ht hx' hpn HN hcr hat
    refine gu_name rfl ?_
    refine gs_asg rfl (ge_v (ev_item (by walk_at "ev") (by walk_at "ev") hln9 hv9 hvz .mk) (gu_tup2 ht9 rfl rfl ?_))
    have hL : (((k : Nat) : Int) == (vs.length : Int) - 1) = decide (k + 1 = ss.length) := by
      rw [Bool.eq_iff_iff, beq_iff_eq, decide_eq_true_iff]
      omega
    refine gs_let rfl rfl (ge_v (hL ▸ ev_cmpV (P1 := IsI _) (P2 := IsI _) (by walk_at "ev") (ev_sub (ev_lenL ok' (by walk_at "ev") rfl hln9 hvz) (by walk_at "ev")) cp_eq) ?_)
    refine gs_let rfl rfl (ge_ev (P := IsY b') (EvP.old (ge_ifexp (b := decide (k = 0)) (EvT.to (ev_cmp (P1 := IsI _) (P2 := IsI _) (by walk_at "ev") (by walk_at "ev") cp_eq) (by rw [Bool.eq_iff_iff, beq_iff_eq, decide_eq_true_iff]; exact Int.ofNat_eq_zero)) (fun hq => ?_) (fun hq => ?_))) fun vd hd => ?_)
    · exact ge_ev (P := IsY b) (by walk_at "ev") fun v hv => ⟨by rw [q2, if_pos (of_decide_eq_true hq)]; exact hv, [], rfl⟩
    · refine ge_ev (P := IsY (laterO b)) ?_ fun v hv => ⟨by rw [q2, if_neg (of_decide_eq_false hq)]; exact hv, [], rfl⟩
      refine ev_mulLater (bs := b) (EvP.of (ge_call0 ok' (by k_is) (by k_is) rfl (alert_g (ok'.le rfl rfl) fun t => ⟨.mk, rfl⟩))) (EvP.old (ge_type ok' (by k_is) (by boot_fast) (by decide) rfl (ga_cons (ge_cmp (ge_ev (P := IsY _) (by walk_at "ev") fun v1 h1 => ge_type ok' (by k_is) (by boot_fast) (by decide) rfl (ga_cons (ge_list ok' (ga_cons (ge_ev (P := IsI _) ev_int fun v2 h2 => ga_nil ⟨rfl, fun D => ga_nil ?_⟩)))))))))
      obtain ⟨t2, rfl⟩ := h2
      exact ge_bytes (l := [148]) (.head _) (.cons _ _ .nil) (by decide) fun t => Cp.ge cp_eqY h1 .mk (ga_nil (ge_intB ok' fun v hv => ⟨by rw [← decide_eq_decide.mpr (pick_alert hb)]; exact hv, [_], rfl⟩))
    refine gs_ifF0 (EvT.to (evt_or3 (ev_cmp (P1 := IsI _) (P2 := IsI _) (ev_add (ev_size ok' rfl rfl (by walk_at "nm") rfl hx9 hbs') (ev_len ok' (by walk_at "ev") rfl (by walk_at "bz"))) (by walk_at "ev") cp_gt) (fun _ => ev_cmp (P1 := IsI _) (P2 := IsI _) (by walk_at "ev") (by walk_at "ev") cp_ne) fun _ _ => ev_cmp (P1 := IsY _) (P2 := IsY _) (by walk_at "ev") (by walk_at "ev") cp_neY) (by simp; omega)) ?_
    refine gs_ifF0 (EvT.to (evt_or (ev_cmp (P1 := Is (.bool mo')) (P2 := Is (.bool _)) (by walk_at "ev") (ev_or (by walk_at "ev") fun _ => by walk_at "ev") cp_neB) fun _ => evt_and (evt_not (ev_tb rfl (by walk_at "ev"))) fun _ => evt_or (ev_cmp (P1 := IsI _) (P2 := IsI _) (ev_mod (ev_len ok' (by walk_at "ev") rfl (by walk_at "bz")) ev_int (by decide)) ev_int cp_ne) fun _ => ev_cmp (P1 := IsY _) (P2 := IsY _) (by walk_at "ev") ev_bytes cp_eqY) ?_) ?_
    · rcases q5 with ⟨q5, q6⟩ | ⟨q5, q6, q7, q8, q9⟩
      · rw [q6, decide_eq_true q5]; simp
      · rw [q6, decide_eq_false (show ¬ k + 1 = ss.length by omega), cutM q7, decide_eq_false (size_ne_nil (by omega))]; simp
    refine gs_ifF0 (EvT.to (evt_and (evt_not (ev_tb rfl (by walk_at "ev"))) fun _ => ev_cmp (P1 := IsI _) (P2 := IsI _) (ev_add (ev_add (ev_size ok' rfl rfl (by walk_at "nm") rfl hx9 hbs') (ev_len ok' (by walk_at "ev") rfl (by walk_at "bz"))) ev_int) (by walk_at "ev") cp_le) ?_) ?_
    · rcases q5 with ⟨q5, q6⟩ | ⟨q5, q6, q7, q8, q9⟩
      · rw [decide_eq_true q5]; rfl
      · rw [decide_eq_false (p := _ ≤ _) (by omega), Bool.and_false]
    refine gs_ifF0 (EvT.old ?_) ?_
    · refine ge_cmpT (ge_told7 (ge_call ok' (by k_is) (by k_is) rfl (ga_v (by walk_at "ev") (ga_nil (told_g (ok'.le rfl rfl) hx9 fun D T k2 => .mk rfl (.head _) fun D' k' => ge_told7 (ge_call ok' (by k_is) (by k_is) rfl (ga_v (by walk_at "ev") (ga_nil (told_g (ok'.le rfl rfl) (HN9.mono (Ext.cons (Ext.cons Ext.rfl))) fun D3 T3 k3 => .mk rfl (.head _) fun D4 k4 => ge_neTold7 ok' (.tail _ (.tail _ (.head _))) (.head _) ⟨false, rfl, rfl, [_, _, _, _], rfl⟩)))))))))
    refine gs_let rfl rfl (ge_ev (P := IsI _) (ev_add (by walk_at "ev") (ev_len ok' (by walk_at "ev") rfl (by walk_at "bz"))) fun v8 h8 => ?_)
    exact gs_nil (tk_next (α := Nat × Value) (cc + pl'.size, v8) ⟨by walk_at "nm", by walk_at "nm", by walk_at "nm", by walk_at "nm", by walk_at "nm", h8.to (by simp), q4⟩)
  · intro m₁ ⟨cc, vc⟩ ⟨m1, m2, m3, m4, m5, hc, hat⟩
    refine gs_ret (ge_cmp (ge_bmethP ev_bytes (fun v0 h0 => by obtain ⟨t, rfl⟩ := h0; exact bm_join) fun v0 h0 => ga_cons (ge_comp2 rfl rfl (by decide) (by decide) rfl rfl (by decide) (ge_v (by walk_at "ev") (.mk (fun k ys => BytesAre ys ((ss.take k).map (·.pl))) (cit_list (.tail _ hln) (by rw [List.size_toArray, sizeLine_eq]; omega)) .nil ?_ ?_)))))
    · intro k v ys hk hv hys
      obtain ⟨s', hs', tt, x', n', u', e9, ht, hx'⟩ := PieceIs.of hpn (by simpa using hv)
      refine ⟨tt, _, _, n', e9, .tail _ ht, fun C oC mC n' h1 h2 _ h4 _ => EvC.mono (evc_name (P := Is _) h1 h2 h4 rfl .mk) fun v hv => ?_⟩
      rw [List.take_add_one, hs', List.map_append]
      exact hys.snoc hv
    · intro D ys hys
      obtain ⟨t, rfl⟩ := h0
      rw [List.size_toArray, List.take_of_length_le (by omega)] at hys
      have hz := cut_sum hcr
      have hflat := cut_flat hcr
      refine ga_nil (ge_joinY (.head _) hys (by omega) fun v hv => ge_v (by walk_at "ev") (Cp.ge cp_eqY hv .mk ?_))
      obtain ⟨nw, e⟩ := hfin [(D, lst ys), (r, rangeObj (vs.length : Int) t0 tl t2)]
      exact ⟨nw, n, e, by rw [hflat, decide_eq_true rfl]; exact ret⟩
end
section
open LCg
structure PcsB where
  o : Obj
  lf : Addr
  vs : List Value
  k : Nat
  new : Led
theorem pieces_g {w : World} {c : Cx} {sc : Scope} {m : Nms} {P : Value → Led → Prop} {src : Addr} {o : Obj} {f : Obj → Led} {i : Int} {v1 : Value} {pl : Array UInt8} {tp : Tok} (ok : CxOk w c sc 9 140) (S : ∀ o1 o2, Sw src o1 o2 (f o1) (f o2)) (hs : SrcIs o) (h1 : IsI i v1) (hz : pl.size ≤ 47)
    (ret : ∀ (dl : Addr) (vs : List Value) (k : Nat) (o' : Obj) (new : Led), PiecesOk w.params new i vs → vs.length ≤ 10 → SrcIs o' → P (.ref dl) ((dl, W.listOf vs.toArray k) :: (new ++ f o'))) :
    GE w c sc m (call (.ref 449) [.ref src, v1, .bytes pl tp]) (f o) P := by
  refine GE.app (GE.pp ?_)
  refine' g_enter (d := 8) (u := 137) [(Str.ofString "source", .ref src), (Str.ofString "ident", v1), (Str.ofString "payload", .bytes pl tp)] (by exact rfl) (ok.le rfl rfl) (by k_is) (by k_is) (by intro s; exact BindsTo.of_eq rfl) (by exact rfl) (by exact rfl) ?_
  intro c' ok'
  refine gs_let rfl rfl (ge_call ok' (by k_is) (by k_is) rfl (ga_v (by walk_at "ev") (ga_cons (ge_list ok' (ga_y ev_bytes fun ta => ga_y ev_bytes fun tb => ga_cons (ge_call0 ok' (by k_is) (by k_is) rfl (alert_g (ok'.le rfl rfl) fun tc => ga_cons (ge_call0 ok' (by k_is) (by k_is) rfl (route_g (ok'.le rfl rfl) fun td => ga_nil ⟨rfl, fun L1 => ga_nil (one_h (f := f) (ok'.le rfl rfl) (S o) hs (Nat.le_of_ble_eq_true rfl) (Nat.le_of_ble_eq_true rfl) fun v idx o1 _ hv ho1 => ?_)⟩)))))))))
  obtain ⟨b, tb9, rfl, hb⟩ := oneOpt hv
  clear hv
  refine gs_let rfl rfl (ge_call ok' (by k_is) (by k_is) rfl (ga_v (by walk_at "ev") (ga_v ev_bool (ga_cons (ge_ev (P := IsI 0) ev_int fun v2 h2 => ga_v (by walk_at "ev") (ga_nil (header_g (ok'.le rfl rfl) h1 h2 .mk fun x dx T7 => ?_)))))))
  refine gs_let rfl rfl (ge_list ok' (ga_nil ⟨rfl, fun lf => ?_⟩))
  obtain ⟨H0, hH0⟩ : ∃ H0, H0 = [(x, instObj 74 dx), (dx, hdrObj w.params T7 i false 0 b), (L1, W.listOf [Value.bytes #[] ta, .bytes #[] tb, .bytes #[148, 4, 0, 0] tc, .bytes #[7, 7, 4, 0, 0, 0, 0, 0] td].toArray 0)] := ⟨_, rfl⟩
  have hx : HdrIs w.params H0 x i false 0 b := ⟨dx, T7, hH0 ▸ .head _, hH0 ▸ .tail _ (.head _)⟩
  refine GS.pp (n' := (lf, W.listOf #[] 0) :: (H0 ++ f o1)) (by rw [hH0]; exact .refl _) ?_
  clear hH0
  refine gs_forR (ge_type ok' (by k_is) (by boot_fast) (by decide) rfl (ga_cons (ge_bin (ge_ev (P := IsI 1) ev_int fun va ha => ge_call ok' (by k_is) (by k_is) rfl (ga_v (by walk_at "ev") (ga_cons (ge_ev (P := IsI 2) ev_int fun vb hb => ga_nil (take_g (f := fun o' => (lf, W.listOf #[] 0) :: (H0 ++ f o')) (ok'.le rfl rfl) (fun o' => .tail (.right (S _ _))) ho1 hb (by decide) (by decide) fun z vz o2 hvz z0 z1 ho2 => ge_addI ha hvz fun v8 h8 => ga_nil ?_))))))))
  obtain ⟨kk, hkk, k1, k2⟩ := onePlus z0 z1
  obtain ⟨t8, rfl⟩ := h8.to hkk
  refine ge_range fun r t0 t2 => ?_
  refine ForR.mk (α := PcsB) (k := kk) (fun a => (r, rangeObj (kk : Int) t0 t8 t2) :: (a.lf, W.listOf a.vs.toArray a.k) :: (a.new ++ (H0 ++ f a.o))) (fun p a => p :: (r, rangeObj (kk : Int) t0 t8 t2) :: (a.lf, W.listOf a.vs.toArray a.k) :: (a.new ++ (H0 ++ f a.o)))
    (fun k m a => All7 (SrcIs a.o) (PiecesOk w.params (a.new ++ H0) i a.vs) (a.vs.length ≤ 48 * k ∧ (1 ≤ k → 0 < a.vs.length)) (m (Str.ofString "source") = some (.ref src)) (m (Str.ofString "payload") = some (.bytes pl tp)) (m (Str.ofString "whole") = some (.ref x)) (m (Str.ofString "left") = some (.ref a.lf)))
    ⟨o2, lf, [], 0, []⟩ rfl rfl (fun _ _ => .refl _) (.head _) (by omega) ⟨ho2, (fun _ h => nomatch h), ⟨Nat.le_refl _, fun h => absurd h (by decide)⟩, by walk_at "nm", by walk_at "nm", by walk_at "nm", by walk_at "nm"⟩ ?_ ?_
  · intro k v m₁ ⟨o3, lf3, vs, kv, new⟩ p hk hv ⟨j1, j2, j3, m1, m2, m3, m4⟩
    dsimp only at j1 j2 j3 m4 ⊢
    refine gu_name rfl ?_
    refine gs_let rfl rfl (ge_bin (ge_v (by walk_at "ev") (ge_call ok' (by k_is) (by k_is) rfl (ga_v (by walk_at "ev") (ga_v (by walk_at "ev") (ga_cons (ge_call ok' (by k_is) (by k_is) rfl (ga_v (by walk_at "ev") (ga_cons (ge_list ok' (ga_i ev_int fun ta => ga_i ev_int fun tb => ga_i ev_int fun tc => ga_i ev_int fun td => ga_nil ⟨rfl, fun L2 => ga_nil (one_h (f := fun o' => p :: (r, rangeObj (kk : Int) t0 t8 t2) :: (lf3, W.listOf vs.toArray kv) :: (new ++ (H0 ++ f o'))) (ok'.le rfl rfl) (fun o' => .tail (.tail (.tail (.right (.right (S _ _)))))) j1 (Nat.le_of_ble_eq_true rfl) (Nat.le_of_ble_eq_true rfl) fun v9 idx o4 _ hv9 ho4 => ?_)⟩)))))))))))
    obtain ⟨M, tM, rfl, hM⟩ := oneMtu hv9
    refine ga_nil (cut_g (im := new ++ H0) (ok'.le rfl rfl) (hx.mono fun q hq => List.mem_append_right _ hq) ?_ (by assumption) (by omega) (by decide) hM .mk fun l ws kw ss new2 nx hpc hcr hnx => ?_)
    · exact fun q hq => .tail _ (.tail _ (.tail _ (.tail _ ((List.mem_append.mp hq).elim (fun z => List.mem_append_left _ z) fun z => List.mem_append_right _ (List.mem_append_left _ z)))))
    subst hnx
    have hlen := hpc.len
    have hl2 : ss.length ≤ pl.size + 1 := by simpa only [Array.length_toList] using hcr.len
    refine ge_cat (by walk_at "mm") (List.mem_append_right _ (.head _)) (pcsZ hlen hl2 (by omega) hz) fun D => ?_
    refine GS.pp pcsP1 (gs_nil (tk_next (α := PcsB) ⟨o4, D, vs ++ ws, 0, new2 ++ (l, _) :: (L2, _) :: (lf3, _) :: new⟩ ⟨ho4, ?_, pcsL hlen hl2 hz j3 hcr.ne, by walk_at "nm", by walk_at "nm", by walk_at "nm", by walk_at "nm"⟩))
    exact (j2.mono pcsX1).app (PiecesOk.of (hpc.mono pcsX2) (hcr.good OptOk.later (by assumption) (by decide) (pcsG hz)))
  intro m₁ ⟨o3, lf3, vs, kv, new⟩ ⟨j1, j2, j3, m1, m2, m3, m4⟩
  dsimp only at j1 j2 j3 m4 ⊢
  clear m2 m3
  refine GS.drop (nw := [_]) ?_
  refine gs_join (α := PcsB) (fun a => (a.lf, W.listOf a.vs.toArray a.k) :: (a.new ++ (H0 ++ f a.o))) (fun m a => All5 (SrcIs a.o) (PiecesOk w.params (a.new ++ H0) i a.vs) (a.vs.length ≤ 200 ∧ 0 < a.vs.length) (m (Str.ofString "source") = some (.ref src)) (m (Str.ofString "left") = some (.ref a.lf))) ?_ ?_
  · refine gs_if2 (ge_cmpT (ge_call ok' (by k_is) (by k_is) rfl (ga_v (by walk_at "ev") (ga_cons (ge_ev (P := IsI 3) ev_int fun vb hb => ga_nil (take_g (f := fun o' => (lf3, W.listOf vs.toArray kv) :: (new ++ (H0 ++ f o'))) (ok'.le rfl rfl) (fun o' => .tail (.right (.right (S _ _)))) j1 hb (by decide) (by decide) fun z vz o4 hvz z0 z1 ho4 => ge_ev (P := IsI 0) ev_int fun va ha => Cp.ge cp_eq hvz ha ?_))))))
    refine ⟨_, rfl, fun _ => ?_, fun _ => ?_⟩
    · have j34 := j3.2 k1
      have j35 : vs.length ≤ 100 := by omega
      refine gs_asg rfl (ge_bmeth (by walk_at "ev") (bm_pop ok' (.head _)) (ga_cons (ge_call ok' (by k_is) (by k_is) rfl (ga_v (by walk_at "ev") (ga_cons (ge_ev (ev_lenL ok' (by walk_at "ev") rfl (.head _) (Nat.le_trans j35 (by decide))) fun vn hvn => ga_nil (take_g (f := fun o' => (lf3, W.listOf vs.toArray kv) :: (new ++ (H0 ++ f o'))) (ok'.le rfl rfl) (fun o' => .tail (.right (.right (S _ _)))) ho4 hvn (by omega) (by omega) fun q vq o5 hvq q0 q1 ho5 => ga_nil ?_)))))))
      obtain ⟨jj, v, e, hv⟩ := pcsAt q0 q1
      refine ge_pop (hvq.to e) hv .head (Nat.le_trans j35 (by decide)) ?_
      obtain ⟨sp, ⟨t, x1, n1, u, rfl, g1, H1⟩, g2, g3, g4⟩ := j2 v (List.mem_of_getElem? hv)
      refine gu_tup2 (.tail _ (List.append_assoc _ _ _ ▸ List.mem_append_left _ g1)) rfl rfl ?_
      refine gs_let rfl rfl (ge_bin (ge_v (by walk_at "ev") (ge_call ok' (by k_is) (by k_is) rfl (ga_v (by walk_at "ev") (ga_v (by walk_at "ev") (ga_cons (ge_ev (P := IsI 36) ev_int fun v6 h6 => ga_nil (cut_g (M := 36) (im := new ++ H0) (ok'.le rfl rfl) H1 (fun q hq => .tail _ (List.append_assoc _ _ _ ▸ List.mem_append_left _ hq)) g2 (pcsS g3 g4) ⟨g3, pcsS2 g4⟩ (by decide) h6 fun l ws kw ss new2 nx hpc hcr hnx => ?_))))))))
      subst hnx
      have hlen := hpc.len
      have hl2 : ss.length ≤ sp.pl.size + 1 := by simpa only [Array.length_toList] using hcr.len
      have hez : (vs.eraseIdx jj).length ≤ 100 := Nat.le_trans (List.length_eraseIdx_le ..) j35
      refine ge_cat (by walk_at "mm") (List.mem_append_right _ (.head _)) (pcsZ2 hlen hl2 g3 g4 hez) fun D => ?_
      exact GS.pp pcsP2 (gs_nil (rk_next (gs_nil (jk_next (α := PcsB) ⟨o5, D, _, 0, new2 ++ (l, _) :: (lf3, _) :: new⟩ ⟨ho5, ((j2.sub fun _ q => List.mem_of_mem_eraseIdx q).mono pcsX3).app (PiecesOk.of (hpc.mono pcsX4) (hcr.good OptOk.later g2 g3 (pcsG2 g4))), pcsL2 hlen hl2 g3 g4 hez hcr.ne, by walk_at "nm", by walk_at "nm"⟩))))
    · exact gs_nil (rk_next (gs_nil (jk_next (α := PcsB) ⟨o4, lf3, vs, kv, new⟩ ⟨ho4, j2, ⟨by dsimp only; omega, j3.2 k1⟩, by walk_at "nm", by walk_at "nm"⟩)))
  intro m₁ ⟨o3, lf3, vs, kv, new⟩ ⟨j1, j2, j3, m1, m2⟩
  dsimp only at j1 j2 j3 m2 ⊢
  refine gs_join (α := PcsB) (fun a => (a.lf, W.listOf a.vs.toArray a.k) :: (a.new ++ (H0 ++ f a.o))) (fun m a => All5 (SrcIs a.o) (PiecesOk w.params (a.new ++ H0) i a.vs) (a.vs.length ≤ 200) (m (Str.ofString "source") = some (.ref src)) (m (Str.ofString "left") = some (.ref a.lf))) ?_ ?_
  · refine gs_if2 (ge_cmpT (ge_call ok' (by k_is) (by k_is) rfl (ga_v (by walk_at "ev") (ga_cons (ge_ev (P := IsI 4) ev_int fun vb hb => ga_nil (take_g (f := fun o' => (lf3, W.listOf vs.toArray kv) :: (new ++ (H0 ++ f o'))) (ok'.le rfl rfl) (fun o' => .tail (.right (.right (S _ _)))) j1 hb (by decide) (by decide) fun z vz o4 hvz z0 z1 ho4 => ge_ev (P := IsI 0) ev_int fun va ha => Cp.ge cp_eq hvz ha ?_))))))
    refine ⟨_, rfl, fun _ => ?_, fun _ => ?_⟩
    · have j34 := j3.2
      have j35 := j3.1
      refine gs_expr rfl (ge_bmeth (by walk_at "ev") (bm_pop ok' (.head _)) (ga_cons (ge_call ok' (by k_is) (by k_is) rfl (ga_v (by walk_at "ev") (ga_cons (ge_ev (ev_lenL ok' (by walk_at "ev") rfl (.head _) (Nat.le_trans j35 (by decide))) fun vn hvn => ga_nil (take_g (f := fun o' => (lf3, W.listOf vs.toArray kv) :: (new ++ (H0 ++ f o'))) (ok'.le rfl rfl) (fun o' => .tail (.right (.right (S _ _)))) ho4 hvn (by omega) (by omega) fun q vq o5 hvq q0 q1 ho5 => ga_nil ?_)))))))
      obtain ⟨jj, v, e, hv⟩ := pcsAt q0 q1
      refine ge_pop (hvq.to e) hv .head (Nat.le_trans j35 (by decide)) ?_
      exact gs_nil (rk_next (gs_nil (jk_next (α := PcsB) ⟨o5, lf3, _, _, new⟩ ⟨ho5, j2.sub fun _ q => List.mem_of_mem_eraseIdx q, Nat.le_trans (List.length_eraseIdx_le ..) j35, by walk_at "nm", by walk_at "nm"⟩)))
    · exact gs_nil (rk_next (gs_nil (jk_next (α := PcsB) ⟨o4, lf3, vs, kv, new⟩ ⟨ho4, j2, j3.1, by walk_at "nm", by walk_at "nm"⟩)))
  intro m₁ ⟨o3, lf3, vs, kv, new⟩ ⟨j1, j2, j3, m1, m2⟩
  dsimp only at j1 j2 j3 m2 ⊢
  refine gs_let rfl rfl (ge_list ok' (ga_nil ⟨rfl, fun dl => ?_⟩))
  refine gs_while (α := Obj × (List Value × Nat) × (List Value × Nat)) (fun a => (dl, W.listOf a.2.2.1.toArray a.2.2.2) :: (lf3, W.listOf a.2.1.1.toArray a.2.1.2) :: (new ++ (H0 ++ f a.1)))
    (fun k m a => All8 (k = a.2.1.1.length) (SrcIs a.1) (PiecesOk w.params (new ++ H0) i a.2.1.1) (PiecesOk w.params (new ++ H0) i a.2.2.1) (a.2.1.1.length ≤ 200 ∧ a.2.2.1.length ≤ 9) (m (Str.ofString "source") = some (.ref src)) (m (Str.ofString "left") = some (.ref lf3)) (m (Str.ofString "drawn") = some (.ref dl)))
    vs.length (o3, (vs, kv), ([], 0)) rfl ⟨rfl, j1, j2, (fun _ h => nomatch h), ⟨j3, Nat.zero_le _⟩, by walk_at "nm", by walk_at "nm", by walk_at "nm"⟩ ?_
  intro k m₁ ⟨o4, ⟨vs, kv⟩, ⟨ds, kd⟩⟩ ⟨n1, n2, n3, n4, ⟨n5, n6⟩, m1, m2, m3⟩
  dsimp only at n1 n2 n3 n4 n5 n6 ⊢
  have hvz : vs.length ≤ 1000000 := Nat.le_trans n5 (by decide)
  have hdz : ds.length ≤ 1000000 := Nat.le_trans n6 (by decide)
  refine EvT.ge (evt_and (evt_neNil ok' (by walk_at "ev") (.tail _ (.head _))) fun _ => ev_cmp (P1 := IsI _) (P2 := IsI 9) (ev_lenL ok' (by walk_at "ev") rfl (.head _) hdz) ev_int cp_lt) ?_
  split
  · rename _ = true => hc
    simp only [Bool.and_eq_true, Bool.not_eq_true', decide_eq_false_iff_not, decide_eq_true_eq] at hc
    obtain ⟨hc1, hc2⟩ := hc
    refine gs_expr rfl (ge_bmeth (by walk_at "ev") (bm_append ok' (.head _)) (ga_cons (ge_bmeth (by walk_at "ev") (bm_pop ok' (.tail _ (.head _))) (ga_cons (ge_call ok' (by k_is) (by k_is) rfl (ga_v (by walk_at "ev") (ga_cons (ge_ev (ev_lenL ok' (by walk_at "ev") rfl (.tail _ (.head _)) hvz) fun vn hvn => ga_nil (take_g (f := fun o' => (dl, W.listOf ds.toArray kd) :: (lf3, W.listOf vs.toArray kv) :: (new ++ (H0 ++ f o'))) (ok'.le rfl rfl) (fun o' => .tail (.tail (.right (.right (S _ _))))) n2 hvn (by omega) (by omega) fun q vq o5 hvq q0 q1 ho5 => ga_nil ?_)))))))))
    obtain ⟨jj, v, e, hv⟩ := pcsAt q0 q1
    refine ge_pop (hvq.to e) hv (.tail .head) hvz (ga_nil (ge_append .head hdz ?_))
    exact gs_nil (wk_next (α := Obj × (List Value × Nat) × (List Value × Nat)) (vs.eraseIdx jj).length (o5, (_, _), (_, _)) (pcsLt n1 hv) ⟨rfl, ho5, n3.sub fun _ q => List.mem_of_mem_eraseIdx q, n4.app fun x hx => n3 x ((List.mem_singleton.mp hx) ▸ List.mem_of_getElem? hv), ⟨Nat.le_trans (List.length_eraseIdx_le ..) n5, pcs9s (pcs9 hc2)⟩, by walk_at "nm", by walk_at "nm", by walk_at "nm"⟩)
  · have fin : ∀ (o' : Obj) (ds : List Value) (kd : Nat), SrcIs o' → PiecesOk w.params (new ++ H0) i ds → ds.length ≤ 10 → ∃ n'', List.Perm ((dl, W.listOf ds.toArray kd) :: (lf3, W.listOf vs.toArray kv) :: (new ++ (H0 ++ f o'))) n'' ∧ ∃ nw n3, n'' = nw ++ n3 ∧ P (.ref dl) n3 := fun o' ds kd q1 q2 q3 =>
      ⟨_, .swap _ _ _, [(lf3, W.listOf vs.toArray kv)], (dl, W.listOf ds.toArray kd) :: ((new ++ H0) ++ f o'), by simp, ret dl ds kd o' (new ++ H0) q2 q3 q1⟩
    refine gs_if2 (ge_andT (evt_neNil ok' (by walk_at "ev") (.head _)) (fun hb => ?_) fun hb => ⟨(fun h => nomatch h), fun _ => gs_nil (rk_next (gs_ret (ge_v (by walk_at "ev") (fin _ _ _ n2 n4 (Nat.le_succ_of_le n6)))))⟩)
    refine ge_cmpT (ge_call ok' (by k_is) (by k_is) rfl (ga_v (by walk_at "ev") (ga_cons (ge_ev (P := IsI 3) ev_int fun vb hb3 => ga_nil (take_g (f := fun o' => (dl, W.listOf ds.toArray kd) :: (lf3, W.listOf vs.toArray kv) :: (new ++ (H0 ++ f o'))) (ok'.le rfl rfl) (fun o' => .tail (.tail (.right (.right (S _ _))))) n2 hb3 (by decide) (by decide) fun z vz o5 hvz z0 z1 ho5 => ge_ev (P := IsI 0) ev_int fun va ha => Cp.ge cp_eq hvz ha ?_)))))
    refine ⟨_, rfl, fun _ => ?_, fun _ => gs_nil (rk_next (gs_ret (ge_v (by walk_at "ev") (fin _ _ _ ho5 n4 (Nat.le_succ_of_le n6)))))⟩
    have hd0 : 0 < ds.length := by
      simp only [Bool.not_eq_true', decide_eq_false_iff_not] at hb
      omega
    refine gs_expr rfl (ge_bmeth (by walk_at "ev") (bm_append ok' (.head _)) (ga_cons (ge_call ok' (by k_is) (by k_is) rfl (ga_v (by walk_at "ev") (ga_v (by walk_at "ev") (ga_nil (one_h (f := fun o' => (lf3, W.listOf vs.toArray kv) :: (new ++ (H0 ++ f o'))) (ok'.le rfl rfl) (fun o' => .tail (.right (.right (S _ _)))) ho5 hd0 (by omega) fun v9 idx o6 _ hv9 ho6 => ga_nil (ge_append .head hdz ?_))))))))
    exact gs_nil (rk_next (gs_ret (ge_v (by walk_at "ev") (fin _ _ _ ho6 (n4.app fun x hx => n4 x ((List.mem_singleton.mp hx) ▸ List.mem_of_getElem? hv9)) (pcs9s (Nat.lt_succ_of_le n6))))))
end
section
theorem bent_g {w : World} {c : Cx} {sc : Scope} {m : Nms} {n im : Led} {P : Value → Led → Prop} {src tp : Addr} {o : Obj} {f : Obj → Led} {i : Int} {sp : Spec} (ok : CxOk w c sc 4 60) (S : ∀ o', Sw src o o' n (f o')) (hs : SrcIs o) (him : Ext im n) (hif : ∀ o', Ext im (f o')) (hp : PieceIs w.params im (.ref tp) i sp) (hz : sp.pl.size ≤ 1000)
    (ret : ∀ (v : Value) (sp' : Spec) (o' : Obj) (new : Led), PieceIs w.params (new ++ im) v i sp' → BentOf sp sp' → SrcIs o' → P v (new ++ f o')) : GE w c sc m (call (.ref 454) [.ref src, .ref tp]) n P := by
  obtain ⟨t, x, k, u, e, g0, hp0⟩ := id hp
  obtain rfl : tp = t := by injection e
  refine' g_enter (d := 3) (u := 57) [(Str.ofString "source", .ref src), (Str.ofString "piece", .ref tp)] (by exact rfl) (ok.le rfl rfl) (by k_is) (by k_is) (by intro s; exact BindsTo.of_eq rfl) (by exact rfl) (by exact rfl) ?_
  intro c' ok'
  refine gs_asg rfl (ge_v (by walk_at "ev") (gu_tup2 (him _ g0) rfl rfl ?_))
  refine gs_let rfl rfl (ge_call ok' (by k_is) (by k_is) rfl (ga_v (by walk_at "ev") (ga_cons (ge_ev (by walk_at "ev") fun v1 h1 => ga_nil (take_g (ok'.le rfl rfl) S hs h1 (by decide) (by decide) fun z v o' hv _ _ ho => ?_)))))
  have H := hp0.mono (hif o')
  obtain ⟨dx, T, H1, H2⟩ := id H
  refine gs_if0 (by walk_at "evt") (fun _ => ?_) fun _ => ?_
  · refine gs_ret (ge_tuple ok' (ga_v (by walk_at "ev") (ga_cons (ge_type ok' (by k_is) (by boot_fast) (by decide) rfl (ga_cons (ge_comp rfl rfl (by decide) (by decide) rfl (ge_v (by walk_at "ev") (.mk (fun k ys => ∃ l : List UInt8, l.length = k ∧ IntsAre ys (l.map fun b => ((b.toNat : Nat) : Int))) (cit_bytes (Nat.le_trans hz (by decide))) ⟨[], rfl, .nil⟩ ?_ ?_))))))))
    · rintro i v ys C oC mC n' hi ⟨o, t, h, rfl⟩ ⟨l, hl, hI⟩ hm hn hv hin
      refine fun s Q E F N q => evc_sub evc_int (evc_name hm hn hv rfl .mk) s Q E F N fun y h' tk' ⟨t, hy⟩ F N => ?_
      subst hy
      exact q _ _ _ ⟨l ++ [_], by rw [List.length_append, hl]; rfl, flip_snoc rfl hI⟩ F N
    · rintro D ys ⟨l, hl, hI⟩
      have hlz : l.length ≤ 1000000 := hl ▸ Nat.le_trans hz (by decide)
      refine ga_nil (ge_bytes (.head _) hI hlz fun t => ga_nil ⟨rfl, fun a => ?_⟩)
      exact ret _ ⟨sp.more, sp.off, sp.opt, l.toArray⟩ _ [_, _] ⟨a, x, _, _, rfl, .head _, hp0.mono (Ext.app Ext.rfl)⟩ ⟨rfl, .inl rfl, Nat.le_of_eq hl⟩ ho
  refine gs_if0 (by walk_at "evt") (fun _ => ?_) fun _ => ?_
  · refine gs_ret (ge_tuple ok' (ga_cons (ge_call ok' (by k_is) (by k_is) rfl (ga_cons (ge_ev (P := IsI i) (by walk_at "ev") fun v1 h1 => ga_v (by walk_at "ev") (ga_cons (ge_ev (P := IsI _) (by walk_at "ev") fun v2 h2 => ga_cons (ge_ev (P := IsY _) (by walk_at "ev") fun v3 h3 => ga_nil (header_g (ok'.le rfl rfl) h1 h2 h3 fun x' dx' T' => ga_v (by walk_at "ev") (ga_nil ⟨rfl, fun a => ?_⟩))))))))))
    exact ret _ ⟨!sp.more, sp.off, sp.opt, sp.pl⟩ _ [_, _, _] ⟨a, x', _, _, rfl, .head _, dx', T', .tail _ (.head _), .tail _ (.tail _ (.head _))⟩ ⟨rfl, .inl rfl, Nat.le_refl _⟩ ho
  refine gs_if0 (by walk_at "evt") (fun _ => ?_) fun _ => ?_
  · refine gs_ret (ge_tuple ok' (ga_cons (ge_call ok' (by k_is) (by k_is) rfl (ga_cons (ge_ev (P := IsI i) (by walk_at "ev") fun v1 h1 => ga_v (by walk_at "ev") (ga_cons (ge_ev (P := IsI _) (by walk_at "ev") fun v2 h2 => ga_cons (ge_ev (P := IsY _) (by walk_at "ev") fun v3 h3 => ga_nil (header_g (ok'.le rfl rfl) h1 h2 h3 fun x' dx' T' => ga_v (by walk_at "ev") (ga_nil ⟨rfl, fun a => ?_⟩))))))))))
    exact ret _ ⟨sp.more, 96 + sp.off, sp.opt, sp.pl⟩ _ [_, _, _] ⟨a, x', _, _, rfl, .head _, dx', T', .tail _ (.head _), .tail _ (.tail _ (.head _))⟩ ⟨rfl, .inr (.inl (Int.add_comm _ _)), Nat.le_refl _⟩ ho
  refine gs_if0 (by walk_at "evt") (fun _ => ?_) fun _ => ?_
  · refine gs_ret (ge_tuple ok' (ga_v (by walk_at "ev") (ga_cons (ge_ev (P := IsY _) (by walk_at "ev") fun v3 h3 => ga_nil ⟨rfl, fun a => ?_⟩))))
    obtain ⟨t3, rfl⟩ := h3
    exact ret _ ⟨sp.more, sp.off, sp.opt, KBy.picked sp.pl none (some (-1))⟩ _ [_] ⟨a, x, _, _, rfl, .head _, hp0.mono (Ext.app Ext.rfl)⟩ ⟨rfl, .inl rfl, pick_less⟩ ho
  refine gs_if0 (by walk_at "evt") (fun _ => ?_) fun _ => ?_
  · refine gs_ret (ge_tuple ok' (ga_cons (ge_call ok' (by k_is) (by k_is) rfl (ga_cons (ge_ev (P := IsI i) (by walk_at "ev") fun v1 h1 => ga_v (by walk_at "ev") (ga_cons (ge_ev (P := IsI _) (by walk_at "ev") fun v2 h2 => ga_cons (ge_ev (P := IsY _) (by walk_at "ev") fun v3 h3 => ga_nil (header_g (ok'.le rfl rfl) h1 h2 h3 fun x' dx' T' => ga_v (by walk_at "ev") (ga_nil ⟨rfl, fun a => ?_⟩))))))))))
    exact ret _ ⟨false, sp.off + 8, sp.opt, sp.pl⟩ _ [_, _, _] ⟨a, x', _, _, rfl, .head _, dx', T', .tail _ (.head _), .tail _ (.tail _ (.head _))⟩ ⟨rfl, .inr (.inr rfl), Nat.le_refl _⟩ ho
  exact gs_ret (ge_v (by walk_at "ev") (ret _ sp _ [] hp ⟨rfl, .inl rfl, Nat.le_refl _⟩ ho))
end
section
section
variable {w : World} {c : Cx} {sc cs : Scope} {m : Nms} {n im G : Led} {d u : Nat} {P : Value → Led → Prop} {K : Value → Led → Prop} {rx rdx wd C : Addr} {RT : Nat → Tok} {tl mo : Int} {most ep : Nat} {l : List WE} {v v1 v2 v3 : Value} {e e1 e2 : PySem.Expr} {pos : Pos} {cl : List (Str × Addr)} {nm : Str}
theorem cit_wd (hm : (wd, wdObj PR w (wsOf l) ep) ∈ G) (lo : (wd == sysModules) = false) (hz : l.length ≤ 1000) : CIt w c sc (.ref wd) G l.length (fun i v => ∃ q, l[i]? = some q ∧ v = .ref q.ka) :=
  ⟨fun J F N h0 hG hc hk turn done => comp_dict (es := ((wsOf l).map (entryOfKey (TK PR w))).toArray) (ep := ep) J rfl F N lo (fun i ys nx h => hG i ys nx h _ hm) h0 (by rw [ws_size]; omega) hc hk (fun i e he => by
    obtain ⟨q, hq, rfl⟩ := ws_at he
    exact turn i _ (List.getElem?_eq_some_iff.mp hq).1 ⟨q, hq, rfl⟩) (by rw [ws_size]; exact done)⟩
theorem evc_attr {Q : Value → Prop} {a CC dx : Addr} {ob : Obj} (ok : CxOk w c sc d u) (h : EvC w c sc m n cs cl C e (Is (.ref a))) (h1 : (a, instObj CC dx) ∈ n) (h2 : (dx, ob) ∈ n) (hc : AttrIn w CC nm) (ho : ObjAt nm ob v) (hp : Q v)
    (he : ∀ env, eval (.Attribute e nm pos) env = (do
      let o ← eval e env
      standAt pos.atName
      let r ← holding [o] (getAttr o nm true)
      letTemporaryGo e o r
      pure r) := by intro env; with_unfolding_all rfl) : EvC w c sc m n cs cl C (.Attribute e nm pos) Q := fun s Q E F N r => by
  obtain ⟨B, X, T, -, -, -⟩ := ok
  obtain ⟨attr, c1, c2, c3, c4⟩ := hc
  obtain ⟨es, k', rfl, hl', hh⟩ := ho
  refine Attribute_any_ (h s _ E F N fun v' h' tk' p F N => ?_) (he _)
  obtain rfl : v' = _ := p
  exact get_own F X (InstAt.of_news N.N h1 h2) c1 c2 c3 c4 hl' hh (r _ _ _ hp F N)
theorem ev_attrG {Q : Value → Prop} {a CC dx : Addr} {ob : Obj} (ok : CxOk w c sc d u) (h : EvP w c sc m n e (Is (.ref a))) (h1 : (a, instObj CC dx) ∈ n) (h2 : (dx, ob) ∈ n) (hc : AttrIn w CC nm) (ho : ObjAt nm ob v) (hp : Q v)
    (he : ∀ env, eval (.Attribute e nm pos) env = (do
      let o ← eval e env
      standAt pos.atName
      let r ← holding [o] (getAttr o nm true)
      letTemporaryGo e o r
      pure r) := by intro env; with_unfolding_all rfl) : EvP w c sc m n (.Attribute e nm pos) Q := fun s Q E F N r => by
  obtain ⟨B, X, T, -, -, -⟩ := ok
  obtain ⟨attr, c1, c2, c3, c4⟩ := hc
  obtain ⟨es, k', rfl, hl', hh⟩ := ho
  refine Attribute_any_ (h s _ E F N fun v' h' tk' p F N => ?_) (he _)
  obtain rfl : v' = _ := p
  exact get_own F X (InstAt.of_news N.N h1 h2) c1 c2 c3 c4 hl' hh (r _ _ _ hp F N)
theorem evc_itemW {Q : Value → Prop} {ka : Addr} {T : Nat → Tok} {kn : Nat} {i : Int} {ex : WE} (ok : CxOk w c sc d (u + 1)) (a : EvC w c sc m n cs cl C e1 (Is (.ref wd))) (b : EvC w c sc m n cs cl C e2 (Is (.ref ka))) (hm : (wd, wdObj PR w (wsOf l) ep) ∈ n) (R : ReIn w.params im l) (him : Ext im n) (hk : (ka, keyObj T kn i) ∈ n) (he : ex ∈ l) (hi : ex.i = i) (hp : Q (.ref ex.x))
    (hs : ∀ l k, subscripted e2 false (.ref l) (.ref k) = operate [.ref l, .ref k] (getItem (.ref l) (.ref k)) := by intro _ _; with_unfolding_all rfl) : EvC w c sc m n cs cl C (.Subscript e1 e2 pos) Q := fun s Q E F N r =>
  Subscript_ (a s _ E F N fun v1 h1 tk1 p1 F N => b _ _ E F N fun v2 h2 tk2 p2 F N => by
    obtain rfl : v1 = _ := p1
    obtain rfl : v2 = _ := p2
    exact kba_turn (value' := PySem.Expr.Name (PySem.Str.ofString "_") ⟨0, 0, 0, 0⟩) (fun _ => rfl) (wd_item N.N hm hk (atKey_ws R.nd he hi) R.keysIn him R.nodup ok.u1 (fun tk => r _ _ _ hp F N) (hs _ _) fun _ => rfl))
theorem re_stored_g (ok : CxOk w c sc 2 60) (lo : (wd == sysModules) = false) (R : ReIn w.params im l) (him : Ext im n) (hr1 : (rx, instObj 260 rdx) ∈ im) (hr2 : (rdx, reObj w.params RT tl mo most wd) ∈ im)
    (hw1 : (wd, wdObj PR w (wsOf l) ep) ∈ n) (hf : Ext (feet w.params most l) n) (hz : l.length ≤ 1000) (ret : ∀ v, IsI (totalOf (l.map (·.d)) : Nat) v → P v n) : GE w c sc m (call (.ref 229) [.ref rx]) n P := by
  refine GE.fin ?_
  refine' g_enterC (d := 1) (u := 57) [(Str.ofString "self", .ref rx)] (x := Str.ofString "self") (v := some (.ref rx)) (by exact rfl) (fun _ => rfl) rfl (ok.le rfl rfl) (by k_is) (by k_is) (by intro s; exact BindsTo.of_eq rfl) (by exact rfl) (by exact rfl) ?_
  intro c' a o ok' hcl ho
  have hcc : c'.cl.lookup (Str.ofString "self") = some a := by rw [hcl]; rfl
  refine gs_ret (ge_builtin ok' (by k_is) (by boot_fast) (by decide) rfl (ga_cons (ge_comp (cl := [(Str.ofString "self", a)]) (clos_1 (by with_unfolding_all rfl) hcl) rfl (by decide) (by decide) rfl (ge_v (ev_attrG ok' (ev_cellL hcc (.head _) ho rfl .mk) (.tail _ (him _ hr1)) (.tail _ (him _ hr2)) i260_waiting re_waiting .mk) (.mk (fun k ys => IntsAre ys ((l.take k).map fun e => (e.d.size : Int))) (cit_wd (.tail _ hw1) lo hz) .nil ?_ ?_)))))
  · rintro i v ys C oC mC n' hi ⟨q, hq, rfl⟩ hys q1 q2 q3 q4
    have hqm := List.mem_of_getElem? hq
    obtain ⟨T, nk, hkm⟩ := R.keys q hqm
    have hi9 : Ext im n' := fun p hp => q4 _ (.tail _ (him p hp))
    refine (evc_attr ok' (evc_itemW (ok'.le (d' := 0) (u' := 1) rfl rfl) (evc_attr ok' (evc_cellL (by exact rfl) (q4 _ (.head _)) ho (by exact rfl) (by exact rfl) (by decide) .mk) (hi9 _ hr1) (hi9 _ hr2) i260_waiting re_waiting .mk) (evc_name q1 q2 q3 rfl .mk) (q4 _ (.tail _ hw1)) R hi9 (hi9 _ hkm) hqm rfl .mk) (hi9 _ (R.dgs q hqm).inst) (q4 _ (.tail _ (hf _ (feet_dd hqm)))) i177_size dg_size (Q := IsI (q.d.size : Int)) .mk).mono fun y ⟨t, e⟩ => ?_
    subst e
    rw [map_at hq]
    exact hys.append (.cons _ _ .nil)
  · intro D ys hys
    rw [List.take_length] at hys
    exact ga_nil (ge_sum (.head _) hys fun v hv => ⟨[_, _], _, .refl _, ret v (hv.to (sum_cast l))⟩)
theorem ge_lenW (hm : (wd, wdObj PR w (wsOf l) ep) ∈ n) (lo : (wd == sysModules) = false) (hz : l.length ≤ 1000) (kk : ∀ v, IsI (l.length : Int) v → K v n) : GE w c sc m (call (.builtin "len") [.ref wd]) n K := fun s Q E F N r =>
  d_len N.N hm lo (by rw [ws_size]; omega) fun t tk => r _ _ _ _ (kk _ ⟨t, by rw [ws_size]⟩) F N
theorem re_count_g (ok : CxOk w c sc 2 60) (lo : (wd == sysModules) = false) (him : Ext im n) (hr1 : (rx, instObj 260 rdx) ∈ im) (hr2 : (rdx, reObj w.params RT tl mo most wd) ∈ im) (hw1 : (wd, wdObj PR w (wsOf l) ep) ∈ n) (hz : l.length ≤ 1000)
    (ret : ∀ v, IsI (l.length : Int) v → P v n) : GE w c sc m (call (.ref 236) [.ref rx]) n P := by
  refine' g_enter (d := 1) (u := 57) [(Str.ofString "self", .ref rx)] (by exact rfl) (ok.le rfl rfl) (by k_is) (by k_is) (by intro s; exact BindsTo.of_eq rfl) (by exact rfl) (by exact rfl) ?_
  intro c' ok'
  exact gs_ret (ge_builtin ok' (by k_is) (by boot_fast) (by decide) rfl (ga_v (ev_attr ok' (by walk_at "nm") rfl (him _ hr1) (him _ hr2) i260_waiting re_waiting .mk) (ga_nil (ge_lenW hw1 lo hz ret))))
theorem ge_sub0 {pk : Nat} {zp : Pos} (h : GE w c sc m (eval e1 (c.en sc)) n (fun v1 n' => ∃ D vs k x, v1 = .ref D ∧ (D, W.listOf (x :: vs).toArray k) ∈ n' ∧ K x n')) : GE w c sc m (eval (.Subscript e1 (.Constant (.int 0) pk zp) pos) (c.en sc)) n K := fun s Q E F N r =>
  Subscript_ (h s _ E F N fun v1 n' h1 tk1 p1 F N => wpAny_Constant_int (by
    obtain ⟨D, vs, k, x, rfl, hm, kk⟩ := p1
    exact item_made N.N hm (by decide) (by decide) rfl (r _ _ _ _ kk F N) (by with_unfolding_all rfl)))
theorem m260_stored : MethIn w 260 (Str.ofString "stored") 229 := ⟨by k_is, by k_is, by k_is, by k_is⟩
theorem rn_stored {P : Params} {T : Nat → Tok} {most : Int} : ObjNo (Str.ofString "stored") (reObj P T tl mo most wd) := ⟨_, _, rfl, rfl⟩
theorem i260_octets : AttrIn w 260 (Str.ofString "most_octets") := ⟨_, by k_is, by k_is, by k_is, by k_is⟩
theorem re_octets {P : Params} {T : Nat → Tok} {most : Int} : ObjAt (Str.ofString "most_octets") (reObj P T tl mo most wd) (.int mo (T 5)) := ⟨_, _, rfl, rfl, rfl⟩
theorem re_room_g {mo : Nat} {X : Led} (ok : CxOk w c sc 4 90) (lo : (wd == sysModules) = false) (him : Ext im X) (hr1 : (rx, instObj 260 rdx) ∈ im) (hr2 : (rdx, reObj w.params RT tl mo most wd) ∈ im) (R : ReIn w.params im l) (hz : l.length ≤ 1000)
    (ret : ∀ ep', P .none ((wd, wdObj PR w (wsOf (roomOf mo l)) ep') :: (feet w.params most (roomOf mo l) ++ X))) : GE w c sc m (call (.ref 243) [.ref rx]) ((wd, wdObj PR w (wsOf l) ep) :: (feet w.params most l ++ X)) P := by
  refine' g_enter (d := 3) (u := 87) [(Str.ofString "self", .ref rx)] (by exact rfl) (ok.le rfl rfl) (by k_is) (by k_is) (by intro s; exact BindsTo.of_eq rfl) (by exact rfl) (by exact rfl) ?_
  intro c' ok'
  refine gs_while (α := List WE × Nat) (fun a => (wd, wdObj PR w (wsOf a.1) a.2) :: (feet w.params most a.1 ++ X)) (fun k m a => All4 (m (Str.ofString "self") = some (.ref rx)) (k = a.1.length) (a.1.Sublist l) (roomOf mo a.1 = roomOf mo l)) l.length (l, ep) rfl ⟨by walk_at "nm", rfl, List.Sublist.refl _, rfl⟩ ?_
  rintro k m₁ ⟨l', ep'⟩ ⟨m1, rfl, hsub, hroom⟩
  dsimp only at hsub hroom ⊢
  have R' := R.sub hsub
  have hz' : l'.length ≤ 1000 := Nat.le_trans hsub.length_le hz
  have hi : ∀ p : Addr × Obj, Ext im (p :: (feet w.params most l' ++ X)) := fun p q hq => .tail _ (List.mem_append_right _ (him q hq))
  refine EvT.ge (b := decide (mo < totalOf (l'.map (·.d)))) (.to (ev_cmp (P1 := IsI ((totalOf (l'.map (·.d)) : Nat) : Int)) (P2 := IsI (mo : Int)) (.of (ge_meth0 ok' (by walk_at "ev") (hi _ _ hr1) (hi _ _ hr2) m260_stored rn_stored (re_stored_g (ok'.le rfl rfl) lo R' (hi _) hr1 hr2 (.head _) (fun p hp => .tail _ (List.mem_append_left _ hp)) hz' fun v hv => ⟨hv, rfl⟩))) (ev_attr ok' (by walk_at "nm") rfl (hi _ _ hr1) (hi _ _ hr2) i260_octets re_octets .mk) cp_gt) (decide_eq_decide.mpr Int.ofNat_lt)) ?_
  cases hb : decide (mo < totalOf (l'.map (·.d))) with
  | false =>
    rw [if_neg (by decide)]
    have hge := of_decide_eq_false hb
    have hl : roomOf mo l' = l' := by
      cases l' with
      | nil => rfl
      | cons e r => exact if_neg hge
    rw [← hroom, hl] at ret
    exact gs_nil (ret ep')
  | true =>
    rw [if_pos rfl]
    have hlt := of_decide_eq_true hb
    cases l' with
    | nil => exact absurd hlt (by simp [totalOf])
    | cons e r =>
      obtain ⟨T, nk, hkm⟩ := R'.keys e (.head _)
      refine gs_expr rfl (ge_bmeth (ev_attr ok' (by walk_at "nm") rfl (hi _ _ hr1) (hi _ _ hr2) i260_waiting re_waiting .mk) (bm_popW (.head _)) (ga_cons (ge_sub0 (ge_type ok' (by k_is) (by boot_fast) (by decide) rfl (ga_v (ev_attr ok' (by walk_at "nm") rfl (hi _ _ hr1) (hi _ _ hr2) i260_waiting re_waiting .mk) (ga_nil (ge_listW (.head _) lo hz' fun D cc => ⟨D, _, cc, _, rfl, .head _, ga_nil (ge_popW (f := fun o' => (D, W.listOf _ cc) :: (wd, o') :: (feet w.params most (e :: r) ++ X)) (ok'.le (d' := 1) (u' := 1) rfl rfl) (fun o' => .tail .head) R' (fun o' p hp => .tail _ (hi _ p hp)) (fun o' => .tail _ (hi _ _ hkm)) (.head _) rfl hz' fun ep3 => ?_)⟩)))))))
      rw [dropK_ws, filter_head R'.nd]
      refine GS.drop (nw := [_]) ?_
      rw [roomOf, if_pos hlt] at hroom
      have hp : ((wd, wdObj PR w (wsOf r) ep3) :: (feet w.params most (e :: r) ++ X)).Perm (foot w.params most e.c e.d ++ ((wd, wdObj PR w (wsOf r) ep3) :: (feet w.params most r ++ X))) := by
        rw [show feet w.params most (e :: r) = foot w.params most e.c e.d ++ feet w.params most r from rfl, List.append_assoc]
        exact List.perm_middle.symm
      exact GS.pp hp (GS.drop (gs_nil (wk_next (α := List WE × Nat) r.length (r, ep3) (Nat.lt_succ_self _) ⟨by walk_at "nm", rfl, List.Sublist.trans (List.sublist_cons_self _ _) hsub, hroom⟩)))
theorem re_make_g {tl mo most : Int} (ok : CxOk w c sc 2 40) (h1 : IsI tl v1) (h2 : IsI mo v2) (h3 : IsI most v3)
    (ret : ∀ (rx rdx wd : Addr) (RT : Nat → Tok) (ep : Nat), (wd == sysModules) = false → P (.ref rx) ((wd, wdObj PR w [] ep) :: (rx, instObj 260 rdx) :: (rdx, reObj w.params RT tl mo most wd) :: n)) : GE w c sc m (call (.ref 260) [v1, v2, v3]) n P := by
  obtain ⟨t1, rfl⟩ := h1
  obtain ⟨t2, rfl⟩ := h2
  obtain ⟨t3, rfl⟩ := h3
  refine' g_make (d := 0) (u := 20) (fun x => [(Str.ofString "self", .ref x), (Str.ofString "time_limit", .int tl t1), (Str.ofString "most_octets", .int mo t2), (Str.ofString "most", .int most t3)]) (fun _ => by exact rfl) ok (by k_is) (by k_is) (by k_is) (by k_is) (by k_is) (by intro x s X; first | exact BindsTo.of_eq rfl | exact binds_K X rfl (by k_is) rfl rfl rfl) (fun _ => by exact rfl) (by exact rfl) ?_
  intro c' x dx ok'
  refine gs_init ok' rfl rfl (by walk_at "nm") ⟨by k_is, by k_is, by k_is, by k_is⟩ (by walk_at "ev") rfl (fun _ => rfl) rfl fun k0 => ?_
  refine gs_init ok' rfl rfl (by walk_at "nm") ⟨by k_is, by k_is, by k_is, by k_is⟩ (by walk_at "ev") rfl (fun _ => rfl) rfl fun k1 => ?_
  refine gs_init ok' rfl rfl (by walk_at "nm") ⟨by k_is, by k_is, by k_is, by k_is⟩ (by walk_at "ev") rfl (fun _ => rfl) rfl fun k2 => ?_
  refine gs_setN ok' rfl rfl (ge_dict0 ok' fun dd oo lo hd => ?_)
  obtain ⟨ep, rfl⟩ := empty_dict hd
  refine .mk (by walk_at "nm") (.tail _ (.head _)) (f := fun o => (dd, dObj #[] ep) :: (x, instObj 260 dx) :: (dx, o) :: n) (fun _ => .tail (.tail .head)) ⟨by k_is, by k_is, by k_is, by k_is⟩ rfl (fun _ => rfl) rfl fun k3 => ?_
  exact gs_nil ⟨rfl, ret x dx dd (fun k => [k0, k1, k2, k3, t1, t2, t3].getD k 0) ep lo⟩
end
end
section
section
variable {w : World} {P : Params} {T : Nat → Tok} {most : Int} {lr lr' : Addr}
theorem m123_fill : MethIn w 123 (Str.ofString "fill") 99 := ⟨by k_is, by k_is, by k_is, by k_is⟩
theorem hn_fill : ObjNo (Str.ofString "fill") (hoObj P T most lr) := ⟨_, _, rfl, rfl⟩
end
theorem end_at_g {w : World} {c : Cx} {sc : Scope} {m : Nms} {n im : Led} {P : Value → Led → Prop} {hx hdx lr : Addr} {Tk : Nat → Tok} {most : Nat} {vs : List Value} {k : Nat} {rows : List (Nat × Nat)} {z : Nat} {v1 : Value} (g : Addr → Led)
    (ok : CxOk w c sc 3 40) (him : Ext im n) (hx1 : (hx, instObj 123 hdx) ∈ n) (ho : (hdx, hoObj w.params Tk most lr) ∈ n) (S : ∀ lr', Sw hdx (hoObj w.params Tk most lr) (hoObj w.params Tk most lr') n (g lr')) (hl1 : (lr, W.listOf vs.toArray k) ∈ n) (hr1 : AllAre (PairIs im) vs rows) (hlen : rows.length ≤ 1000)
    (h1 : IsI (z : Int) v1)
    (ret : ∀ (lr' : Addr) (vr : List Value) (nr : Nat) (new nx : Led), (lr', W.listOf vr.toArray nr) ∈ new → AllAre (PairIs (new ++ im)) vr (fillR z most rows) → nx = new ++ g lr' → P .none nx) :
    GE w c sc m (call (.ref 106) [.ref hx, v1]) n P := by
  refine' g_enter (d := 2) (u := 37) [(Str.ofString "self", .ref hx), (Str.ofString "end", v1)] (by exact rfl) (ok.le rfl rfl) (by k_is) (by k_is) (by intro s; exact BindsTo.of_eq rfl) (by exact rfl) (by exact rfl) ?_
  intro c' ok'
  refine gs_expr rfl (ge_meth ok' (by walk_at "ev") hx1 ho m123_fill hn_fill (ga_v (by walk_at "ev") (ga_v (by walk_at "ev") (ga_nil ?_))))
  refine fill_g (e := most) g (ok'.le rfl rfl) him hx1 ho S hl1 hr1 hlen h1 IsI.mk fun lf lr' vf vr nf nr new nx q1 q2 q3 q4 e => ?_
  exact gs_nil (ret lr' vr nr new nx q2 q4 e)
end
section
theorem mid3 {p a b c : Addr × Obj} {pre post : Led} (h : p ∈ pre ++ post) : p ∈ pre ++ (a :: b :: c :: post) := (List.mem_append.mp h).elim (List.mem_append_left _) fun h => List.mem_append_right _ (.tail _ (.tail _ (.tail _ h)))
structure PutB where
  nw : Led
  T : Nat → Tok
  ev : Value
  ah : Nat
  lr : Addr
  nr : Nat
  vr : List Value
  rows : List (Nat × Nat)
  en : Option Nat
structure PutJ (im : Led) (most : Nat) (d : DgS) (h : HdS) (pl : Array UInt8) (vp : List Value) (ps : List (Nat × Array UInt8)) (sz : Nat) (b : PutB) : Prop where
  lr : (b.lr, W.listOf b.vr.toArray b.nr) ∈ b.nw ++ im
  rows : AllAre (PairIs (b.nw ++ im)) b.vr b.rows
  parts : AllAre (PartIs (b.nw ++ im)) vp ps
  en : OptIs b.ev b.en
  put : dgPut most d h pl = some ⟨d.began, b.rows, ps, b.en, b.ah, firstOf d.first h, sz⟩
theorem dg_put_g {w : World} {c : Cx} {sc : Scope} {m : Nms} {pre post im : Led} {P : Value → Led → Prop} {i : Int} {x fx : Addr} {cc : DgC} {d : DgS} {h : HdS} {pl : Array UInt8} {most : Nat} {tp : Tok}
    (ok : CxOk w c sc 5 80) (him : Ext im (pre ++ post)) (D : DgIn w.params im i x cc d) (H : HdrIs w.params im fx i h.more (h.off : Int) h.opt) (hpl : pl.size ≤ 1000) (hlen : d.rows.length ≤ 400) (hlen2 : d.parts.length ≤ 400)
    (retF : dgPut most d h pl = none → P (.bool false) (pre ++ (foot w.params most cc d ++ post)))
    (retT : ∀ (c' : DgC) (d' : DgS) (new nx : Led), dgPut most d h pl = some d' → c'.dd = cc.dd → c'.hdx = cc.hdx → c'.lp = cc.lp → DgIn w.params (new ++ im) i x c' d' → nx = new ++ (pre ++ (foot w.params most c' d' ++ post)) → P (.bool true) nx) :
    GE w c sc m (call (.ref 155) [.ref x, .ref fx, .bytes pl tp]) (pre ++ (foot w.params most cc d ++ post)) P := by
  obtain ⟨dd, hdx, lp, hx, lr, TT, Tk, np, nr, vp, vr, ev, fv⟩ := cc
  obtain ⟨began, rows, parts, en, ahead, first, size⟩ := d
  obtain ⟨mo, off, opt⟩ := h
  obtain ⟨hin, hho, hlr, hro, hpa, hen, hfi⟩ := D
  have H₀ := H
  obtain ⟨dfx, Tf, H1, H2⟩ := H
  simp only [foot, List.cons_append, List.nil_append] at retF retT ⊢
  dsimp only at hin hho hlr hro hpa hen hfi H1 H2 hlen hlen2
  have mm1 : ∀ o1 o2 o3, (x, instObj 177 dd) ∈ pre ++ ((dd, o1) :: (hdx, o2) :: (lp, o3) :: post) := fun _ _ _ => mid3 (him _ hin)
  have mm2 : ∀ o1 o2 o3, (hx, instObj 123 hdx) ∈ pre ++ ((dd, o1) :: (hdx, o2) :: (lp, o3) :: post) := fun _ _ _ => mid3 (him _ hho)
  have mm3 : ∀ o1 o2 o3, (lr, W.listOf vr.toArray nr) ∈ pre ++ ((dd, o1) :: (hdx, o2) :: (lp, o3) :: post) := fun _ _ _ => mid3 (him _ hlr)
  have mm4 : ∀ o1 o2 o3, (fx, instObj 74 dfx) ∈ pre ++ ((dd, o1) :: (hdx, o2) :: (lp, o3) :: post) := fun _ _ _ => mid3 (him _ H1)
  have mm5 : ∀ o1 o2 o3, (dfx, hdrObj w.params Tf i mo (off : Int) opt) ∈ pre ++ ((dd, o1) :: (hdx, o2) :: (lp, o3) :: post) := fun _ _ _ => mid3 (him _ H2)
  have hii : ∀ o1 o2 o3, Ext im (pre ++ ((dd, o1) :: (hdx, o2) :: (lp, o3) :: post)) := fun _ _ _ p hp => mid3 (him p hp)
  refine' g_enter (d := 4) (u := 77) [(Str.ofString "self", .ref x), (Str.ofString "header", .ref fx), (Str.ofString "payload", .bytes pl tp)] (by exact rfl) (ok.le rfl rfl) (by k_is) (by k_is) (by intro s; exact BindsTo.of_eq rfl) (by exact rfl) (by exact rfl) ?_
  intro c' ok'
  refine gs_let rfl rfl (ge_v (by walk_at "ev") ?_)
  refine gs_let rfl rfl (ge_ev (by walk_at "ev") fun ve he => ?_)
  have he : IsI ((off + pl.size : Nat) : Int) ve := he.to (by omega)
  refine gs_ifb0 (ev_tb rfl (EvP.of (ge_meth ok' (by walk_at "ev") (by walk_at "mm") (by walk_at "mm") m177_against dn_against (ga_v (by walk_at "ev") (ga_v (by walk_at "ev") (ga_v (by walk_at "ev") (ga_nil (against_g (im := im) (ok'.le rfl rfl) (by walk_at "mm") (by walk_at "mm") (mm2 _ _ _) (by walk_at "mm") (mm3 _ _ _) hro (hii _ _ _) hen IsI.mk he ⟨.mk, rfl⟩)))))))) (fun hag => ?_) fun hag => ?_
  · exact gs_ret (ge_v ev_bool (retF (by unfold dgPut; rw [if_pos hag])))
  have hF9 : ∀ q ∈ fillF off (off + pl.size) rows, off ≤ q.1 ∧ q.1 < q.2 ∧ q.2 ≤ off + pl.size := fun q hq => fillF_mem hq
  have hF8 := fillF_len off (off + pl.size) rows
  refine gs_for (ge_meth ok' (by walk_at "ev") (mm2 _ _ _) (by walk_at "mm") m123_fill hn_fill (ga_v (by walk_at "ev") (ga_v (by walk_at "ev") (ga_nil (fill_g (im := im) (fun lr' => pre ++ ((dd, _) :: (hdx, hoObj w.params Tk most lr') :: (lp, _) :: post)) (ok'.le rfl rfl) (hii _ _ _) (mm2 _ _ _) (by walk_at "mm") (fun _ => Sw.right (Sw.tail Sw.head)) (mm3 _ _ _) hro (Nat.le_trans hlen (by decide)) IsI.mk he fun lf lr' vf vr' nf nr' new1 nx r2 r3 r4 r5 enx => ?_)))))
  subst enx
  generalize hFs : fillF off (off + pl.size) rows = Fs at r4 hF9 hF8
  have hvf := r4.len
  refine' ForL.mk (α := Led × (List Value × Nat) × (Nat → Tok) × Nat) (l := lf) (its := vf.toArray) (nn := nf)
    (fun a => a.1 ++ (new1 ++ (pre ++ ((dd, dgObj w.params a.2.2.1 began most hx lp ev ahead fv (a.2.2.2 : Int)) :: (hdx, hoObj w.params Tk most lr') :: (lp, W.listOf a.2.1.1.toArray a.2.1.2) :: post))))
    (fun p a => a.1 ++ (p :: (new1 ++ (pre ++ ((dd, dgObj w.params a.2.2.1 began most hx lp ev ahead fv (a.2.2.2 : Int)) :: (hdx, hoObj w.params Tk most lr') :: (lp, W.listOf a.2.1.1.toArray a.2.1.2) :: post)))))
    (fun k m a => All7 (m (Str.ofString "self") = some (.ref x)) (m (Str.ofString "header") = some (.ref fx)) (m (Str.ofString "payload") = some (.bytes pl tp)) (m (Str.ofString "begin") = some (.int (off : Int) (Tf 16))) (m (Str.ofString "end") = some ve)
      (a.2.2.2 = size + sumLen (Fs.take k)) (AllAre (PartIs (a.1 ++ (new1 ++ im))) a.2.1.1 (parts ++ (Fs.take k).map (partOf off pl))))
    ([], (vp, np), TT, size) rfl rfl (fun _ _ => List.perm_middle) (fun _ => List.mem_append_right _ (List.mem_append_left _ r2)) ⟨by walk_at "nm", by walk_at "nm", by walk_at "nm", by walk_at "nm", by walk_at "nm", rfl, by simpa using hpa.imp (PartIs.back _)⟩ ?_ ?_
  · intro k v m₁ ⟨new, ⟨vp', np'⟩, TT', sz⟩ p hv ⟨m1, m2, m3, m4, m5, hsz, hP⟩
    dsimp only at hsz hP ⊢
    obtain ⟨⟨lo, hi⟩, hx2, t, nt, u, u', rfl, ht⟩ := r4.at (by simpa using hv)
    obtain ⟨g1, g2, g3⟩ := hF9 _ (List.mem_of_getElem? hx2)
    dsimp only at g1 g2 g3 ht
    have ht' : (t, tupOf #[.int (lo : Int) u, .int (hi : Int) u'] nt) ∈ new1 ++ (pre ++ ((dd, dgObj w.params TT' began most hx lp ev ahead fv (sz : Int)) :: (hdx, hoObj w.params Tk most lr') :: (lp, W.listOf vp'.toArray np') :: post)) := (List.mem_append.mp ht).elim (List.mem_append_left _) fun h => List.mem_append_right _ (hii _ _ _ _ h)
    have hlP := hP.len
    have hlF : (Fs.take k).length ≤ Fs.length := by rw [List.length_take]; exact Nat.min_le_right _ _
    rw [List.length_append, List.length_map] at hlP
    have hzP : vp'.length ≤ 1000000 := by omega
    refine gu_tup2 (List.mem_append_right _ (.tail _ ht')) rfl rfl ?_
    refine gs_expr rfl (ge_bmeth (by walk_at "ev") (bm_append ok' (by walk_at "mm")) (ga_cons (ge_tuple ok' (ga_v (by walk_at "ev") (ga_cons (ge_ev (by walk_at "ev") fun vs hs => ga_nil ⟨rfl, fun t1 => ga_nil (ge_append (by walk_at "sw") hzP ?_)⟩))))))
    obtain ⟨us, rfl⟩ := hs
    refine gs_seta ok' rfl rfl (ge_ev (by walk_at "ev") fun vz hz => ?_)
    have es : ((sz : Int) + (hi : Int) - (lo : Int)) = ((size + sumLen (Fs.take (k + 1)) : Nat) : Int) := by rw [sumLen_at hx2]; omega
    obtain ⟨T9, hT⟩ := dgs_size (hz.to es)
    refine .mk (by walk_at "nm") (by walk_at "mm") (by walk_at "mm") s177_size hT (by walk_at "sw") ?_
    have ec : KBy.picked pl (some ((lo : Int) - (off : Int))) (some ((hi : Int) - (off : Int))) = ((pl.toList.drop (lo - off)).take (hi - lo)).toArray := by
      rw [← pick_mid, show ((lo : Int) - (off : Int)) = ((lo - off : Nat) : Int) by omega, show ((hi : Int) - (off : Int)) = ((lo - off + (hi - lo) : Nat) : Int) by omega]
    refine gs_nil (tk_next ((t1, _) :: new, (_, _), T9, _) ⟨by walk_at "nm", by walk_at "nm", by walk_at "nm", by walk_at "nm", by walk_at "nm", rfl, ?_⟩)
    show AllAre (PartIs ((t1, _) :: (new ++ (new1 ++ im)))) _ _
    rw [map_at hx2, ← List.append_assoc parts]
    exact (hP.imp (PartIs.back [_])).snoc (PartIs.at (.head _) rfl ec)
  · intro m₁ ⟨new, ⟨vp', np'⟩, TT', sz⟩ ⟨m1, m2, m3, m4, m5, hsz, hP⟩
    have hs9 : vf.toArray.size = Fs.length := by rw [List.size_toArray, hvf]
    rw [hs9, List.take_length] at hP hsz
    subst hsz
    have e0 : new ++ (new1 ++ im) = (new ++ new1) ++ im := (List.append_assoc _ _ _).symm
    rw [e0] at hP
    have r3' : (lr', W.listOf vr'.toArray nr') ∈ (new ++ new1) ++ im := List.mem_append_left _ (List.mem_append_right _ r3)
    have r5' : AllAre (PairIs ((new ++ new1) ++ im)) vr' (fillR off (off + pl.size) rows) := e0 ▸ r5.imp (PairIs.back _)
    dsimp only
    rw [← List.append_assoc new new1]
    generalize new ++ new1 = nw at hP r3' r5' ⊢
    have hE : ∀ o1 o2 o3 {p : Addr × Obj}, p ∈ nw ++ im → p ∈ nw ++ (pre ++ ((dd, o1) :: (hdx, o2) :: (lp, o3) :: post)) := fun o1 o2 o3 p hp => (List.mem_append.mp hp).elim (List.mem_append_left _) fun h => List.mem_append_right _ (hii o1 o2 o3 p h)
    have hF7 : ∀ xs : List (Nat × Nat), rows.length ≤ 400 → (fillR off (off + pl.size) rows).length ≤ 1000 := fun _ h => Nat.le_trans (fillR_len _ _ _) (Nat.le_trans (Nat.mul_le_mul_left 2 h) (by decide))
    refine gs_join (α := PutB) (fun b => b.nw ++ (pre ++ ((dd, dgObj w.params b.T began most hx lp b.ev (b.ah : Int) fv ((size + sumLen Fs : Nat) : Int)) :: (hdx, hoObj w.params Tk most b.lr) :: (lp, W.listOf vp'.toArray np') :: post)))
      (fun m b => All4 (m (Str.ofString "self") = some (.ref x)) (m (Str.ofString "header") = some (.ref fx)) (m (Str.ofString "begin") = some (.int (off : Int) (Tf 16))) (PutJ im most ⟨began, rows, parts, en, ahead, first, size⟩ ⟨mo, off, opt⟩ pl vp' (parts ++ Fs.map (partOf off pl)) (size + sumLen Fs) b)) ?_ ?_
    · refine gs_ifb (ev_tb rfl (by walk_at "ev")) (fun hm => ?_) fun hm => ?_
      · refine gs_seta ok' rfl rfl (ge_ev (by walk_at "ev") fun vz hz => ?_)
        obtain ⟨T9, hT⟩ := dgs_ahead (hz.to (maxIf ahead (off + pl.size)))
        refine .mk (by walk_at "nm") (by walk_at "mm") (by walk_at "mm") s177_ahead hT (by walk_at "sw") ?_
        exact gs_nil (rk_next (gs_nil (jk_next (⟨nw, T9, ev, _, lr', nr', vr', _, en⟩ : PutB) ⟨by walk_at "nm", by walk_at "nm", by walk_at "nm", ⟨r3', r5', hP, hen, hFs ▸ dgPut_more hag hm⟩⟩)))
      · cases en with
        | none =>
          have hen : ev = .none := hen
          subst hen
          refine gs_ifT (ev_cmp (by walk_at "ev") ev_none cp_is_nn) ?_
          refine gs_seta ok' rfl rfl (ge_v (by walk_at "ev") (.mk (by walk_at "nm") (by walk_at "mm") (by walk_at "mm") s177_end dgs_end (by walk_at "sw") ?_))
          refine gs_expr rfl (ge_meth ok' (by walk_at "ev") (by walk_at "mm") (by walk_at "mm") m123_end_at hn_end_at (ga_v (by walk_at "ev") (ga_nil ?_)))
          refine end_at_g (z := off + pl.size) (im := nw ++ im) (fun l9 => nw ++ (pre ++ ((dd, _) :: (hdx, hoObj w.params Tk most l9) :: (lp, _) :: post))) (ok'.le rfl rfl) (fun _ hp => hE _ _ _ hp) (List.mem_append_right _ (mm2 _ _ _)) (by walk_at "mm") (fun _ => Sw.right (Sw.right (Sw.tail Sw.head))) (hE _ _ _ r3') r5' (hF7 [] hlen) he fun lr9 vr9 nr9 new9 nx s2 s3 e9 => ?_
          subst e9
          rw [← List.append_assoc new9 nw]
          exact gs_nil (rk_next (gs_nil (rk_next (gs_nil (jk_next (⟨new9 ++ nw, TT', ve, ahead, lr9, nr9, vr9, _, some (off + pl.size)⟩ : PutB) ⟨by walk_at "nm", by walk_at "nm", by walk_at "nm", ⟨List.mem_append_left _ (List.mem_append_left _ s2), by rw [List.append_assoc]; exact s3, by rw [List.append_assoc]; exact hP.imp (PartIs.back _), he, hFs ▸ dgPut_end hag hm⟩⟩)))))
        | some z =>
          obtain ⟨tz, rfl⟩ := hen
          refine gs_ifF0 (ev_cmp (by walk_at "ev") ev_none cp_is_in) ?_
          refine gs_nil (rk_next (gs_nil (jk_next (⟨nw, TT', _, ahead, lr', nr', vr', _, some z⟩ : PutB) ⟨by walk_at "nm", by walk_at "nm", by walk_at "nm", ⟨r3', r5', hP, ⟨_, rfl⟩, hFs ▸ dgPut_last hag hm⟩⟩)))
    · intro m₂ b ⟨q1, q2, q3, J⟩
      have fin : ∀ (fo : Option HdS) (fv' : Value), firstOf first ⟨mo, off, opt⟩ = fo → FirstIs w.params im i fv' fo → P (.bool true) (b.nw ++ (pre ++ ((dd, dgObj w.params b.T began most hx lp b.ev (b.ah : Int) fv' ((size + sumLen Fs : Nat) : Int)) :: (hdx, hoObj w.params Tk most b.lr) :: (lp, W.listOf vp'.toArray np') :: post))) := fun fo fv' e9 h9 =>
        retT ⟨dd, hdx, lp, hx, b.lr, b.T, Tk, np', b.nr, vp', b.vr, b.ev, fv'⟩ ⟨began, b.rows, _, b.en, b.ah, fo, _⟩ b.nw _ (e9 ▸ J.put) rfl rfl rfl ⟨List.mem_append_right _ hin, List.mem_append_right _ hho, J.lr, J.rows, J.parts, J.en, h9.mono (Ext.app Ext.rfl)⟩ rfl
      cases first with
      | none =>
        have hfi : fv = .none := hfi
        subst hfi
        refine gs_ifb0 (evt_and (ev_cmp (P1 := IsI _) (P2 := IsI _) (by walk_at "ev") ev_int cp_eq) fun _ => ev_cmp (by walk_at "ev") ev_none cp_is_nn) (fun hb => ?_) fun hb => ?_
        · have h0 : (off : Int) = 0 := by simpa using hb
          refine gs_seta ok' rfl rfl (ge_v (by walk_at "ev") (.mk (by walk_at "nm") (by walk_at "mm") (by walk_at "mm") s177_first dgs_first (by walk_at "sw") ?_))
          exact gs_nil (rk_next (gs_ret (ge_v ev_bool (fin _ _ (firstOf_0 h0) ⟨fx, rfl, H₀⟩))))
        · have h0 : (off : Int) ≠ 0 := by simpa using hb
          exact gs_ret (ge_v ev_bool (fin _ _ (firstOf_n h0) rfl))
      | some fs =>
        obtain ⟨ffx, rfl, hffx⟩ := hfi
        refine gs_ifb0 (evt_and (ev_cmp (P1 := IsI _) (P2 := IsI _) (by walk_at "ev") ev_int cp_eq) fun _ => ev_cmp (by walk_at "ev") ev_none cp_is_rn) (fun hb => ?_) fun hb => ?_
        · simp at hb
        · exact gs_ret (ge_v ev_bool (fin _ _ firstOf_s ⟨ffx, rfl, hffx⟩))
end
section
theorem bneDecG (z e : Nat) : ((z : Int) != (e : Int)) = decide (z ≠ e) := by
  by_cases h : z = e
  · subst h; simp
  · have : ¬ (z : Int) = (e : Int) := by omega
    simp [h, this]
theorem filt_atG {kv : List (Int × Value)} {k : Nat} {p : Int} {v : Value} {f : Int → Bool} (h : kv[k]? = some (p, v)) : ((kv.take (k + 1)).map (·.1)).filter f = ((kv.take k).map (·.1)).filter f ++ (if f p = true then [p] else []) := by
  rw [List.take_add_one, h, List.map_append, List.filter_append]
  congr 1
  by_cases hp : f p = true <;> simp [hp]
theorem clos_one {cs : Scope} {env : Env} {x : Str} {a : Addr} (h : closureFor cs { env with cells := [(x, a)] } = pure [(x, a)]) (e : env.cells = [(x, a)]) : closureFor cs env = pure [(x, a)] := by
  obtain ⟨⟩ := env
  dsimp only at e
  subst e
  exact h
theorem den1 {most ahead e : Nat} {places : List (Nat × UInt8)} {en : Option Nat} {mo : Bool} (h : (most : Int) < (e : Int)) : twDenies most places en ahead e mo = true := if_pos (Int.ofNat_lt.mp h)
theorem den2 {most ahead e : Nat} {places : List (Nat × UInt8)} (h : ¬ (most : Int) < (e : Int)) : twDenies most places none ahead e true = false := (if_neg fun q => h (Int.ofNat_lt.mpr q)).trans (if_pos rfl)
theorem den3 {most ahead e z : Nat} {places : List (Nat × UInt8)} (h : ¬ (most : Int) < (e : Int)) : twDenies most places (some z) ahead e true = decide ((z : Int) ≤ (e : Int)) := ((if_neg fun q => h (Int.ofNat_lt.mpr q)).trans (if_pos rfl)).trans (decide_eq_decide.mpr Int.ofNat_le.symm)
theorem den4 {most ahead e z : Nat} {places : List (Nat × UInt8)} (h : ¬ (most : Int) < (e : Int)) : twDenies most places (some z) ahead e false = ((z : Int) != (e : Int)) := ((if_neg fun q => h (Int.ofNat_lt.mpr q)).trans (if_neg (by decide))).trans (bneDecG z e).symm
theorem den5 {most ahead e : Nat} {places : List (Nat × UInt8)} {kv : List (Int × Value)} {ys : List Value} (h : ¬ (most : Int) < (e : Int)) (hk : PlAre kv places) (hy : IntsAre ys (((kv.take kv.length).map (·.1)).filter fun p => decide ((e : Int) ≤ p))) :
    twDenies most places none ahead e false = (!decide (ys.length = 0) || decide ((e : Int) ≤ (ahead : Int))) := by
  rw [List.take_length] at hy
  refine ((if_neg fun q => h (Int.ofNat_lt.mpr q)).trans (if_neg (by decide))).trans ?_
  show (!decide ((List.filter _ (places.map fun p => (p.1 : Int))).length = 0) || _) = _
  rw [← hk.keys, ← hy.length]
  congr 1
  exact decide_eq_decide.mpr Int.ofNat_le.symm
theorem tw_denies_g {w : World} {c : Cx} {sc : Scope} {m : Nms} {n : Led} {P : Value → Led → Prop} {sx pd : Addr} {nn : Nat} {tb ta : Tok} {began : Int} {ev fv : Value} {po : Obj} {kv : List (Int × Value)} {places : List (Nat × UInt8)} {en : Option Nat} {ahead e most : Nat} {mo : Bool} {v1 v2 v3 : Value}
    (ok : CxOk w c sc 3 60) (h1 : (sx, stL began tb pd ev ahead ta fv nn) ∈ n) (h2 : (pd, po) ∈ n) (lo : (pd == sysModules) = false) (hd : po.IsDictOf (intKind PR w) kv) (hp : PlAre kv places) (hen : OptIs ev en) (hz : places.length ≤ 1000) (he : IsI (e : Int) v2) (hm : IsI (most : Int) v3)
    (ret : P (.bool (twDenies most places en ahead e mo)) n) : GE w c sc m (call (.ref 459) [.ref sx, v1, v2, .bool mo, v3]) n P := by
  obtain ⟨t2, rfl⟩ := he
  obtain ⟨t3, rfl⟩ := hm
  refine GE.app ?_
  refine' g_enterC (d := 2) (u := 57) [(Str.ofString "state", .ref sx), (Str.ofString "begin", v1), (Str.ofString "end", .int (e : Int) t2), (Str.ofString "more", .bool mo), (Str.ofString "most", .int (most : Int) t3)] (x := Str.ofString "end") (v := some (.int (e : Int) t2)) (by exact rfl) (fun _ => rfl) rfl (ok.le rfl rfl) (by k_is) (by k_is) (by intro s; exact BindsTo.of_eq rfl) (by exact rfl) (by exact rfl) ?_
  intro c' a o ok' hcl ho
  have hcc : c'.cl.lookup (Str.ofString "end") = some a := by rw [hcl]; rfl
  refine gs_if0 (p := (most : Int) < (e : Int)) (by walk_at "evt") (fun q => gs_ret (ge_v ev_bool ?_)) fun q => ?_
  · exact ⟨[_], _, rfl, boolP (den1 q) ret⟩
  have hS : ∀ (m : Nms) (n' : Led), n' = (a, o) :: n → (sx, stL began tb pd ev ahead ta fv nn) ∈ n' := fun _ _ e => e ▸ .tail _ h1
  have g1 := hS m _ rfl
  refine gs_ifb0 (b := mo) (by walk_at "evt") (fun qm => ?_) fun qm => ?_
  · subst qm
    cases en with
    | none =>
      obtain rfl : ev = .none := hen
      refine gs_ret (ge_v (ev_and (b := false) (q := false) (ev_cmpV (ev_itemK (by walk_at "ev") g1 rfl (P := Is .none) .mk) ev_none cp_isn_nn) (fun h => nomatch h)) ?_)
      exact ⟨[_], _, rfl, boolP (den2 q) ret⟩
    | some z =>
      obtain ⟨t, rfl⟩ : ∃ t, ev = .int (z : Int) t := hen
      refine gs_ret (ge_v (ev_and (ev_cmpV (ev_itemK (by walk_at "ev") g1 rfl (P := Is (.int (z : Int) t)) .mk) ev_none cp_isn_in) fun _ => ev_cmpV (P1 := IsI (e : Int)) (by walk_at "ev") (ev_itemK (by walk_at "ev") g1 rfl (P := IsI (z : Int)) .mk) cp_ge) ?_)
      exact ⟨[_], _, rfl, boolP (den3 q) ret⟩
  subst qm
  cases en with
  | some z =>
    obtain ⟨t, rfl⟩ : ∃ t, ev = .int (z : Int) t := hen
    refine gs_ifT (ev_cmp (ev_itemK (by walk_at "ev") g1 rfl (P := Is (.int (z : Int) t)) .mk) ev_none cp_isn_in) (gs_ret (ge_v (ev_cmpV (ev_itemK (by walk_at "ev") g1 rfl (P := IsI (z : Int)) .mk) (P2 := IsI (e : Int)) (by walk_at "ev") cp_ne) ?_))
    exact ⟨[_], _, rfl, boolP (den4 q) ret⟩
  | none =>
    obtain rfl : ev = .none := hen
    refine gs_ifF0 (ev_cmp (ev_itemK (by walk_at "ev") g1 rfl (P := Is .none) .mk) ev_none cp_isn_nn) (gs_ret ?_)
    refine ge_orV (ge_cmp (ge_compT (cl := [(Str.ofString "end", a)]) (clos_one (by with_unfolding_all rfl) hcl) rfl (by decide) (by decide) rfl (ge_v (ev_itemK (by walk_at "ev") g1 rfl (P := Is (.ref pd)) .mk) (CompKT.mk (fun k ys => IntsAre ys (((kv.take k).map (·.1)).filter fun p => decide ((e : Int) ≤ p))) (cit_idict (.tail _ h2) lo hd (by rw [hp.len]; exact Nat.le_trans hz (by decide))) .nil (fun i v ys hi hv hR => ?_) fun D ys hR => ?_))))
    · obtain ⟨p, u, hkv, hpv⟩ := hv
      refine ⟨decide ((e : Int) ≤ p), fun hf => ?_, fun C oC mC n' g1 g2 g3 g4 => ⟨evc_cmpT (evc_name g1 g2 g3 rfl hpv) (evc_cellL (P := IsI (e : Int)) (by exact rfl) (g4 _ (.head _)) ho (by exact rfl) (by exact rfl) (by decide) .mk) cp_ge, fun ht => evc_name g1 g2 g3 rfl ?_⟩⟩
      · rw [filt_atG hkv, if_neg (by rw [hf]; decide), List.append_nil]
        exact hR
      · obtain ⟨tp, rfl⟩ := hpv
        rw [filt_atG hkv, if_pos ht]
        exact hR.append (.cons _ _ .nil)
    · refine ge_list ok' (ga_nil ⟨rfl, fun D2 => ge_neNil ok' (.tail _ (.head _)) (.head _) ⟨_, rfl, fun hb => ?_, fun hb => ge_v (ev_cmpV (ev_itemK (by walk_at "ev") (.tail _ (.tail _ g1)) rfl (P := IsI (ahead : Int)) .mk) (P2 := IsI (e : Int)) (by walk_at "ev") cp_ge) ?_⟩⟩)
      · exact ⟨[_, _, _], _, rfl, boolP ((den5 q hp hR).trans (by rw [hb]; rfl)) ret⟩
      · exact ⟨[_, _, _], _, rfl, boolP ((den5 q hp hR).trans (by rw [hb]; rfl)) ret⟩
end
section
theorem badB {mo : Bool} {pl : Array UInt8} : (mo && (decide (pl = #[]) || ((pl.size : Int).fmod 8 != 0))) = (mo && (decide (pl.size = 0) || decide (pl.size % 8 ≠ 0))) := by
  have h1 : decide (pl = #[]) = decide (pl.size = 0) := decide_eq_decide.mpr Array.size_eq_zero_iff.symm
  have h2 : ((pl.size : Int).fmod 8 != 0) = decide (pl.size % 8 ≠ 0) := by
    rw [show (pl.size : Int).fmod 8 = ((pl.size % 8 : Nat) : Int) from (Int.fmod_eq_emod_of_nonneg _ (by decide)).trans rfl]
    exact bneDecG _ 0
  rw [h1, h2]
theorem offB {o : Nat} {mo : Bool} (h : ((((o : Nat) : Int) == 0) && !mo) = true) : o = 0 ∧ mo = false := by simpa using h
theorem offB' {o : Nat} {mo : Bool} (h : ((((o : Nat) : Int) == 0) && !mo) = false) : ¬ (o = 0 ∧ mo = false) := by
  intro ⟨h1, h2⟩
  subst h1 h2
  exact absurd h (by decide)
end
section
structure ReB where
  e : WE
  pre : List WE
  post : List WE
  ep : Nat
  new : Led
structure ReBJ (w : World) (im : Led) (most : Nat) (l : List WE) (i now : Int) (ka : Addr) (T : Nat → Tok) (kn : Nat) (b : ReB) : Prop where
  hi : b.e.i = i
  abs : (b.pre ++ b.e :: b.post).map absE = entryOf most (l.map absE) i now
  R : ReIn w.params (b.new ++ im) (b.pre ++ b.e :: b.post)
  hk : (ka, keyObj T kn i) ∈ b.new
  len : (b.pre ++ b.e :: b.post).length ≤ 1000
  rows : b.e.d.rows.length ≤ 400 ∧ b.e.d.parts.length ≤ 400
theorem atW_some {l : List WE} {i : Int} (h : decide (atKey (wsOf l) (keyL i) = none) = false) : ∃ e ∈ l, e.i = i := Classical.byContradiction fun hx => of_decide_eq_false h (atKey_no fun e he q => hx ⟨e, he, q⟩)
section
variable {w : World} {im : Led} {most ep : Nat} {l : List WE} {i now : Int} {ka : Addr} {T : Nat → Tok} {kn : Nat}
theorem ReBJ.old {pre post : List WE} {e : WE} (hpp : l = pre ++ e :: post) (he : e ∈ l) (hei : e.i = i) (R : ReIn w.params im l) (hz : l.length ≤ 900) (hdd : ∀ e ∈ l, e.d.rows.length ≤ 400 ∧ e.d.parts.length ≤ 400) : ReBJ w im most l i now ka T kn ⟨e, pre, post, ep, [(ka, keyObj T kn i)]⟩ :=
  ⟨hei, by rw [← hpp]; exact (entry_yes ⟨e, he, hei⟩).symm, by rw [← hpp]; exact R.mono (Ext.app Ext.rfl), .head _, by rw [← hpp]; exact Nat.le_trans hz (by decide), hdd e he⟩
theorem ReBJ.new {dd hx hdx lr tp lp x : Addr} {TT Tk : Nat → Tok} {n1 k np : Nat} {u u' : Tok} (hat : atKey (wsOf l) (keyL i) = none) (R : ReIn w.params im l) (hz : l.length ≤ 900) :
    ReBJ w im most l i now ka T kn ⟨⟨i, ka, x, ⟨dd, hdx, lp, hx, lr, TT, Tk, np, n1, [], [.ref tp], .none, .none⟩, newDg most now⟩, l, [], ep, [(lr, W.listOf [Value.ref tp].toArray n1), (tp, tupOf #[.int (0 : Nat) u, .int (most : Int) u'] k), (hx, instObj 123 hdx), (x, instObj 177 dd), (ka, keyObj T kn i)]⟩ := by
  have hex : ¬ ∃ q ∈ l, q.i = i := fun ⟨q, hq, e⟩ => by
    have := atKey_ws R.nd hq e
    rw [hat] at this
    cases this
  exact ⟨rfl, by rw [List.map_append]; exact (entry_no hex).symm, (R.mono (Ext.app Ext.rfl)).snoc hex ⟨T, kn, .tail _ (.tail _ (.tail _ (.tail _ (.head _))))⟩ (newDg_in (.tail _ (.tail _ (.tail _ (.head _)))) (.tail _ (.tail _ (.head _))) (.head _) (.tail _ (.head _))), .tail _ (.tail _ (.tail _ (.tail _ (.head _)))), by rw [List.length_append]; exact Nat.le_trans (Nat.add_le_add_right hz 1) (by decide), ⟨Nat.le_of_ble_eq_true rfl, Nat.zero_le _⟩⟩
theorem wsSnoc {e : WE} : wsOf l ++ [(keyL e.i, e.ka, .ref e.x)] = wsOf (l ++ [e]) := by unfold wsOf; rw [List.map_append]; rfl
theorem permRe {k W : Addr × Obj} {A B D X : Led} : (k :: W :: ((A ++ (D ++ B)) ++ X)).Perm (W :: (D ++ ((A ++ B) ++ (k :: X)))) := by
  refine (List.Perm.swap W k _).trans (.cons _ ?_)
  have h1 : (A ++ (D ++ B)).Perm (D ++ (A ++ B)) := List.perm_append_comm_assoc A D B
  refine (List.perm_append_comm_assoc [k] (A ++ (D ++ B)) X).trans ((h1.append_right _).trans (.of_eq (List.append_assoc ..)))
theorem permReN {d1 d2 d3 n1 n2 n3 n4 n5 W : Addr × Obj} {X : Led} : (d1 :: d2 :: d3 :: n1 :: n2 :: n3 :: n4 :: n5 :: W :: (feet w.params most l ++ X)).Perm (W :: ([d1, d2, d3] ++ (feet w.params most (l ++ []) ++ ([n1, n2, n3, n4, n5] ++ X)))) := by
  rw [List.append_nil]
  exact (List.perm_middle (l₁ := [d1, d2, d3, n1, n2, n3, n4, n5])).trans (.cons _ (List.Perm.append_left [d1, d2, d3] (List.perm_append_comm_assoc [n1, n2, n3, n4, n5] _ X)))
theorem permWh {a b c W : Addr × Obj} {N D F N' X : Led} : (a :: b :: c :: (N ++ (W :: (D ++ (F ++ (N' ++ X)))))).Perm (D ++ (W :: (F ++ ((a :: b :: c :: (N ++ N')) ++ X)))) := by
  refine (List.perm_middle (l₁ := a :: b :: c :: N)).trans (List.Perm.trans (.cons _ ?_) List.perm_middle.symm)
  refine (List.perm_append_comm_assoc (a :: b :: c :: N) D _).trans (List.Perm.append_left D ((List.perm_append_comm_assoc (a :: b :: c :: N) F _).trans (List.Perm.append_left F (.of_eq ?_))))
  simp
theorem permRm {W : Addr × Obj} {N A D B N' X : Led} : (N ++ (W :: (D ++ ((A ++ B) ++ (N' ++ X))))).Perm (W :: ((A ++ (D ++ B)) ++ ((N ++ N') ++ X))) := by
  refine List.perm_middle.trans (.cons _ ?_)
  have h1 : (D ++ (A ++ B)).Perm (A ++ (D ++ B)) := (List.perm_append_comm_assoc A D B).symm
  rw [← List.append_assoc D]
  refine (List.perm_append_comm_assoc N (D ++ (A ++ B)) _).trans ((h1.append_right _).trans (.of_eq ?_))
  simp
end
theorem whFirst {d : DgS} (h : (d.en.isSome && (d.first.isSome && decide (d.rows.length = 0))) = true) : ∃ f, d.first = some f := by
  cases hq : d.first with
  | none => rw [hq] at h; simp at h
  | some f => exact ⟨f, rfl⟩
theorem re_put_g {w : World} {c : Cx} {sc : Scope} {m : Nms} {P : Value → Led → Prop} {rest im : Led} {rx rdx wd fx : Addr} {RT : Nat → Tok} {tl now i : Int} {mo most ep : Nat} {l : List WE} {h : HdS} {pl : Array UInt8} {tp tn : Tok}
    (ok : CxOk w c sc 7 140) (lo : (wd == sysModules) = false) (him : Ext im rest) (hr1 : (rx, instObj 260 rdx) ∈ im) (hr2 : (rdx, reObj w.params RT tl mo most wd) ∈ im)
    (R : ReIn w.params im l) (hz : l.length ≤ 900) (H : HdrIs w.params im fx i h.more (h.off : Int) h.opt) (hpl : pl.size ≤ 1000) (hdd : ∀ e ∈ l, e.d.rows.length ≤ 400 ∧ e.d.parts.length ≤ 400)
    (hdo : ∀ d d', (i, d) ∈ entryOf most (l.map absE) i now → dgPut most d h pl = some d' → d'.parts.length < 64 ∧ (d'.parts.map (·.1)).Nodup ∧ (d'.parts.map fun x => x.2.size).sum ≤ 1000)
    (ret : ∀ (v : Value) (l' : List WE) (out : Option Spec) (ep' : Nat) (new : Led), RePutR most mo (l.map absE) i h pl now (l'.map absE) out → ReIn w.params (new ++ im) l' → OutIs w.params (new ++ im) i v out → P v ((wd, wdObj PR w (wsOf l') ep') :: (feet w.params most l' ++ (new ++ rest)))) :
    GE w c sc m (call (.ref 224) [.ref rx, .ref fx, .bytes pl tp, .int now tn]) ((wd, wdObj PR w (wsOf l) ep) :: (feet w.params most l ++ rest)) P := by
  refine GE.fin ?_
  obtain ⟨dfx, Tf, H1, H2⟩ := H.mono him
  have g1 := him _ hr1
  have g2 := him _ hr2
  refine' g_enter (d := 6) (u := 137) [(Str.ofString "self", .ref rx), (Str.ofString "header", .ref fx), (Str.ofString "payload", .bytes pl tp), (Str.ofString "now", .int now tn)] (by exact rfl) (ok.le rfl rfl) (by k_is) (by k_is) (by intro s; exact BindsTo.of_eq rfl) (by exact rfl) (by exact rfl) ?_
  intro c' ok'
  refine GS.abs fun R0 hR0 => ?_
  refine gs_ifb0 (by walk_at "evt") (fun hq => ?_) fun hq => ?_
  · obtain ⟨ho, hm⟩ := offB hq
    refine gs_ret (ge_tuple ok' (ga_v (by walk_at "ev") (ga_v (by walk_at "ev") (ga_nil ⟨rfl, fun D => hR0 _ _ _ ?_⟩))))
    exact ⟨[], _, (List.Perm.swap _ _ _).trans (.cons _ (List.perm_append_comm_assoc [_] _ rest)), ret (.ref D) l (some ⟨h.more, (h.off : Int), h.opt, pl⟩) ep [_] (by unfold RePutR; rw [if_pos ⟨ho, hm⟩]; exact ⟨rfl, rfl⟩) (R.mono (Ext.app Ext.rfl)) ⟨D, fx, _, _, rfl, .head _, H.mono (Ext.app Ext.rfl)⟩⟩
  have hno := offB' hq
  refine gs_if20 (ge_test rfl (ge_call ok' (by k_is) (by k_is) rfl (ga_v (by walk_at "ev") (ga_v (by walk_at "ev") (ga_nil (bad_g (ok'.le rfl rfl) ⟨dfx, Tf, by walk_at "mm", by walk_at "mm"⟩ hpl ⟨_, rfl, fun hb => gs_ret (ge_v ev_none (hR0 _ _ _ ?_)), fun hbad => ?_⟩))))))
  · exact ⟨[], _, .refl _, ret .none l none ep [] (by unfold RePutR; rw [if_neg hno, if_pos hb]; exact ⟨rfl, rfl⟩) R rfl⟩
  refine gs_let rfl rfl (ge_call ok' (by k_is) (by k_is) rfl (ga_v (by walk_at "ev") (ga_nil (key_g (ok'.le rfl rfl) ⟨dfx, Tf, by walk_at "mm", by walk_at "mm"⟩ fun ka T kn => ?_))))
  refine gs_joinN (α := ReB) (fun b => (wd, wdObj PR w (wsOf (b.pre ++ b.e :: b.post)) b.ep) :: (foot w.params most b.e.c b.e.d ++ (feet w.params most (b.pre ++ b.post) ++ (b.new ++ rest)))) (ReBJ w im most l i now ka T kn) ?_ ?_
  · refine GS.abs fun R1 hR1 => ?_
    refine gs_if20 (ge_cmpT (ge_v (by walk_at "ev") (ge_v (by walk_at "ev") (cp_notinW (ok'.le (d' := 1) (u' := 1) rfl rfl) lo (by walk_at "mm") R (fun p hp => .tail _ (.tail _ (List.mem_append_right _ (him p hp)))) (by walk_at "mm") ⟨_, rfl, fun hb => ?_, fun hb => ?_⟩))))
    · refine gs_asg rfl (ge_call ok' (by k_is) (by k_is) rfl (ga_cons (ge_ev (P := IsI now) (by walk_at "ev") fun v1 h1 => ga_cons (ge_ev (P := IsI (most : Int)) (by walk_at "ev") fun v2 h2 => ga_nil (dg_make_g (ok'.le rfl rfl) h1 h2 fun x dd hx hdx lr tq lp TT Tk n1 k np u u' => ?_)))))
      refine gu_setW (f := fun o' => _ :: _ :: _ :: _ :: _ :: _ :: _ :: _ :: (wd, o') :: (feet w.params most l ++ rest)) (ok'.le (d' := 1) (u' := 1) rfl rfl) (by walk_at "ev") (by walk_at "ev") (fun o' => .tail (.tail (.tail (.tail (.tail (.tail (.tail (.tail .head)))))))) R (fun o' p hp => .tail _ (.tail _ (.tail _ (.tail _ (.tail _ (.tail _ (.tail _ (.tail _ (.tail _ (List.mem_append_right _ (him p hp))))))))))) (fun o' => .tail _ (.tail _ (.tail _ (.tail _ (.tail _ (.tail _ (.tail _ (.head _)))))))) (of_decide_eq_true hb) (Nat.le_trans hz (by decide)) fun ep' => ?_
      rw [wsSnoc (e := ⟨i, ka, x, ⟨dd, hdx, lp, hx, lr, TT, Tk, np, n1, [], [.ref tq], .none, .none⟩, newDg most now⟩)]
      exact GS.pp permReN (gs_nil (rk_next (gs_nil (hR1 _ _ _ (jn_next (α := ReB) ⟨⟨i, ka, x, ⟨dd, hdx, lp, hx, lr, TT, Tk, np, n1, [], [.ref tq], .none, .none⟩, newDg most now⟩, l, [], ep', [(lr, W.listOf [Value.ref tq].toArray n1), (tq, tupOf #[.int (0 : Nat) u, .int (most : Int) u'] k), (hx, instObj 123 hdx), (x, instObj 177 dd), (ka, keyObj T kn i)]⟩ (ReBJ.new (of_decide_eq_true hb) R hz))))))
    · obtain ⟨e, he, hei⟩ := atW_some hb
      obtain ⟨pre, post, hpp⟩ := List.append_of_mem he
      exact GS.pp (by rw [hpp, feet_mid, feet_app]; exact permRe) (gs_nil (hR1 _ _ _ (jn_next (α := ReB) ⟨e, pre, post, ep, [(ka, keyObj T kn i)]⟩ (ReBJ.old hpp he hei R hz hdd))))
  clear hdd
  intro ⟨⟨ei, ek, x, cc, d⟩, pre, post, ep1, new⟩ ⟨hei, habs, R1, hkm, hz1, hd1⟩
  dsimp only at hei habs R1 hkm hz1 hd1 ⊢
  subst hei
  have D1 := R1.dgs _ (List.mem_append_right _ (.head _))
  dsimp only at D1
  have hX : Ext (new ++ im) (feet w.params most (pre ++ post) ++ (new ++ rest)) := Ext.app (Ext.app2 him)
  have hin := hX _ D1.inst
  have gk := hX _ (List.mem_append_left _ hkm)
  have hY : ∀ (a : Addr × Obj) (f : Led), Ext (new ++ im) (a :: (f ++ (feet w.params most (pre ++ post) ++ (new ++ rest)))) := fun a f p hp => .tail _ (List.mem_append_right _ (hX p hp))
  refine gs_let rfl rfl (ge_v (ev_itemW (ok'.le (d' := 1) (u' := 1) rfl rfl) (by walk_at "ev") (by walk_at "ev") (.head _) R1 (hY _ _) (by walk_at "mm") (List.mem_append_right _ (.head _)) rfl .mk) ?_)
  refine gs_if20 (ge_notT (ge_test rfl (ge_meth ok' (by walk_at "ev") (by walk_at "mm") (.tail _ (.head _)) m177_put dn_put (ga_v (by walk_at "ev") (ga_v (by walk_at "ev") (ga_nil (dg_put_g (pre := [(wd, wdObj PR w (wsOf (pre ++ ⟨ei, ek, x, cc, d⟩ :: post)) ep1)]) (im := new ++ im) (ok'.le rfl rfl) (Ext.cons hX) D1 (H.mono (Ext.app Ext.rfl)) hpl hd1.1 hd1.2 (fun hdn => ⟨_, rfl, fun _ => ?_, fun h => absurd h (by decide)⟩) fun cc' d' new2 nx hdp q1 q2 q3 D2 hnx => ⟨_, rfl, fun h => absurd h (by decide), fun _ => ?_⟩)))))))
  · refine gs_expr rfl (ge_bmeth (by walk_at "ev") (bm_popW (.head _)) (ga_v (by walk_at "ev") (ga_nil (ge_popW (f := fun o' => (wd, o') :: (foot w.params most cc d ++ (feet w.params most (pre ++ post) ++ (new ++ rest)))) (ok'.le (d' := 1) (u' := 1) rfl rfl) (fun o' => .head) R1 (fun o' => hY _ _) (fun o' => hY _ _ _ (List.mem_append_left _ hkm)) (List.mem_append_right _ (.head _)) rfl hz1 fun ep3 => gs_ret (ge_v ev_none (hR0 _ _ _ ?_))))))
    rw [drop_mid R1.nd rfl]
    exact ⟨_, _, List.perm_middle.symm, ret .none (pre ++ post) none ep3 new (by rw [List.map_append]; exact putNone hno hbad (habs ▸ absMid rfl) hdn) (R1.sub mid_sub) rfl⟩
  subst hnx
  clear hin gk D1 hd1
  obtain ⟨dd', hdx', lp', hx', lr', TT', Tk', np', nr', vp', vr', ev', fv'⟩ := cc'
  dsimp only at q1 q2 q3
  obtain ⟨i1, i2, i3, i4, i5, i6, i7⟩ := D2
  dsimp only at i1 i2 i3 i4 i5 i6 i7
  have hX3 : ∀ o, Ext (new ++ im) (new2 ++ ((wd, o) :: (foot w.params most ⟨dd', hdx', lp', hx', lr', TT', Tk', np', nr', vp', vr', ev', fv'⟩ d' ++ (feet w.params most (pre ++ post) ++ (new ++ rest))))) := fun o p hp => List.mem_append_right _ (hY _ _ p hp)
  have hX2 : ∀ o, Ext (new2 ++ (new ++ im)) (new2 ++ ((wd, o) :: (foot w.params most ⟨dd', hdx', lp', hx', lr', TT', Tk', np', nr', vp', vr', ev', fv'⟩ d' ++ (feet w.params most (pre ++ post) ++ (new ++ rest))))) := fun o => Ext.app2 (hY _ _)
  refine gs_if20 (ge_test rfl (ge_meth0 ok' (by walk_at "ev") (hX2 _ _ i1) (List.mem_append_right _ (.tail _ (.head _))) m177_whole dn_whole (dg_whole_g (im := new2 ++ (new ++ im)) (ok'.le rfl rfl) (hX2 _ _ i1) (List.mem_append_right _ (.tail _ (.head _))) (hX2 _ _ i2) (List.mem_append_right _ (.tail _ (.tail _ (.head _)))) (hX2 _ _ i3) i4 (hX2 _) i6 i7 ⟨_, rfl, fun hwh => ?_, fun hwh => ?_⟩)))
  · refine gs_expr rfl (ge_bmeth (by walk_at "ev") (bm_popW (List.mem_append_right _ (.head _))) (ga_v (by walk_at "ev") (ga_nil (ge_popW (f := fun o' => new2 ++ ((wd, o') :: (foot w.params most ⟨dd', hdx', lp', hx', lr', TT', Tk', np', nr', vp', vr', ev', fv'⟩ d' ++ (feet w.params most (pre ++ post) ++ (new ++ rest))))) (ok'.le (d' := 1) (u' := 1) rfl rfl) (fun o' => .right .head) R1 hX3 (fun o' => hX3 _ _ (List.mem_append_left _ hkm)) (List.mem_append_right _ (.head _)) rfl hz1 fun ep3 => ?_))))
    rw [drop_mid R1.nd rfl]
    obtain ⟨f, hf⟩ := whFirst hwh
    rw [hf] at i7
    obtain ⟨xf, rfl, dxf, Tff, Hf1, Hf2⟩ := i7
    obtain ⟨ho1, ho2, ho3⟩ := hdo d d' (habs ▸ absMid (e := ⟨ei, ek, x, cc, d⟩) rfl ▸ List.mem_append_right _ (.head _)) hdp
    refine gs_ret (ge_tuple ok' (ga_cons (ge_call ok' (by k_is) (by k_is) rfl (ga_v (ev_attr ok' (by walk_at "nm") rfl (hX2 _ _ i1) (List.mem_append_right _ (.tail _ (.head _))) i177_first (dg_first (by exact rfl)) .mk) (ga_nil (whole_g (ok'.le rfl rfl) ⟨dxf, Tff, hX2 _ _ Hf1, hX2 _ _ Hf2⟩ fun x1 dx1 T1 => ga_cons (ge_meth0 ok' (by walk_at "ev") (.tail _ (.tail _ (hX2 _ _ i1))) (.tail _ (.tail _ (List.mem_append_right _ (.tail _ (.head _))))) m177_octets dn_octets (dg_octets_g (im := new2 ++ (new ++ im)) (ok'.le rfl rfl) (.tail _ (.tail _ (hX2 _ _ i1))) (.tail _ (.tail _ (List.mem_append_right _ (.tail _ (.head _))))) (.tail _ (.tail _ (List.mem_append_right _ (.tail _ (.tail _ (.tail _ (.head _))))))) i5 (Ext.cons (Ext.cons (hX2 _))) ho1 ho2 ho3 fun xs t4 hp hs => ga_nil ⟨rfl, fun D => hR0 _ _ _ ?_⟩))))))))
    exact ⟨_, _, permWh, ret (.ref D) (pre ++ post) (some _) ep3 (_ :: _ :: _ :: (new2 ++ new)) (by rw [List.map_append]; exact putWhole hno hbad (habs ▸ absMid rfl) hdp hwh hf hp hs) ((R1.sub mid_sub).mono fun p hp => .tail _ (.tail _ (.tail _ (by show p ∈ (new2 ++ new) ++ im; rw [List.append_assoc]; exact List.mem_append_right _ hp)))) ⟨D, x1, _, _, rfl, .head _, dx1, _, .tail _ (.head _), .tail _ (.tail _ (.head _))⟩⟩
  · have R2 : ReIn w.params ((new2 ++ new) ++ im) (pre ++ ⟨ei, ek, x, ⟨dd', hdx', lp', hx', lr', TT', Tk', np', nr', vp', vr', ev', fv'⟩, d'⟩ :: post) := by
      rw [List.append_assoc]
      exact (R1.mono (Ext.app Ext.rfl)).swap rfl rfl ⟨i1, i2, i3, i4, i5, i6, i7⟩
    rw [← ws_swap (e := ⟨ei, ek, x, cc, d⟩) (e' := ⟨ei, ek, x, ⟨dd', hdx', lp', hx', lr', TT', Tk', np', nr', vp', vr', ev', fv'⟩, d'⟩) rfl rfl rfl]
    refine GS.pp (n' := (wd, wdObj PR w (wsOf (pre ++ ⟨ei, ek, x, ⟨dd', hdx', lp', hx', lr', TT', Tk', np', nr', vp', vr', ev', fv'⟩, d'⟩ :: post)) ep1) :: (feet w.params most (pre ++ ⟨ei, ek, x, ⟨dd', hdx', lp', hx', lr', TT', Tk', np', nr', vp', vr', ev', fv'⟩, d'⟩ :: post) ++ ((new2 ++ new) ++ rest))) (by rw [feet_mid, feet_app]; exact permRm) ?_
    refine gs_expr rfl (ge_meth0 ok' (by walk_at "ev") (by walk_at "mm") (by walk_at "mm") m260_room rn_room (re_room_g (im := (new2 ++ new) ++ im) (ok'.le rfl rfl) lo (Ext.app2 him) (List.mem_append_right _ hr1) (List.mem_append_right _ hr2) R2 (by rw [List.length_append] at hz1 ⊢; exact hz1) fun ep3 => gs_ret (ge_v ev_none (hR0 _ _ _ ?_))))
    exact ⟨[], _, .refl _, ret .none _ none ep3 (new2 ++ new) (by rw [room_abs, absMid rfl]; exact putRoom hno hbad (habs ▸ absMid rfl) hdp hwh) (R2.sub room_sub) rfl⟩
end
section
section
variable {ys : List Value} {kv : List (Int × Value)} {xs : List UInt8} {d : TwS} {f : HdS}
theorem twRunE (hl : ys.length = xs.length) (j : PlAre kv d.places) (hf : d.first = some f) (k : runT d.places 8 0 = xs ++ runT d.places (8 - xs.length) xs.length) (hb : (true && (decide ((ys.length : Int) < 8) && decide (valueAt kv (ys.length : Int) ≠ none))) = false) : xs = octT d := by
  rw [octT_yes hf]
  by_cases h : (ys.length : Int) < 8
  · rw [Bool.true_and, decide_eq_true h, Bool.true_and, decide_eq_false_iff_not, Decidable.not_not] at hb
    cases ho : octAt d.places xs.length with
    | none => exact (runT_no k ho).symm
    | some o =>
      obtain ⟨t, ht⟩ := j.at ho
      rw [hl, ht] at hb
      cases hb
  · exact (runT_0 k (run8o hl h)).symm
theorem twRunG (hl : ys.length = xs.length) (j : PlAre kv d.places) (hb : (true && (decide ((ys.length : Int) < 8) && decide (valueAt kv (ys.length : Int) ≠ none))) = true) : xs.length < 8 ∧ ∃ o t, octAt d.places xs.length = some o ∧ valueAt kv (ys.length : Int) = some (.int (o.toNat : Int) t) := by
  rw [Bool.true_and, Bool.and_eq_true, decide_eq_true_eq, decide_eq_true_eq] at hb
  refine ⟨run8 hl hb.1, ?_⟩
  cases ho : octAt d.places xs.length with
  | none =>
    have := j.no ho
    rw [← hl] at this
    exact absurd this hb.2
  | some o =>
    obtain ⟨t, ht⟩ := j.at ho
    exact ⟨o, t, rfl, by rw [hl]; exact ht⟩
end
structure TwXB where
  ot : Obj
  vs : List Value
  n : Nat
  new : Led
theorem permX1 {l q p d f t : Addr × Obj} {new G : Led} : (l :: q :: p :: d :: f :: t :: (new ++ G)).Perm ([q] ++ (p :: d :: f :: t :: ((l :: new) ++ G))) :=
  (List.perm_append_comm (l₁ := [l]) (l₂ := [q, p, d, f, t])).append_right (new ++ G) |>.trans (.of_eq (by simp))
theorem permX2 {l x q p d f t : Addr × Obj} {new G : Led} : (l :: x :: q :: p :: d :: f :: t :: (new ++ G)).Perm ([q] ++ (p :: d :: f :: t :: ((l :: x :: new) ++ G))) :=
  (List.perm_append_comm (l₁ := [l, x]) (l₂ := [q, p, d, f, t])).append_right (new ++ G) |>.trans (.of_eq (by simp))
theorem permX3 {tl now : Int} {l : List TE} {D f t : Addr × Obj} {new rest : Led} : (D :: f :: t :: (new ++ (feetG tft l ++ rest))).Perm ((D :: feetG tft (goneT tl now l)) ++ (t :: (feetG tft (keepT tl now l) ++ ((f :: new) ++ rest)))) := by
  have h1 : (feetG tft l).Perm (feetG tft (goneT tl now l) ++ feetG tft (keepT tl now l)) := by
    rw [← feetG_app]
    exact (List.filter_append_perm (fun e => dueT tl now e.d) l).symm.flatMap_right _
  refine .cons _ ?_
  refine ((List.perm_append_comm (l₁ := [f]) (l₂ := [t])).append_right _).trans ?_
  refine List.Perm.trans (l₂ := t :: (feetG tft (goneT tl now l) ++ (feetG tft (keepT tl now l) ++ ((f :: new) ++ rest)))) (.cons _ ?_) (List.perm_middle.symm)
  refine (List.perm_append_comm_assoc (f :: new) (feetG tft l) rest).trans ?_
  exact (h1.append_right _).trans (.of_eq (List.append_assoc ..))
theorem tw_expired_g {w : World} {c : Cx} {sc : Scope} {m : Nms} {P : Value → Led → Prop} {rest im : Led} {tw lim : Addr} {tl now : Int} {mo most ln : Nat} {ot : Obj} {l : List TE} {tn t1 t2 t3 : Tok}
    (ok : CxOk w c sc 7 140) (lo : (tw == sysModules) = false) (hd : ot.IsDictOf (intKind PR w) (tkv l)) (him : Ext im rest) (hli : (lim, tupOf #[.int tl t1, .int mo t2, .int most t3] ln) ∈ im)
    (R : TwsIn PR w im l) (hz : l.length ≤ 900) (hdd : ∀ e ∈ l, e.d.places.length ≤ 1000)
    (ret : ∀ (fl : Addr) (vs : List Value) (n : Nat) (ot' : Obj) (new : Led), (fl, W.listOf vs.toArray n) ∈ new → AllAre (TGoneIs (new ++ im)) vs ((goneT tl now l).map absT) → ot'.IsDictOf (intKind PR w) (tkv (keepT tl now l)) → P (.ref fl) ((tw, ot') :: (feetG tft (keepT tl now l) ++ (new ++ rest)))) :
    GE w c sc m (call (.ref 471) [.ref tw, .int now tn, .ref lim]) ((tw, ot) :: (feetG tft l ++ rest)) P := by
  refine GE.fin ?_
  have g1 := him _ hli
  refine' g_enter (d := 6) (u := 137) [(Str.ofString "twin", .ref tw), (Str.ofString "now", .int now tn), (Str.ofString "limits", .ref lim)] (by exact rfl) (ok.le rfl rfl) (by k_is) (by k_is) (by intro s; exact BindsTo.of_eq rfl) (by exact rfl) (by exact rfl) ?_
  intro c' ok'
  refine GS.abs fun R0 hR0 => ?_
  refine gs_let rfl rfl (ge_list ok' (ga_nil ⟨rfl, fun fl => ?_⟩))
  refine gs_for (ge_type ok' (by k_is) (by boot_fast) (by decide) rfl (ga_v (by walk_at "ev") (ga_nil (ge_listT (by walk_at "mm") lo hd (Nat.le_trans hz (by decide)) fun D nd ks hI => ?_))))
  refine ForL.mk (α := TwXB) (its := ks.toArray) (nn := nd) (fun a => (D, W.listOf ks.toArray nd) :: (fl, W.listOf a.vs.toArray a.n) :: (tw, a.ot) :: (a.new ++ (feetG tft l ++ rest))) (fun p a => p :: (D, W.listOf ks.toArray nd) :: (fl, W.listOf a.vs.toArray a.n) :: (tw, a.ot) :: (a.new ++ (feetG tft l ++ rest)))
    (fun k m a => All7 (a.ot.IsDictOf (intKind PR w) (tkv (keepT tl now (l.take k) ++ l.drop k))) (a.vs.length ≤ k) (AllAre (TGoneIs (a.new ++ im)) a.vs ((goneT tl now (l.take k)).map absT)) (m (Str.ofString "twin") = some (.ref tw)) (m (Str.ofString "now") = some (.int now tn)) (m (Str.ofString "limits") = some (.ref lim)) (m (Str.ofString "found") = some (.ref fl)))
    ⟨ot, [], 0, []⟩ rfl rfl (fun _ _ => .refl _) (fun _ => .head _) ⟨hd, Nat.le_refl _, trivial, by walk_at "nm", by walk_at "nm", by walk_at "nm", by walk_at "nm"⟩ ?_ ?_
  · intro k v m₁ ⟨ot3, vs, n, new⟩ p hv ⟨j1, j2, j3, m1, m2, m3, m4⟩
    dsimp only at j1 j2 j3 ⊢
    obtain ⟨⟨ei, sx, pd, nn, tb, ta, ev, fv, po, kv, dd⟩, t, he, rfl⟩ := ints_getT hI hv
    have hem := List.mem_of_getElem? he
    have R3 := R.sub (keepT_sub (tl := tl) (now := now) (l := l) (k := k))
    rw [dropT he] at j1 R3
    have hat := tkv_at R3.nd (List.mem_append_right _ (.head _)) rfl
    have f1 := feetG_mem (ft := tft) hem _ (.head _)
    have f2 := feetG_mem (ft := tft) hem _ (.tail _ (.head _))
    have hdz := hdd _ hem
    obtain ⟨z1, z2, -, z5, z4⟩ := R.each _ hem
    dsimp only at hat z1 z2 z4 z5 f1 f2 hdz
    refine gu_name rfl ?_
    refine GS.abs fun R1 hR1 => ?_
    refine gs_asg rfl (ge_v (ev_itemD (by walk_at "ev") (by walk_at "ev") (by walk_at "mm") j1 hat .mk) (gu_list5 (by walk_at "mm") rfl rfl rfl rfl rfl ?_))
    refine gs_if0 (p := tl ≤ now - dd.began) (by walk_at "evt") (fun hdue => ?_) fun hno => ?_
    rotate_left 1
    · exact gs_nil (hR1 _ _ _ (tk_next (α := TwXB) ⟨ot3, vs, n, new⟩ ⟨keep_no he hno ▸ j1, Nat.le_succ_of_le j2, gone_no he hno j3, by walk_at "nm", by walk_at "nm", by walk_at "nm", by walk_at "nm"⟩))
    refine gs_expr rfl (ge_bmeth (by walk_at "ev") (bm_popD (by walk_at "mm") j1) (ga_cons (ge_ev (P := IsI ei) (by walk_at "ev") fun v7 h7 => ga_nil (ge_popD (fun o' => .tail (.tail (.tail .head))) j1 h7 hat (by rw [tkv_len]; exact Nat.le_trans (keepT_len he) (Nat.le_trans hz (by decide))) fun ot6 hd6 => ?_))))
    rw [tkv_drop R3.nd rfl] at hd6
    refine gs_let rfl rfl (ge_list ok' (ga_nil ⟨rfl, fun qa => ?_⟩))
    refine gs_join (α := List Value × Nat × List UInt8) (fun a => (qa, W.listOf a.1.toArray a.2.1) :: p :: (D, W.listOf ks.toArray nd) :: (fl, W.listOf vs.toArray n) :: (tw, ot6) :: (new ++ (feetG tft l ++ rest)))
      (fun m a => All8 (IntsAre a.1 (a.2.2.map fun b => ((b.toNat : Nat) : Int))) (a.2.2 = octT dd) (m (Str.ofString "twin") = some (.ref tw)) (m (Str.ofString "now") = some (.int now tn)) (m (Str.ofString "limits") = some (.ref lim)) (m (Str.ofString "found") = some (.ref fl)) (m (Str.ofString "first") = some fv) (m (Str.ofString "octets") = some (.ref qa))) ?_ ?_
    · refine GS.abs fun R2 hR2 => ?_
      refine gs_while (α := List Value × Nat × List UInt8) (fun a => (qa, W.listOf a.1.toArray a.2.1) :: p :: (D, W.listOf ks.toArray nd) :: (fl, W.listOf vs.toArray n) :: (tw, ot6) :: (new ++ (feetG tft l ++ rest)))
        (fun n m a => All9 (IntsAre a.1 (a.2.2.map fun b => ((b.toNat : Nat) : Int))) (n = 8 - a.2.2.length ∧ a.2.2.length ≤ 8 ∧ (dd.first = none → a.2.2 = [])) (runT dd.places 8 0 = a.2.2 ++ runT dd.places (8 - a.2.2.length) a.2.2.length) (m (Str.ofString "twin") = some (.ref tw)) (m (Str.ofString "now") = some (.int now tn)) (m (Str.ofString "limits") = some (.ref lim)) (m (Str.ofString "found") = some (.ref fl)) (m (Str.ofString "first") = some fv)
          (m (Str.ofString "octets") = some (.ref qa) ∧ m (Str.ofString "places") = some (.ref pd))) 8 ([], 0, []) rfl ⟨.nil, ⟨rfl, Nat.zero_le _, fun _ => rfl⟩, rfl, by walk_at "nm", by walk_at "nm", by walk_at "nm", by walk_at "nm", by walk_at "nm", by walk_at "nm", by walk_at "nm"⟩ ?_
      intro n3 m₂ ⟨ys, n9, xs⟩ ⟨k1, ⟨k2, kz, k3⟩, k4, k5, k6, k7, k8, k9, ⟨k10, k11⟩⟩
      dsimp only at k1 k2 kz k3 k4 ⊢
      have kl : ys.length = xs.length := by rw [k1.length, List.length_map]
      have ky : ys.length ≤ 1000000 := by rw [kl]; exact Nat.le_trans kz (by decide)
      cases hfi : dd.first with
      | none =>
        rw [hfi] at z5
        obtain rfl : fv = .none := z5
        refine EvT.ge (evt_and3 (b := false) (q := false) (r := false) (by walk_at "evt") (fun h => nomatch h) (fun h => nomatch h)) (ifB _ (fun h => nomatch h) fun _ => ?_)
        exact gs_nil (hR2 _ _ _ (jk_next (α := List Value × Nat × List UInt8) (ys, n9, xs) ⟨k1, (k3 hfi).trans (octT_no hfi).symm, k5, k6, k7, k8, k9, k10⟩))
      | some f =>
        rw [hfi] at z5
        obtain ⟨xf, rfl, -⟩ := z5
        refine EvT.ge (evt_and3 (b := true) (by walk_at "evt") (fun _ => ev_cmp (P1 := IsI _) (P2 := IsI _) (ev_lenL ok' (by walk_at "ev") rfl (.head _) ky) (by walk_at "ev") cp_lt) (fun _ _ => EvT.old (ge_cmpT (ge_ev (ev_lenL ok' (by walk_at "ev") rfl (.head _) ky) fun v hv => ge_v (by walk_at "ev") (cp_inD (by walk_at "mm") z4 z1 hv ⟨_, rfl, rfl, [], rfl⟩))))) (ifB _ (fun hb => ?_) fun hb => ?_)
        · obtain ⟨h8, o, to, ho, hat2⟩ := twRunG kl z2 hb
          refine gs_expr rfl (ge_bmeth (by walk_at "ev") (bm_append ok' (.head _)) (ga_v (ev_itemD (by walk_at "ev") (ev_lenL ok' (by walk_at "ev") rfl (.head _) ky) (by walk_at "mm") z1 hat2 .mk) (ga_nil (ge_append .head ky ?_))))
          exact gs_nil (wk_next (α := List Value × Nat × List UInt8) _ (_, _, xs ++ [o]) (run8n k2 h8) ⟨ints_snoc k1, ⟨rfl, run8l h8, fun q => (by cases q)⟩, runT_go k4 ho h8, k5, k6, k7, k8, k9, k10, k11⟩)
        · exact gs_nil (hR2 _ _ _ (jk_next (α := List Value × Nat × List UInt8) (ys, n9, xs) ⟨k1, twRunE kl z2 hfi k4 hb, k5, k6, k7, k8, k9, k10⟩))
    intro m₂ ⟨ys, n9, xs⟩ ⟨k1, k2, k3, k4, k5, k6, k7, k8⟩
    dsimp only at k1 k2 ⊢
    have kz : xs.length ≤ 1000000 := k2 ▸ Nat.le_trans octT_len (by decide)
    have hvz : vs.length ≤ 1000000 := Nat.le_trans j2 (Nat.le_trans (Nat.le_of_lt (List.getElem?_eq_some_iff.mp he).1) (Nat.le_trans hz (by decide)))
    cases hfi : dd.first with
    | none =>
      rw [hfi] at z5
      obtain rfl : fv = .none := z5
      refine gs_expr rfl (ge_bmeth (by walk_at "ev") (bm_append ok' (by walk_at "mm")) (ga_cons (ge_list ok' (ga_cons (ge_ifexp (b := true) (by walk_at "evt") (fun _ => ge_v ev_none ?_) (fun h => Bool.noConfusion h))))))
      refine ga_cons (ge_type ok' (by k_is) (by boot_fast) (by decide) rfl (ga_v (by walk_at "ev") (ga_nil (ge_bytes (.head _) k1 kz fun t9 => ga_nil ⟨rfl, fun lo => ga_nil (ge_append (by walk_at "sw") hvz ?_)⟩))))
      exact GS.pp permX1 (GS.drop (nw := [_]) (gs_nil (rk_next (gs_nil (hR1 _ _ _ (tk_next (α := TwXB) ⟨ot6, _, _, (lo, _) :: new⟩ ⟨keep_yes he hdue ▸ hd6, lenX j2, gone_yes he hdue (j3.imp (TGoneIs.mono (Ext.cons Ext.rfl))) (goneMk k2 rfl (.head _) (by rw [hfi]; exact rfl)), k3, k4, k5, k6⟩))))))
    | some f =>
      rw [hfi] at z5
      obtain ⟨xf, rfl, dxf, Tff, Hf1, Hf2⟩ := z5
      have Hf1 := him _ Hf1
      have Hf2 := him _ Hf2
      refine gs_expr rfl (ge_bmeth (by walk_at "ev") (bm_append ok' (by walk_at "mm")) (ga_cons (ge_list ok' (ga_cons (ge_ifexp (b := false) (by walk_at "evt") (fun h => Bool.noConfusion h) (fun _ => ge_call ok' (by k_is) (by k_is) rfl (ga_v (by walk_at "ev") (ga_nil (told_g (ok'.le rfl rfl) ⟨dxf, Tff, by walk_at "mm", by walk_at "mm"⟩ fun x9 T9 k9 => ?_)))))))))
      refine ga_cons (ge_type ok' (by k_is) (by boot_fast) (by decide) rfl (ga_v (by walk_at "ev") (ga_nil (ge_bytes (.tail _ (.head _)) k1 kz fun t9 => ga_nil ⟨rfl, fun lo => ga_nil (ge_append (by walk_at "sw") hvz ?_)⟩))))
      exact GS.pp permX2 (GS.drop (nw := [_]) (gs_nil (rk_next (gs_nil (hR1 _ _ _ (tk_next (α := TwXB) ⟨ot6, _, _, (lo, _) :: (x9, _) :: new⟩ ⟨keep_yes he hdue ▸ hd6, lenX j2, gone_yes he hdue (j3.imp (TGoneIs.mono (Ext.cons (Ext.cons Ext.rfl)))) (goneMk k2 rfl (.head _) (by rw [hfi]; exact ⟨x9, _, _, rfl, .tail _ (.head _)⟩)), k3, k4, k5, k6⟩))))))
  · intro m₁ ⟨ot3, vs, n, new⟩ ⟨j1, j2, j3, m1, m2, m3, m4⟩
    dsimp only at j1 j2 j3 ⊢
    rw [keepDone hI] at j1
    rw [goneDone hI] at j3
    exact gs_ret (ge_v (by walk_at "ev") (hR0 _ _ _ ⟨_, _, permX3 (tl := tl) (now := now), ret fl vs n ot3 ((fl, W.listOf vs.toArray n) :: new) (.head _) (j3.imp (TGoneIs.mono (Ext.cons Ext.rfl))) j1⟩))
end
section
structure ReXB where
  ep : Nat
  ls : List WE
  vs : List Value
  n : Nat
  new : Led
section
variable {l : List WE} {k : Nat} {e : WE} {tl now : Int} {P : Params} {most : Nat} {led : Led} {vs : List Value} {v : Value}
theorem keepW_yes (he : l[k]? = some e) (hd : tl ≤ now - e.d.began) : keepW tl now (l.take (k + 1)) ++ l.drop (k + 1) = keepW tl now (l.take k) ++ l.drop (k + 1) := by
  have hb : due tl now e.d = true := decide_eq_true hd
  unfold keepW
  rw [filter_at he, hb]
  exact congrArg (· ++ _) (List.append_nil _)
theorem keepW_no (he : l[k]? = some e) (hd : ¬ tl ≤ now - e.d.began) : keepW tl now (l.take (k + 1)) ++ l.drop (k + 1) = keepW tl now (l.take k) ++ e :: l.drop (k + 1) := by
  have hb : due tl now e.d = false := decide_eq_false hd
  unfold keepW
  rw [filter_at he, hb, List.append_assoc]
  rfl
theorem goneW_yes (he : l[k]? = some e) (hd : tl ≤ now - e.d.began) (h : AllAre (GoneIs P led) vs ((goneW tl now (l.take k)).map absE)) (hv : GoneIs P led v (e.i, e.d)) : AllAre (GoneIs P led) (vs ++ [v]) ((goneW tl now (l.take (k + 1))).map absE) := by
  have hb : due tl now e.d = true := decide_eq_true hd
  have : (goneW tl now (l.take (k + 1))).map absE = (goneW tl now (l.take k)).map absE ++ [(e.i, e.d)] := by
    unfold goneW
    rw [filter_at he, hb, List.map_append]
    rfl
  rw [this]
  exact h.snoc hv
theorem goneW_no (he : l[k]? = some e) (hd : ¬ tl ≤ now - e.d.began) (h : AllAre (GoneIs P led) vs ((goneW tl now (l.take k)).map absE)) : AllAre (GoneIs P led) vs ((goneW tl now (l.take (k + 1))).map absE) := by
  have hb : due tl now e.d = false := decide_eq_false hd
  have : goneW tl now (l.take (k + 1)) = goneW tl now (l.take k) := by
    unfold goneW
    rw [filter_at he, hb]
    exact List.append_nil _
  rw [this]
  exact h
theorem permXW {D f t : Addr × Obj} {new rest : Led} : (D :: f :: t :: (new ++ (feet P most l ++ rest))).Perm ((D :: feet P most (goneW tl now l)) ++ (t :: (feet P most (keepW tl now l) ++ ((f :: new) ++ rest)))) := by
  have h1 : (feet P most l).Perm (feet P most (goneW tl now l) ++ feet P most (keepW tl now l)) := by
    rw [← feet_app]
    exact (List.filter_append_perm (fun e => due tl now e.d) l).symm.flatMap_right _
  refine .cons _ ?_
  refine ((List.perm_append_comm (l₁ := [f]) (l₂ := [t])).append_right _).trans ?_
  refine List.Perm.trans (l₂ := t :: (feet P most (goneW tl now l) ++ (feet P most (keepW tl now l) ++ ((f :: new) ++ rest)))) (.cons _ ?_) (List.perm_middle.symm)
  refine (List.perm_append_comm_assoc (f :: new) (feet P most l) rest).trans ?_
  exact (h1.append_right _).trans (.of_eq (List.append_assoc ..))
end
theorem permX4 {l p d f t : Addr × Obj} {new G : Led} : (l :: p :: d :: f :: t :: (new ++ G)).Perm (p :: d :: f :: t :: ((l :: new) ++ G)) := (List.perm_append_comm (l₁ := [l]) (l₂ := [p, d, f, t])).append_right (new ++ G)
theorem re_expire_g {w : World} {c : Cx} {sc : Scope} {m : Nms} {P : Value → Led → Prop} {rest im : Led} {rx rdx wd : Addr} {RT : Nat → Tok} {tl mo now : Int} {most ep : Nat} {l : List WE} {tn : Tok}
    (ok : CxOk w c sc 4 90) (lo : (wd == sysModules) = false) (him : Ext im rest) (hr1 : (rx, instObj 260 rdx) ∈ im) (hr2 : (rdx, reObj w.params RT tl mo most wd) ∈ im)
    (R : ReIn w.params im l) (hz : l.length ≤ 1000) (hdt : ∀ e ∈ l, e.d.parts.length < 64 ∧ (e.d.parts.map (·.1)).Nodup ∧ (e.d.parts.map fun x => x.2.size).sum ≤ 1000)
    (ret : ∀ (fl : Addr) (vs : List Value) (n ep' : Nat) (new : Led), (fl, W.listOf vs.toArray n) ∈ new → AllAre (GoneIs w.params (new ++ im)) vs ((goneW tl now l).map absE) → P (.ref fl) ((wd, wdObj PR w (wsOf (keepW tl now l)) ep') :: (feet w.params most (keepW tl now l) ++ (new ++ rest)))) :
    GE w c sc m (call (.ref 250) [.ref rx, .int now tn]) ((wd, wdObj PR w (wsOf l) ep) :: (feet w.params most l ++ rest)) P := by
  refine GE.fin ?_
  have g1 := him _ hr1
  have g2 := him _ hr2
  refine' g_enter (d := 3) (u := 87) [(Str.ofString "self", .ref rx), (Str.ofString "now", .int now tn)] (by exact rfl) (ok.le rfl rfl) (by k_is) (by k_is) (by intro s; exact BindsTo.of_eq rfl) (by exact rfl) (by exact rfl) ?_
  intro c' ok'
  refine GS.abs fun R0 hR0 => ?_
  refine gs_let rfl rfl (ge_list ok' (ga_nil ⟨rfl, fun fl => ?_⟩))
  refine gs_for (ge_type ok' (by k_is) (by boot_fast) (by decide) rfl (ga_v (by walk_at "ev") (ga_nil (ge_listW (by walk_at "mm") lo hz fun D nd => ?_))))
  refine ForL.mk (α := ReXB) (its := (l.map fun e => Value.ref e.ka).toArray) (nn := nd) (fun a => (D, W.listOf (l.map fun e => Value.ref e.ka).toArray nd) :: (fl, W.listOf a.vs.toArray a.n) :: (wd, wdObj PR w (wsOf a.ls) a.ep) :: (a.new ++ (feet w.params most l ++ rest))) (fun p a => p :: (D, W.listOf (l.map fun e => Value.ref e.ka).toArray nd) :: (fl, W.listOf a.vs.toArray a.n) :: (wd, wdObj PR w (wsOf a.ls) a.ep) :: (a.new ++ (feet w.params most l ++ rest)))
    (fun k m a => All6 (a.ls = keepW tl now (l.take k) ++ l.drop k) (a.vs.length ≤ k) (AllAre (GoneIs w.params (a.new ++ im)) a.vs ((goneW tl now (l.take k)).map absE)) (m (Str.ofString "self") = some (.ref rx)) (m (Str.ofString "now") = some (.int now tn)) (m (Str.ofString "found") = some (.ref fl)))
    ⟨ep, l, [], 0, []⟩ rfl rfl (fun _ _ => .refl _) (fun _ => .head _) ⟨rfl, Nat.le_refl _, trivial, by walk_at "nm", by walk_at "nm", by walk_at "nm"⟩ ?_ ?_
  · intro k v m₁ ⟨ep3, ls, vs, n, new⟩ p hv ⟨j1, j2, j3, m1, m2, m3⟩
    dsimp only at j1 j2 j3 ⊢
    obtain ⟨⟨ei, ek, x, ⟨dd, hdx, lp, hx, lr, TT, Tk, np, nr, vp, vr, ev, fv⟩, d⟩, he, rfl⟩ := ka_at hv
    have hem := List.mem_of_getElem? he
    have hsub := keep_sub (tl := tl) (now := now) (l := l) (k := k)
    rw [← j1] at hsub
    rw [mid_at he] at j1
    have R3 := R.sub hsub
    have hlz := Nat.le_trans hsub.length_le hz
    rw [j1] at R3 hlz
    obtain ⟨T, kn, hkm⟩ := R.keys _ hem
    obtain ⟨i1, i2, i3, i4, i5, i6, i7⟩ := R.dgs _ hem
    have f1 := feet_dd (P := w.params) (most := most) hem
    have f2 := feet_lp (P := w.params) (most := most) hem
    obtain ⟨ho1, ho2, ho3⟩ := hdt _ hem
    dsimp only at hkm i1 i5 i7 f1 f2 ho1 ho2 ho3 ⊢
    subst j1
    have him4 : ∀ (a b cc d : Addr × Obj), Ext im (a :: b :: cc :: d :: (new ++ (feet w.params most l ++ rest))) := fun a b cc d q hq => .tail _ (.tail _ (.tail _ (.tail _ (List.mem_append_right _ (List.mem_append_right _ (him q hq))))))
    have hkr := him _ hkm
    have hir := him _ i1
    refine gu_name rfl ?_
    refine GS.abs fun R1 hR1 => ?_
    refine gs_let rfl rfl (ge_v (ev_itemW (ok'.le (d' := 1) (u' := 1) rfl rfl) (by walk_at "ev") (by walk_at "ev") (by walk_at "mm") R3 (him4 _ _ _ _) (by walk_at "mm") (List.mem_append_right _ (.head _)) rfl .mk) ?_)
    refine gs_if0 (p := tl ≤ now - d.began) (by walk_at "evt") (fun hdue => ?_) fun hno => ?_
    rotate_left 1
    · exact gs_nil (hR1 _ _ _ (tk_next (α := ReXB) ⟨ep3, _, vs, n, new⟩ ⟨(keepW_no he hno).symm, Nat.le_succ_of_le j2, goneW_no he hno j3, by walk_at "nm", by walk_at "nm", by walk_at "nm"⟩))
    refine gs_expr rfl (ge_bmeth (by walk_at "ev") (bm_popW (by walk_at "mm")) (ga_v (by walk_at "ev") (ga_nil (ge_popW (f := fun o' => p :: (D, W.listOf (l.map fun e => Value.ref e.ka).toArray nd) :: (fl, W.listOf vs.toArray n) :: (wd, o') :: (new ++ (feet w.params most l ++ rest))) (ok'.le (d' := 1) (u' := 1) rfl rfl) (fun o' => .tail (.tail (.tail .head))) R3 (fun o' => him4 _ _ _ _) (fun o' => him4 _ _ _ _ _ hkm) (List.mem_append_right _ (.head _)) rfl hlz fun ep4 => ?_))))
    rw [drop_mid R3.nd rfl]
    have hvz : vs.length ≤ 1000000 := Nat.le_trans j2 (Nat.le_trans (Nat.le_of_lt (List.getElem?_eq_some_iff.mp he).1) (Nat.le_trans hz (by decide)))
    refine gs_expr rfl (ge_bmeth (by walk_at "ev") (bm_append ok' (by walk_at "mm")) (ga_cons (ge_tuple ok' (ga_v (ev_attr ok' (by walk_at "nm") rfl (by walk_at "mm") (by walk_at "mm") i177_first (dg_first (firstHand i7)) .mk) ?_))))
    cases hfi : d.first with
    | none =>
      rw [hfi] at i7
      obtain rfl : fv = .none := i7
      refine ga_cons (ge_ifexp (b := false) (by walk_at "evt") (fun h => Bool.noConfusion h) (fun _ => ge_ev ev_bytes fun vb hb => ga_nil ⟨rfl, fun t => ga_nil (ge_append (by walk_at "sw") hvz ?_)⟩))
      obtain ⟨tb, rfl⟩ := hb
      exact GS.pp permX4 (gs_nil (rk_next (gs_nil (hR1 _ _ _ (tk_next (α := ReXB) ⟨ep4, _, _, _, (t, _) :: new⟩ ⟨(keepW_yes he hdue).symm, lenX j2, goneW_yes he hdue (j3.imp (GoneIs.mono (Ext.cons Ext.rfl))) ⟨t, _, _, _, [], rfl, .head _, by show FirstIs _ _ _ _ d.first; rw [hfi]; rfl, fun _ => rfl, fun q => absurd hfi q⟩, by walk_at "nm", by walk_at "nm", by walk_at "nm"⟩)))))
    | some f =>
      obtain ⟨xf, rfl, Hf⟩ : ∃ x, fv = .ref x ∧ HdrIs w.params im x ei f.more (f.off : Int) f.opt := by rw [hfi] at i7; exact i7
      refine ga_cons (ge_ifexp (b := true) (by walk_at "evt") (fun _ => ge_meth0 ok' (by walk_at "ev") (by walk_at "mm") (by walk_at "mm") m177_told dn_told (dg_told_g (ok'.le rfl rfl) (by walk_at "mm") (by walk_at "mm") (by walk_at "mm") i5 (him4 _ _ _ _) ho1 ho2 ho3 fun xs t4 hp hs => ga_nil ⟨rfl, fun t => ga_nil (ge_append (by walk_at "sw") hvz ?_)⟩)) (fun h => Bool.noConfusion h))
      exact GS.pp permX4 (gs_nil (rk_next (gs_nil (hR1 _ _ _ (tk_next (α := ReXB) ⟨ep4, _, _, _, (t, _) :: new⟩ ⟨(keepW_yes he hdue).symm, lenX j2, goneW_yes he hdue (j3.imp (GoneIs.mono (Ext.cons Ext.rfl))) ⟨t, _, _, _, _, rfl, .head _, by show FirstIs _ _ _ _ d.first; rw [hfi]; exact ⟨xf, rfl, Hf.mono (Ext.cons (Ext.app Ext.rfl))⟩, fun q => absurd (hfi.symm.trans q) (fun z => nomatch z), fun _ => ⟨xs, hp, hs, rfl⟩⟩, by walk_at "nm", by walk_at "nm", by walk_at "nm"⟩)))))
  · intro m₁ ⟨ep3, ls, vs, n, new⟩ ⟨j1, j2, j3, m1, m2, m3⟩
    dsimp only at j1 j2 j3 ⊢
    have hsz : (l.map fun e => Value.ref e.ka).toArray.size = l.length := by rw [List.size_toArray, List.length_map]
    rw [hsz, List.take_length] at j3
    rw [hsz, List.take_length, List.drop_length, List.append_nil] at j1
    subst j1
    exact gs_ret (ge_v (by walk_at "ev") (hR0 _ _ _ ⟨_, _, permXW (tl := tl) (now := now), ret fl vs n ep3 ((fl, W.listOf vs.toArray n) :: new) (.head _) (j3.imp (GoneIs.mono (Ext.cons Ext.rfl)))⟩))
end
section
structure TwB where
  e : TE
  pre : List TE
  post : List TE
  ot : Obj
noncomputable abbrev TwB.led (b : TwB) (aS aT tw : Addr) (oS oT : Obj) (rest : Led) : Led := (aS, oS) :: (aT, oT) :: (b.e.sx, stL b.e.d.began b.e.tb b.e.pd b.e.ev b.e.d.ahead b.e.ta b.e.fv b.e.n) :: (b.e.pd, b.e.po) :: (tw, b.ot) :: (feetG tft (b.pre ++ b.post) ++ rest)
structure TwBJ (w : World) (im : Led) (l : List TE) (i now : Int) (b : TwB) : Prop where
  hi : b.e.i = i
  abs : (b.pre ++ b.e :: b.post).map absT = entryT (l.map absT) i now
  dict : b.ot.IsDictOf (intKind PR w) (tkv (b.pre ++ b.e :: b.post))
  R : TwsIn PR w im (b.pre ++ b.e :: b.post)
  len : (b.pre ++ b.e :: b.post).length ≤ 1000
  pls : b.e.d.places.length ≤ 1000
theorem tkv_some {l : List TE} {i : Int} (h : decide (valueAt (tkv l) i = none) = false) : ∃ e ∈ l, e.i = i := Classical.byContradiction fun hx => of_decide_eq_false h (tkv_no fun e he q => hx ⟨e, he, q⟩)
theorem TwBJ.old {w : World} {im : Led} {l : List TE} {i now : Int} {pre post : List TE} {e : TE} {ot : Obj} (hpp : l = pre ++ e :: post) (he : e ∈ l) (hei : e.i = i) (hd : ot.IsDictOf (intKind PR w) (tkv l)) (R : TwsIn PR w im l) (hz : l.length ≤ 900) (hdd : ∀ e ∈ l, e.d.places.length ≤ 1000) : TwBJ w im l i now ⟨e, pre, post, ot⟩ :=
  ⟨hei, by rw [← hpp]; exact (entryT_yes ⟨e, he, hei⟩).symm, by rw [← hpp]; exact hd, by rw [← hpp]; exact R, by rw [← hpp]; exact Nat.le_trans hz (by decide), hdd e he⟩
theorem TwBJ.new {w : World} {im : Led} {l : List TE} {i now : Int} {sx pd : Addr} {tn t0 : Tok} {po ot : Obj} (hat : valueAt (tkv l) i = none) (lo : (pd == sysModules) = false) (hp : po.IsDictOf (intKind PR w) []) (hd : ot.IsDictOf (intKind PR w) (stored (tkv l) i (.ref sx))) (R : TwsIn PR w im l) (hz : l.length ≤ 900) : TwBJ w im l i now ⟨⟨i, sx, pd, 0, tn, t0, .none, .none, po, [], newTw now⟩, l, [], ot⟩ := by
  have hex : ¬ ∃ q ∈ l, q.i = i := fun ⟨q, hq, e⟩ => by
    have := tkv_at R.nd hq e
    rw [hat] at this
    cases this
  rw [stored_absent hat] at hd
  exact ⟨rfl, by rw [List.map_append]; exact (entryT_no hex).symm, by rw [tkv_snoc]; exact hd, R.snoc hex ⟨hp, trivial, rfl, rfl, lo⟩, by rw [List.length_append]; exact Nat.le_trans (Nat.add_le_add_right hz 1) (by decide), Nat.zero_le _⟩
section
variable {po : Obj} {kv : List (Int × Value)} {ps : List (Nat × UInt8)} {off k : Nat} {pl : Array UInt8} {t : Tok} {d : TwS} {h : HdS}
theorem plNone (j : PlAre kv (twPl off pl ps k)) (h : valueAt kv ((off : Int) + (k : Int)) = none) : octAt (twPl off pl ps k) (off + k) = none := by
  cases hq : octAt (twPl off pl ps k) (off + k) with
  | none => rfl
  | some o =>
    obtain ⟨t, ht⟩ := j.at hq
    cases (show valueAt kv ((off : Int) + (k : Int)) = _ from ht).symm.trans h
theorem plSnoc (j : PlAre kv (twPl off pl ps k)) (h : valueAt kv ((off : Int) + (k : Int)) = none) : PlAre (stored kv ((off : Int) + (k : Int)) (.int ((pl.toList.getD k 0).toNat : Int) t)) (twPl off pl ps (k + 1)) := by
  rw [stored_absent h, twPl_none (plNone j h)]
  exact j.snoc rfl
theorem plLen {v : Value} {q : Nat} (h : valueAt kv ((off : Int) + (k : Int)) = none) (hl : kv.length ≤ q + k) : (stored kv ((off : Int) + (k : Int)) v).length ≤ q + (k + 1) := by
  rw [stored_absent h, List.length_append]
  exact Nat.add_le_add_right hl 1
theorem plSame (j : PlAre kv (twPl off pl ps k)) (h : ¬ valueAt kv ((off : Int) + (k : Int)) = none) : PlAre kv (twPl off pl ps (k + 1)) := by
  cases hq : octAt (twPl off pl ps k) (off + k) with
  | none => exact absurd (j.no hq) h
  | some o => rw [twPl_some hq]; exact j
theorem twF0 {w : World} {im : Led} {i : Int} {fx : Addr} (hf : d.first = none) (hq : (((h.off : Int) == 0) && true) = true) (H : HdrIs w.params im fx i h.more (h.off : Int) h.opt) : FirstIs w.params im i (.ref fx) (twNext d h pl).first := by
  show FirstIs _ _ _ _ (firstOf d.first h)
  rw [hf, firstOf_0 (by simpa using hq)]
  exact ⟨fx, rfl, H⟩
theorem twF1 {w : World} {im : Led} {i : Int} (hf : d.first = none) (hq : (((h.off : Int) == 0) && true) = false) : FirstIs w.params im i .none (twNext d h pl).first := by
  show FirstIs _ _ _ _ (firstOf d.first h)
  rw [hf, firstOf_n (by simpa using hq)]
  rfl
theorem twF2 {w : World} {im : Led} {i : Int} {f : HdS} {v : Value} (hf : d.first = some f) (H : FirstIs w.params im i v (some f)) : FirstIs w.params im i v (twNext d h pl).first := by
  show FirstIs _ _ _ _ (firstOf d.first h)
  rw [hf, firstOf_s]
  exact H
theorem twZ {k z : Nat} (h : (true && (((k : Nat) : Int) == (z : Int))) = true) : (k : Int) = (z : Int) := by simpa using h
theorem twZ' {k z : Nat} (h : (true && (((k : Nat) : Int) == (z : Int))) = false) : ¬ (k : Int) = (z : Int) := fun e => by
  rw [e] at h
  simp at h
theorem small2G {w : World} {im : Led} {l pre post : List TE} {e e' : TE} {i now : Int} (hdd : ∀ e ∈ l, e.d.places.length ≤ 1000) (habs : (pre ++ e :: post).map absT = entryT (l.map absT) i now)
    (R : TwsIn PR w im (pre ++ e :: post)) (hz : e'.kv.length ≤ 1000000) : ∀ q ∈ pre ++ e' :: post, q.kv.length ≤ 1000000 := small2 hdd habs R hz
theorem twAh3 (hm : h.more = false) : d.ahead = (twNext d h pl).ahead := Int.ofNat.inj (twAh2 hm)
end
theorem tw_put_g {w : World} {c : Cx} {sc : Scope} {m : Nms} {P : Value → Led → Prop} {rest im : Led} {tw fx lim : Addr} {tl now i : Int} {mo most ln : Nat} {ot : Obj} {l : List TE} {h : HdS} {pl : Array UInt8} {tp tn t1 t2 t3 : Tok}
    (ok : CxOk w c sc 7 140) (lo : (tw == sysModules) = false) (hd : ot.IsDictOf (intKind PR w) (tkv l)) (him : Ext im rest) (hli : (lim, tupOf #[.int tl t1, .int mo t2, .int most t3] ln) ∈ im)
    (R : TwsIn PR w im l) (hz : l.length ≤ 900) (H : HdrIs w.params im fx i h.more (h.off : Int) h.opt) (hpl : pl.size ≤ 1000) (hdd : ∀ e ∈ l, e.d.places.length ≤ 1000)
    (hdo : ¬ (h.off = 0 ∧ h.more = false) → (h.more && (decide (pl.size = 0) || decide (pl.size % 8 ≠ 0))) = false → ∀ d, (i, d) ∈ entryT (l.map absT) i now → twDenies most d.places d.en d.ahead (h.off + pl.size) h.more = false → wholeT (twNext d h pl) = true → (twNext d h pl).first.isSome = true ∧ ∀ z a, (twNext d h pl).en = some z → a < z → (octAt (twNext d h pl).places a).isSome = true)
    (ret : ∀ (v : Value) (l' : List TE) (out : Option Spec) (ot' : Obj) (new : Led), TwPutR most mo (l.map absT) i h pl now (l'.map absT) out → TwsIn PR w (new ++ im) l' → TOutIs (new ++ im) i v out → ot'.IsDictOf (intKind PR w) (tkv l') → P v ((tw, ot') :: (feetG tft l' ++ (new ++ rest)))) :
    GE w c sc m (call (.ref 464) [.ref tw, .ref fx, .bytes pl tp, .int now tn, .ref lim]) ((tw, ot) :: (feetG tft l ++ rest)) P := by
  refine GE.fin ?_
  obtain ⟨dfx, Tf, H1, H2⟩ := H.mono him
  have g1 := him _ hli
  refine' g_enterC2 (d := 6) (u := 137) [(Str.ofString "twin", .ref tw), (Str.ofString "head", .ref fx), (Str.ofString "octets", .bytes pl tp), (Str.ofString "now", .int now tn), (Str.ofString "limits", .ref lim)] (x := Str.ofString "state") (y := Str.ofString "twin") (vx := none) (vy := some (.ref tw)) (by exact rfl) (fun _ => rfl) rfl rfl (by decide) (ok.le rfl rfl) (by k_is) (by k_is) (by intro s; exact BindsTo.of_eq rfl) (by exact rfl) (by exact rfl) ?_
  intro c' aS aT oS oT ok' hcl hS hT
  have c1 : c'.cl.lookup (Str.ofString "state") = some aS := by rw [hcl]; rfl
  have c2 : c'.cl.lookup (Str.ofString "twin") = some aT := by rw [hcl]; rfl
  refine gs_ifb0 (by walk_at "evt") (fun hq => ?_) fun hq => ?_
  · obtain ⟨ho, hm⟩ := offB hq
    refine gs_ret (ge_list ok' (ga_cons (ge_call ok' (by k_is) (by k_is) rfl (ga_v (by walk_at "ev") (ga_nil (told_g (ok'.le rfl rfl) ⟨dfx, Tf, by walk_at "mm", by walk_at "mm"⟩ fun D T k => ga_v (by walk_at "ev") (ga_nil ⟨rfl, fun t => ?_⟩)))))))
    exact ⟨[_, _], _, permTwR, ret _ l _ ot [_, _] (twp1 ⟨ho, hm⟩) (R.mono (Ext.app Ext.rfl)) (.some rfl (.head _) (.tail _ (.head _))) hd⟩
  have hno := offB' hq
  refine gs_ifb0 (EvT.to (by walk_at "evt") badB) (fun hb => gs_ret (ge_v ev_none ?_)) fun hbad => ?_
  · exact ⟨[_, _], _, .refl _, ret .none l none ot [] (twp2 hno hb) R (.none rfl) hd⟩
  refine gs_joinN (α := TwB) (fun b => b.led aS aT tw oS oT rest) (TwBJ w im l i now) ?_ ?_
  · refine gs_if2 (ge_cmpT (ge_ev (P := IsI i) (by walk_at "ev") fun v hv => ge_v (by walk_at "ev") (cp_notin (by walk_at "mm") lo hd hv ⟨_, rfl, fun hb => ?_, fun hb => ?_⟩)))
    · refine gs_asg rfl (ge_list ok' (ga_v (by walk_at "ev") (ga_cons (ge_dict0 ok' fun pd po lop hdp => ga_v ev_none (ga_cons (ge_ev (P := IsI 0) ev_int fun v0 h0 => ga_v ev_none (ga_nil ⟨rfl, fun sx => gu_setD (by walk_at "ev") (P := _) (by walk_at "ev") (k := i) (fun o' => .tail (.tail (.tail (.tail .head)))) hd (by rw [tkv_len]; exact Nat.le_trans hz (by decide)) fun ot3 hd3 => ?_⟩)))))))
      obtain ⟨t0, rfl⟩ := h0
      exact GS.pp permNewTw (gs_nil (rk_next (gs_nil (jn_next (α := TwB) ⟨⟨i, sx, pd, 0, tn, t0, .none, .none, po, [], newTw now⟩, l, [], ot3⟩ (.new (of_decide_eq_true hb) lop hdp hd3 R hz)))))
    · obtain ⟨e, he, hei⟩ := tkv_some hb
      obtain ⟨pre, post, hpp⟩ := List.append_of_mem he
      exact GS.pp (.cons _ (.cons _ (permTw hpp))) (gs_nil (rk_next (gs_nil (jn_next (α := TwB) ⟨e, pre, post, ot⟩ (.old hpp he hei hd R hz hdd)))))
  clear hd R hz
  intro ⟨⟨ei, sx, pd, nn, tb, ta, ev, fv, po, kv, dd⟩, pre, post, ot1⟩ ⟨hei, habs, hd1, R1, hz1, hpz⟩
  dsimp only [TwB.led] at hei habs hd1 R1 hz1 hpz ⊢
  subst hei
  have hat := tkv_at R1.nd (List.mem_append_right _ (.head _)) rfl
  obtain ⟨z1, z2, z3, z5, z4⟩ := R1.each _ (List.mem_append_right _ (.head _))
  dsimp only at hat z1 z2 z3 z4 z5
  refine gs_letC (o := oS) (v₀ := none) (f := fun _ => []) c1 rfl rfl (ge_v (ev_itemD (by walk_at "ev") (by walk_at "ev") (by walk_at "mm") hd1 hat .mk) ⟨oS, none, _, hS, fun o' => .head, fun o3 h3 => ?_⟩)
  clear hS
  refine gs_let rfl rfl (ge_ev (by walk_at "ev") fun vE hE => ?_)
  have hE' : IsI ((h.off + pl.size : Nat) : Int) vE := hE
  refine gs_if20 (ge_test rfl (ge_call ok' (by k_is) (by k_is) rfl (ga_v (by walk_at "ev") (ga_v (by walk_at "ev") (ga_v (by walk_at "ev") (ga_v (by walk_at "ev") (ga_cons (ge_ev (P := IsI (most : Int)) (by walk_at "ev") fun v6 h6 => ga_nil (tw_denies_g (ok'.le rfl rfl) (by walk_at "mm") (by walk_at "mm") z4 z1 z2 z3 hpz hE' h6 ⟨_, rfl, fun hb => ?_, fun hb => ?_⟩)))))))))
  · refine gs_expr rfl (ge_bmeth (by walk_at "ev") (bm_popD (by walk_at "mm") hd1) (ga_cons (ge_ev (P := IsI ei) (by walk_at "ev") fun v7 h7 => ga_nil (ge_popD (fun o' => .tail (.tail (.tail (.tail .head)))) hd1 h7 hat (by rw [tkv_len]; exact Nat.le_trans hz1 (by decide)) fun ot5 hd5 => gs_ret (ge_v ev_none ?_)))))
    rw [tkv_drop R1.nd rfl] at hd5
    exact ⟨[_, _, _, _], _, .refl _, ret .none (pre ++ post) none ot5 [] (by rw [List.map_append]; exact twp3 hno hbad (habs ▸ absT_mid rfl) hb) (R1.sub midSub) (.none rfl) hd5⟩
  refine gs_forR (ge_type ok' (by k_is) (by boot_fast) (by decide) rfl (ga_cons (ge_ev (ev_len ok' (bs := pl) (by walk_at "ev") rfl (Nat.le_trans hpl (by decide))) fun v8 h8 => ga_nil ?_)))
  obtain ⟨t8, rfl⟩ := h8
  refine ge_range fun r t0 t2 => ?_
  refine ForR.mk (α := Obj × List (Int × Value)) (k := pl.size) (fun a => (r, rangeObj (pl.size : Int) t0 t8 t2) :: (aS, o3) :: (aT, oT) :: (sx, stL dd.began tb pd ev dd.ahead ta fv nn) :: (pd, a.1) :: (tw, ot1) :: (feetG tft (pre ++ post) ++ rest)) (fun p a => p :: (r, rangeObj (pl.size : Int) t0 t8 t2) :: (aS, o3) :: (aT, oT) :: (sx, stL dd.began tb pd ev dd.ahead ta fv nn) :: (pd, a.1) :: (tw, ot1) :: (feetG tft (pre ++ post) ++ rest))
    (fun k m a => All7 (a.1.IsDictOf (intKind PR w) a.2) (PlAre a.2 (twPl h.off pl dd.places k)) (a.2.length ≤ 1000 + k) (m (Str.ofString "head") = some (.ref fx)) (m (Str.ofString "octets") = some (.bytes pl tp)) (m (Str.ofString "limits") = some (.ref lim)) (m (Str.ofString "end") = some vE))
    (po, kv) rfl rfl (fun _ _ => .refl _) (.head _) (by omega) ⟨z1, z2, by rw [z2.len]; exact hpz, by walk_at "nm", by walk_at "nm", by walk_at "nm", by walk_at "nm"⟩ ?_ ?_
  · intro k v m₁ ⟨po, kv⟩ p hk hv ⟨j1, j2, j3, m1, m2, m3, m4⟩
    dsimp only at j1 j2 j3 ⊢
    refine gu_name rfl ?_
    refine gs_if20 (ge_cmpT (ge_ev (P := IsI ((h.off : Int) + (k : Int))) (by walk_at "ev") fun v9 h9 => ge_v (ev_itemK (by walk_at "ev") (by walk_at "mm") (by exact rfl) .mk) (cp_notin (by walk_at "mm") z4 j1 h9 ⟨_, rfl, fun hb => ?_, fun hb => ?_⟩)))
    · refine gs_asg rfl (ge_ev (ev_itemB (bs := pl) (by walk_at "ev") (by walk_at "ev") hpl hk) fun v5 h5 => gu_setD (k := (h.off : Int) + (k : Int)) (ev_itemK (by walk_at "ev") (by walk_at "mm") (by exact rfl) .mk) (by walk_at "ev") (fun o' => .tail (.tail (.tail (.tail (.tail .head))))) j1 (by omega) fun po6 hd6 => ?_)
      obtain ⟨t5, rfl⟩ := h5
      exact gs_nil (rk_next (gs_nil (tk_next (α := Obj × List (Int × Value)) (po6, _) ⟨hd6, plSnoc j2 (of_decide_eq_true hb), plLen (of_decide_eq_true hb) j3, by walk_at "nm", by walk_at "nm", by walk_at "nm", by walk_at "nm"⟩)))
    · exact gs_nil (tk_next (α := Obj × List (Int × Value)) (po, kv) ⟨j1, plSame j2 (of_decide_eq_false hb), Nat.le_succ_of_le j3, by walk_at "nm", by walk_at "nm", by walk_at "nm", by walk_at "nm"⟩)
  intro m₁ ⟨po, kv⟩ ⟨j1, j2, j3, m1, m2, m3, m4⟩
  clear z1 z2
  dsimp only at j1 j2 j3 ⊢
  refine GS.drop (nw := [_]) ?_
  refine gs_joinN (α := Value × Tok) (fun a => (aS, o3) :: (aT, oT) :: (sx, stL dd.began tb pd a.1 (twNext dd h pl).ahead a.2 fv nn) :: (pd, po) :: (tw, ot1) :: (feetG tft (pre ++ post) ++ rest)) (fun a => OptIs a.1 (twNext dd h pl).en) ?_ ?_
  · refine gs_ifb (b := h.more) (by walk_at "evt") (fun hm => ?_) (fun hm => ?_)
    · refine gs_asg rfl (ge_builtin ok' (by k_is) (by boot_fast) (by decide) rfl (ga_cons (ge_type ok' (by k_is) (by boot_fast) (by decide) rfl (ga_cons (ge_ev (P := IsI (dd.ahead : Int)) (by walk_at "ev") fun va ha => ga_nil (ge_intI ok' ha fun vb hb => ga_cons (ge_type ok' (by k_is) (by boot_fast) (by decide) rfl (ga_cons (ge_ev (P := IsI ((h.off : Int) + (pl.size : Int))) (by walk_at "ev") fun vc hc => ga_nil (ge_intI ok' hc fun vd hd => ga_nil (ge_maxV ok' hb hd fun vm hvm => ?_)))))))))))
      obtain ⟨t, rfl⟩ := hvm.to (twAh1 hm)
      exact gu_setL (by walk_at "ev") ev_int (by exact rfl) (.tail (.tail .head)) (gs_nil (rk_next (gs_nil (jn_next (α := Value × Tok) (ev, t) (twEn1 hm z3)))))
    · obtain ⟨tE, rfl⟩ := hE
      exact gs_asg rfl (ge_v (by walk_at "ev") (gu_setL (by walk_at "ev") ev_int (by exact rfl) (.tail (.tail .head)) (GS.pp (.of_eq (by rw [twAh3 hm])) (gs_nil (rk_next (gs_nil (jn_next (α := Value × Tok) (_, ta) (twEn2 hm))))))))
  clear hE hE' z3
  intro ⟨ev, ta⟩ hen
  dsimp only at hen ⊢
  refine gs_joinN (α := Value) (fun a => (aS, o3) :: (aT, oT) :: (sx, stL dd.began tb pd ev (twNext dd h pl).ahead ta a nn) :: (pd, po) :: (tw, ot1) :: (feetG tft (pre ++ post) ++ rest)) (fun a => FirstIs w.params im ei a (twNext dd h pl).first) ?_ ?_
  · cases hfi : dd.first with
    | none =>
      rw [hfi] at z5
      obtain rfl : fv = .none := z5
      refine gs_ifb0 (by walk_at "evt") (fun hq => ?_) fun hq => ?_
      · exact gs_asg rfl (ge_v (by walk_at "ev") (gu_setL (by walk_at "ev") ev_int (by exact rfl) (.tail (.tail .head)) (gs_nil (rk_next (gs_nil (jn_next (α := Value) (.ref fx) (twF0 hfi hq H)))))))
      · exact gs_nil (jn_next (α := Value) .none (twF1 hfi hq))
    | some f =>
      rw [hfi] at z5
      obtain ⟨xf, rfl, hff⟩ := z5
      exact gs_ifF0 (EvT.to (by walk_at "evt") (Bool.and_false _)) (gs_nil (jn_next (α := Value) (.ref xf) (twF2 hfi ⟨xf, rfl, hff⟩)))
  clear z5
  intro fv hfi
  (try dsimp only)
  refine gs_joinN (α := Unit) (fun _ => (aS, o3) :: (aT, oT) :: (sx, stL dd.began tb pd ev (twNext dd h pl).ahead ta fv nn) :: (pd, po) :: (tw, ot1) :: (feetG tft (pre ++ post) ++ rest)) (fun _ => wholeT (twNext dd h pl) = false) ?_ ?_
  · cases hne : (twNext dd h pl).en with
    | none =>
      rw [hne] at hen
      obtain rfl : ev = .none := hen
      exact gs_ifF0 (evt_and (b := false) (q := false) (by walk_at "evt") (fun h => nomatch h)) (gs_nil (jn_next (α := Unit) () (whole0 hne)))
    | some z =>
      rw [hne] at hen
      obtain ⟨tz, rfl⟩ : ∃ t, ev = .int (z : Int) t := hen
      refine gs_ifb0 (evt_and (by walk_at "evt") fun _ => ev_cmp (P1 := IsI _) (P2 := IsI (z : Int)) (ev_lenDi ok' (by walk_at "ev") rfl (by walk_at "mm") z4 j1 (by omega)) (by walk_at "ev") cp_eq) (fun hq => ?_) fun hq => gs_nil (jn_next (α := Unit) () (whole2 hne j2.len (twZ' hq)))
      have hwh := whole1 hne j2.len (twZ hq)
      obtain ⟨ho1, ho2⟩ := hdo hno hbad dd (habs ▸ absT_mid (e := ⟨ei, sx, pd, nn, tb, _, _, _, _, _, dd⟩) rfl ▸ List.mem_append_right _ (.head _)) hb hwh
      obtain ⟨f, hf⟩ := Option.isSome_iff_exists.mp ho1
      rw [hf] at hfi
      obtain ⟨xf, rfl, dxf, Tff, Hf1, Hf2⟩ : ∃ x, fv = .ref x ∧ HdrIs w.params im x ei f.more (f.off : Int) f.opt := hfi
      have Hf1 := him _ Hf1
      have Hf2 := him _ Hf2
      refine gs_expr rfl (ge_bmeth (by walk_at "ev") (bm_popD (by walk_at "mm") hd1) (ga_cons (ge_ev (P := IsI ei) (by walk_at "ev") fun v7 h7 => ga_nil (ge_popD (fun o' => .tail (.tail (.tail (.tail .head)))) hd1 h7 hat (by rw [tkv_len]; exact Nat.le_trans hz1 (by decide)) fun ot8 hd8 => ?_))))
      rw [tkv_drop R1.nd rfl] at hd8
      refine gs_let rfl rfl (ge_call ok' (by k_is) (by k_is) rfl (ga_v (by walk_at "ev") (ga_nil (told_g (ok'.le rfl rfl) ⟨dxf, Tff, by walk_at "mm", by walk_at "mm"⟩ fun Dt Tt kt => ?_))))
      refine gs_ret (ge_list ok' (ga_cons (ge_bin (ge_told7 (ge_v (by walk_at "ev") (Told7.mk rfl (.head _) fun D7 k7 => ge_tuple ok' (ga_v ev_bool (ga_cons (ge_ev (P := IsI 0) ev_int fun v0 h0 => ga_v (by walk_at "ev") (ga_nil ⟨rfl, fun tt => ?_⟩))))))))))
      obtain ⟨t0, rfl⟩ := h0
      refine ge_catT (zs := #[.int 10 (Tt 0), .int 20 (Tt 1), .int 17 (Tt 2), .int ei (Tt 3), .int 64 (Tt 4), .int 0 (Tt 5), .bool false, .bool false, .int 0 t0, .bytes f.opt (Tt 7)]) (.tail _ (.head _)) (.head _) (List.cons_ne_nil _ _) (List.cons_ne_nil _ _) (Nat.le_of_ble_eq_true rfl) rfl fun D9 => ?_
      have hzz : z ≤ 1000000 := whole_z hwh hne (j2.len ▸ j3) (by omega)
      refine ga_cons (ge_type ok' (by k_is) (by boot_fast) (by decide) rfl (ga_cons (ge_comp (cl := [(Str.ofString "state", aS)]) (clos_two (by with_unfolding_all rfl) hcl) rfl (by decide) (by decide) rfl (ge_type ok' (by k_is) (by boot_fast) (by decide) rfl (ga_cons (ge_ev (P := IsI (z : Int)) (by walk_at "ev") fun vz hvz => ga_nil ?_))))))
      obtain ⟨tz9, rfl⟩ := hvz
      refine ge_range fun r9 t09 t29 => CompK.mk (fun k ys => IntsAre ys (((octsT (twNext dd h pl).places z).take k).map fun b => ((b.toNat : Nat) : Int))) (cit_range (.head _) hzz) .nil (fun k v ys C oC mC n' hk hv hR q1 q2 q3 q4 => ?_) fun D ys hR => ?_
      · obtain ⟨o, ho⟩ := Option.isSome_iff_exists.mp (ho2 z k hne hk)
        obtain ⟨to, hat3⟩ := j2.at ho
        exact evc_itemD (evc_itemK (evc_cellL (by exact rfl) (q4 _ (by walk_at "mm")) h3 (by exact rfl) (by exact rfl) (by decide) .mk) (q4 _ (by walk_at "mm")) (by exact rfl) .mk) (evc_name q1 q2 q3 rfl hv) (q4 _ (by walk_at "mm")) j1 hat3 (intsSnoc hR hk ho)
      · rw [octsT_all] at hR
        refine ga_nil (ge_bytes (.head _) hR (by rw [octsT_len]; exact hzz) fun t9 => ga_nil ⟨rfl, fun lo => ?_⟩)
        exact ⟨_, _, permTold, ret (.ref lo) (pre ++ post) _ ot8 [_, _] (by rw [List.map_append]; exact twp4 hno hbad (habs ▸ absT_mid rfl) hb hwh hf hne) ((R1.sub midSub).mono (Ext.app Ext.rfl)) (.told (.head _) (.tail _ (.head _))) hd8⟩
  intro _ hw
  obtain ⟨l2, hl2⟩ : ∃ l2, l2 = pre ++ ⟨ei, sx, pd, nn, tb, ta, ev, fv, po, kv, twNext dd h pl⟩ :: post := ⟨_, rfl⟩
  have R2 : TwsIn PR w im l2 := hl2 ▸ R1.swap rfl ⟨j1, j2, hen, hfi, z4⟩
  have d2 : ot1.IsDictOf (intKind PR w) (tkv l2) := by refine dictSwap hl2 ?_ ?_ hd1 <;> rfl
  have n2 : l2.length ≤ 1000 := hl2 ▸ swapLen hz1
  have a2 : TwPutR most mo (l.map absT) ei h pl now (roomT mo (l2.map absT)) none := hl2 ▸ absT_mid rfl ▸ twp5 hno hbad (habs ▸ absT_mid rfl) hb hw
  have b2 : ∀ q ∈ l2, q.kv.length ≤ 1000000 := hl2 ▸ small2G hdd habs R1 (show kv.length ≤ 1000000 by omega)
  refine GS.pp (n' := (aS, o3) :: (aT, oT) :: (tw, ot1) :: (feetG tft l2 ++ rest)) (.cons _ (.cons _ (permTw hl2).symm)) ?_
  clear hl2 hd1 R1 habs hz1 j1 j2 j3 hen hfi z4 hat hb hw m1 m2 m4 hpz H hdo hdd
  refine gs_while (α := List TE × Obj) (fun a => (aS, o3) :: (aT, oT) :: (tw, a.2) :: (feetG tft a.1 ++ rest)) (fun k m a => All5 (k = a.1.length) (a.1.Sublist l2) (a.2.IsDictOf (intKind PR w) (tkv a.1)) (roomTE mo a.1 = roomTE mo l2) (m (Str.ofString "limits") = some (.ref lim))) l2.length (l2, ot1) rfl ⟨rfl, List.Sublist.refl _, d2, rfl, by walk_at "nm"⟩ ?_
  intro k m₂ ⟨l3, ot3⟩ ⟨k1, k2, k3, k4, k5⟩
  dsimp only at k1 k2 k3 k4 ⊢
  have R3 := R2.sub k2
  have n3 := Nat.le_trans k2.length_le n2
  refine ge_cmpT (ge_builtin ok' (by k_is) (by boot_fast) (by decide) rfl (ga_cons (ge_comp (cl := [(Str.ofString "twin", aT)]) (clos_two (by with_unfolding_all rfl) hcl) rfl (by decide) (by decide) rfl (ge_v (by walk_at "ev") (CompK.mk (fun k ys => IntsAre ys ((l3.take k).map fun e => (e.kv.length : Int))) (cit_tw (by walk_at "mm") lo k3 n3) .nil (fun k v ys C oC mC n' hk hv hR q1 q2 q3 q4 => ?_) fun D ys hR => ga_nil (ge_sum (.head _) (by rw [List.take_length] at hR; exact hR) fun v hv => ge_ev (P := IsI (mo : Int)) (by walk_at "ev") fun v2 h2 => Cp.ge cp_gt hv h2 ⟨_, rfl, ?_⟩))))))
  · obtain ⟨e, he, hi⟩ := hv
    have hm := List.mem_of_getElem? he
    have De := R3.each e hm
    have f1 := feetG_mem (ft := tft) hm _ (.head _)
    have f2 := feetG_mem (ft := tft) hm _ (.tail _ (.head _))
    refine (evc_lenD ok' (evc_itemK (evc_itemD (evc_cellL (by exact rfl) (q4 _ (by walk_at "mm")) hT (by exact rfl) (by exact rfl) (by decide) .mk) (evc_name q1 q2 q3 rfl hi) (q4 _ (by walk_at "mm")) k3 (tkv_at R3.nd hm rfl) .mk) (q4 _ (List.mem_cons_of_mem _ (List.mem_cons_of_mem _ (List.mem_cons_of_mem _ (List.mem_append_left _ f1))))) (by exact rfl) .mk) (q4 _ (List.mem_cons_of_mem _ (List.mem_cons_of_mem _ (List.mem_cons_of_mem _ (List.mem_append_left _ f2))))) De.lo De.dict (b2 e (k2.subset hm)) (by exact rfl) (by exact rfl)).mono fun y hy => ?_
    obtain ⟨t, rfl⟩ := hy
    exact intsTake he hR
  refine ifB _ (fun hb => ?_) fun hb => ?_
  · have hlt := roomLt R3 (of_decide_eq_true hb)
    obtain ⟨e3, r, rfl⟩ := roomNe hlt
    refine gs_expr rfl (ge_bmeth (by walk_at "ev") (bm_popD (by walk_at "mm") k3) (ga_cons (ge_itemK (ge_type ok' (by k_is) (by boot_fast) (by decide) rfl (ga_v (by walk_at "ev") (ga_nil (ge_listT (by walk_at "mm") lo k3 n3 fun D2 c2 ks hI => ?_)))))))
    obtain ⟨t0, kr, rfl⟩ := ints_head hI
    refine .mk rfl (.head _) rfl (ga_nil (ge_popD (fun o' => .tail (.tail (.tail (.tail .head)))) k3 .mk (tkv_at R3.nd (.head _) rfl) (by rw [tkv_len]; exact Nat.le_trans n3 (by decide)) fun ot4 hd4 => ?_))
    rw [tkv_drop0 R3.nd] at hd4
    refine GS.drop (nw := [_, _]) (GS.pp ((List.Perm.cons _ (.cons _ (permTw (pre := []) rfl))).trans permAB) (GS.drop (nw := [_, _]) (gs_nil (wk_next (α := List TE × Obj) r.length (r, ot4) (by rw [k1]; exact Nat.lt_succ_self _) ⟨rfl, .trans (List.sublist_cons_self _ _) k2, hd4, (roomTE_go hlt).symm.trans k4, by walk_at "nm"⟩))))
  · refine gs_ret (ge_v ev_none ⟨[_, _, _], _, .refl _, ret .none l3 none ot3 [] (roomEnd k4 (roomGe R3 (of_decide_eq_false hb)) ▸ a2) R3 (.none rfl) k3⟩)
end
section
theorem bigOk (c : Int) : 0 ≤ (if -1 - c > c then -1 - c else c) := by split <;> omega
theorem srcOk {x y : Int} {t u : Tok} {n : Nat} {p : Bool} {c k : Int} (hx : x = (if -1 - c > c then -1 - c else c) * (if p = true then 1 else 0)) (hy : y = k.fmod 2147483647) : SrcIs (W.listOf #[.int x t, .int y u] n) := by
  refine ⟨x, y, t, u, n, ⟨?_, ?_, ?_⟩, rfl⟩
  · rw [hx]
    exact Int.mul_nonneg (bigOk c) (by split <;> decide)
  · rw [hy]; exact fmod_lo (by decide)
  · rw [hy]; exact fmod_hi (by decide)
section
variable {w : World} {c : Cx} {sc : Scope} {m : Nms} {n : Led} {P : Value → Led → Prop} {sl : Addr} {vs : List Value} {ns : List Int} {xp pos : Pos} {e1 e2 : PySem.Expr}
theorem ev_lenBase {d u : Nat} (ok : CxOk w c sc d u) (a : EvP w c sc m n e1 (Is (.ref sl))) (hl : okG sc (Str.ofString "len") = true) (hL : c.h₀.IsList sl vs.toArray) (hz : vs.length ≤ 1000000)
    (s1 : ∀ env, starEach [e1] env = (false, eval e1 env) :: starEach [] env := by intro _; rfl) : EvP w c sc m n (.Call (.Name (Str.ofString "len") xp) [e1] [] pos) (IsI (vs.length : Int)) :=
  ev_b1 ok (by k_is) (by boot_fast) (by decide) hl a (fun v1 h1 => by
    obtain rfl := h1
    exact fun s Q E F N r => PyProof.Rows.len_list (items := vs.toArray) (stays_list (fun b o e => F.keep b o e) hL) (by rw [List.size_toArray]; omega) (by rw [List.size_toArray]; exact r _ _ _ _ ⟨.mk, rfl⟩ F N)) s1
theorem ev_itemBase {z i : Int} (a : EvP w c sc m n e1 (Is (.ref sl))) (b : EvP w c sc m n e2 (IsI z)) (h0 : 0 ≤ z) (hL : c.h₀.IsList sl vs.toArray) (hI : IntsAre vs ns) (hx : ns[z.toNat]? = some i) (hz : vs.length ≤ 1000000)
    (hs : ∀ l k u, subscripted e2 false (.ref l) (.int k u) = operate [.ref l, .int k u] (getItem (.ref l) (.int k u)) := by intro _ _ _; with_unfolding_all rfl) : EvP w c sc m n (.Subscript e1 e2 pos) (IsI i) := fun s Q E F N r =>
  Subscript_ (a s _ E F N fun v1 h1 tk1 p1 F N => b _ _ E F N fun v2 h2 tk2 ⟨t, p2⟩ F N => by
    obtain rfl : v1 = _ := p1
    subst p2
    have hlt : z.toNat < vs.length := hI.length ▸ (List.getElem?_eq_some_iff.mp hx).1
    have hv := List.getElem?_eq_getElem hlt
    obtain ⟨n1, tt, e9, hn⟩ := IntsAre.at hI z.toNat _ hv
    obtain rfl : i = n1 := Option.some.inj (hx.symm.trans hn)
    rw [e9] at hv
    have hl : Heap.IsList _ sl vs.toArray := stays_list (fun b o e => F.keep b o e) hL
    exact tail_any hl.typeIs slot_list_getitem.lookup (wpAny_getItem_list hl h0 (by omega) (by simpa using hv) (r _ _ _ .mk F N)) (hs _ _ _))
theorem bits01 {b : Bool} : Builtin.Int.intBits (if b = true then 1 else 0) ≤ 64 := by cases b <;> decide
theorem pool_g (ok : CxOk w c sc 2 40) (hL : c.h₀.IsList sl vs.toArray) (hI : IntsAre vs ns) (hz : vs.length ≤ 1000000) {v2 : Value} (h2 : IsI 0 v2) (ret : ∀ D o, SrcIs o → P (.ref D) ((D, o) :: n)) : GE w c sc m (call (.ref 390) [.ref sl, v2]) n P := by
  obtain ⟨t2, rfl⟩ := h2
  refine' g_enterK (d := 1) (u := 37) [(Str.ofString "script", .ref sl), (Str.ofString "k", .int 0 t2)] (by exact rfl) (ok.le rfl rfl) (by k_is) (by k_is) (by intro s; exact BindsTo.of_eq rfl) (by exact rfl) (by exact rfl) ?_
  intro c' hst ok'
  have hL' := stays_list hst hL
  clear hL
  refine gs_let rfl rfl (ge_ev ev_int fun v0 h0 => ?_)
  refine gs_join (α := Int × Value) (fun _ => n) (fun m a => All3 (IsI a.1 a.2) (m (Str.ofString "cell") = some a.2) (m (Str.ofString "k") = some (.int 0 t2))) ?_ ?_
  · refine gs_if0 (p := (0 : Int) < (vs.length : Int)) (ev_cmp (P1 := IsI 0) (P2 := IsI _) (by walk_at "ev") (ev_lenBase ok' (by walk_at "ev") rfl hL' hz) cp_lt) (fun hp => ?_) fun _ => gs_nil (jk_next (α := Int × Value) (_, _) ⟨h0, by walk_at "nm", by walk_at "nm"⟩)
    obtain ⟨i, hi⟩ : ∃ i, ns[0]? = some i := by
      have := hI.length
      cases ns with
      | nil => rw [this] at hp; exact absurd hp (by decide)
      | cons i r => exact ⟨i, rfl⟩
    exact gs_let rfl rfl (ge_ev (ev_itemBase (z := 0) (by walk_at "ev") (by walk_at "ev") (by decide) hL' hI hi hz) fun v hv => gs_nil (rk_next (gs_nil (jk_next (α := Int × Value) (i, v) ⟨hv, by walk_at "nm", by walk_at "nm"⟩))))
  intro m₁ ⟨i, v⟩ ⟨hi, m1, m2⟩
  dsimp only at hi m1 ⊢
  refine gs_let rfl rfl (ge_ev (ev_max ok' (ev_intI ok' (by walk_at "ev") rfl) (ev_intI ok' (by walk_at "ev") rfl) rfl) fun vb hb => ?_)
  refine gs_let rfl rfl (ge_ev (ev_mod (ev_intI ok' (ev_mulR (ev_add (ev_add (ev_add (ev_mod (ev_intI ok' (by walk_at "ev") rfl) (by walk_at "ev") (by decide)) (ev_mulR (ev_mulR (by walk_at "ev") (by walk_at "ev") (by decide)) (by walk_at "ev") (by decide))) (ev_mulR (by walk_at "ev") (by walk_at "ev") (by decide))) (by walk_at "ev")) (by walk_at "ev") (by decide)) rfl) (by walk_at "ev") (by decide)) fun vm hm => ?_)
  refine gs_ret (ge_list ok' (ga_cons (ge_ev (ev_mulR (by walk_at "ev") (ev_intB ok' (ev_cmpV (P1 := IsI _) (by walk_at "ev") (ev_pow (by walk_at "ev") (by walk_at "ev") (by decide) (by decide)) cp_ge) rfl) bits01) fun v1 h1 => ga_v (by walk_at "ev") (ga_nil ⟨rfl, fun D => ?_⟩))))
  obtain ⟨t1, rfl⟩ := h1
  obtain ⟨t3, rfl⟩ := hm
  exact ret D _ (srcOk rfl rfl)
end
end
section
theorem extC {p : Addr × Obj} {a b : Led} (h : Ext a b) : Ext (p :: a) (p :: b) := fun q hq => (List.mem_cons.mp hq).elim (fun e => e ▸ .head _) fun hq => .tail _ (h q hq)
noncomputable abbrev tail4 (s a c x : Addr × Obj) (F X : Led) : Led := s :: a :: c :: x :: (F ++ X)
theorem lawVz {vs : List Value} {ns : List Int} (h : IntsAre vs ns) (z : ¬ ((63 : Nat) : Int) < (ns.length : Int)) : vs.length ≤ 1000000 := by rw [h.length]; omega
theorem law_holds.tw12918768512746736669 : True := trivial
theorem law_holds.tw5772526114155515729 : True := trivial
set_option Elab.async true in
theorem law_holds : PySem.Challenge.rw_nu0133_01.Holds := by
  o_law
  refine PySem.W.holds_open (N := 6640) (LeftO.of_pieces (boot_open t1._proof_1_6 (of_decide_eq_true (id (Eq.refl true))) t1._proof_1_7) t1._proof_1_540 t1._proof_1_538 (of_decide_eq_true (id (Eq.refl true))) fun w => funext fun os => t1._proof_1_571 w os) (kHook t1.heap_1_1 as9 hook9).of (kHook t1.heap_1_1 as9 hook9).keeps (fun s e => xl_of s (Bool.and_eq_true_iff.mp e).left) XL.keeps (by rfl) (by rfl) (by rfl) (fun s e => recFacts_of (Bool.and_eq_true_iff.mp e).right) rfl (by assumption) (by decide +kernel) ⟨rfl, rfl, rfl, rfl, rfl, t1._proof_1_5⟩ ?hw ?hc
  case hw => w_witness2
  exact (by
  (k_go0; have flLawG := True.intro)
  rename World => ww
  rename Fr _ _ _ _ => F0
  rename Top _ _ _ _ _ _ => T0
  rename Below _ _ _ _ => B0
  rename IntsAre _ _ => I0
  rename (t1.heap_1_1 _).In _ => X0
  rename Heap.IsList _ _ _ => L0
  rename ¬ _ < _ => z0
  rename News _ _ _ _ => N0
  refine gs_go (d := 20) (u := 400) (l := [(Str.ofString "script", .ref _)]) (R := fun f _ _ => f = .ret (.bool true)) F0 N0 B0 X0 T0 L0 rfl (by decide) (by decide) ?_ ?_
  · rintro f m' n' h' tk' rfl F N
    k_steps
  have hvz := lawVz I0 z0
  intro c ok' hL
  refine GS.abs fun R0 hR0 => ?_
  refine gs_let rfl rfl (ge_call ok' (by k_is) (by k_is) rfl (ga_v (by walk_at "ev") (ga_cons (ge_ev (P := IsI 0) ev_int fun v2 h2 => ga_nil (pool_g (ok'.le rfl rfl) hL I0 hvz h2 fun src o1 hs1 => ?_)))))
  refine gs_let rfl rfl (ge_list ok' (ga_cons (ge_call ok' (by k_is) (by k_is) rfl (ga_v (by walk_at "ev") (ga_cons (ge_bin (ge_ev (P := IsI 20) ev_int fun va ha => ge_call ok' (by k_is) (by k_is) rfl (ga_v (by walk_at "ev") (ga_cons (ge_ev (P := IsI 28) ev_int fun vb hb => ga_nil (take_g (f := fun o' => [(src, o')]) (ok'.le rfl rfl) (fun o' => .head) hs1 hb (by decide) (by decide) fun z1 vz1 o2 hz1 a1 a2 hs2 => ge_addI ha hz1 fun v8 h8 => ga_nil (octets_g (f := fun o' => [(src, o')]) (ok'.le rfl rfl) (fun o' => .head) hs2 h8 (by omega) fun b1 tb1 o3 hz1 hs3 => ?_))))))))))))
  refine ga_cons (ge_call ok' (by k_is) (by k_is) rfl (ga_v (by walk_at "ev") (ga_cons (ge_bin (ge_ev (P := IsI 17) ev_int fun va ha => ge_call ok' (by k_is) (by k_is) rfl (ga_v (by walk_at "ev") (ga_cons (ge_ev (P := IsI 12) ev_int fun vb hb => ga_nil (take_g (f := fun o' => [(src, o')]) (ok'.le rfl rfl) (fun o' => .head) hs3 hb (by decide) (by decide) fun z2 vz2 o4 hz2 a3 a4 hs4 => ge_addI ha hz2 fun v8 h8 => ga_nil (octets_g (f := fun o' => [(src, o')]) (ok'.le rfl rfl) (fun o' => .head) hs4 h8 (by omega) fun b2 tb2 o5 hz3 hs5 => ga_nil ⟨rfl, fun lp => ?_⟩))))))))))
  have y1 : b1.size ≤ 47 := by omega
  have y2 : b2.size ≤ 47 := by omega
  clear hz1 hz3 a1 a2 a3 a4 hs1 hs2 hs3 hs4 h8 ha hb
  refine gs_let rfl rfl (ge_call ok' (by k_is) (by k_is) rfl (ga_v (by walk_at "ev") (ga_cons (ge_list ok' (ga_y ev_bytes fun ta => ga_cons (ge_call0 ok' (by k_is) (by k_is) rfl (alert_g (ok'.le rfl rfl) fun tc => ga_cons (ge_call0 ok' (by k_is) (by k_is) rfl (route_g (ok'.le rfl rfl) fun td => ga_nil ⟨rfl, fun L1 => ga_nil (one_h (f := fun o' => [(lp, _), (src, o')]) (ok'.le rfl rfl) (fun o' => .tail .head) hs5 (Nat.le_of_ble_eq_true rfl) (Nat.le_of_ble_eq_true rfl) fun v idx o6 _ hv hs6 => ?_)⟩)))))))))
  obtain ⟨b, tb9, rfl, hb⟩ := oneOpt3 hv
  clear hv
  refine GS.drop (nw := [_]) ?_
  refine gs_let rfl rfl (ge_call ok' (by k_is) (by k_is) rfl (ga_cons (ge_ev (P := IsI 7) ev_int fun v1 h1 => ga_cons (ge_cmp (ge_call ok' (by k_is) (by k_is) rfl (ga_v (by walk_at "ev") (ga_cons (ge_ev (P := IsI 3) ev_int fun vb hb3 => ga_nil (take_g (f := fun o' => [(lp, _), (src, o')]) (ok'.le rfl rfl) (fun o' => .tail .head) hs6 hb3 (by decide) (by decide) fun z2 vz2 o7 hz2 c1 c2 hs7 => ge_ev (P := IsI 0) ev_int fun va ha => Cp.ge cp_eq hz2 ha ?_)))))))))
  refine ga_cons (ge_bin (ge_ev (P := IsI 8) ev_int fun vm hm => ge_call ok' (by k_is) (by k_is) rfl (ga_v (by walk_at "ev") (ga_cons (ge_ev (P := IsI 3) ev_int fun vb hb3 => ga_nil (take_g (f := fun o' => [(lp, _), (src, o')]) (ok'.le rfl rfl) (fun o' => .tail .head) hs7 hb3 (by decide) (by decide) fun z3 vz3 o8 hz3 c3 c4 hs8 => ge_mulI hm hz3 (by decide) fun v9 h9 => ga_v (by walk_at "ev") (ga_nil (header_g (ok'.le rfl rfl) h1 h9 .mk fun x dx T7 => ?_))))))))
  refine gs_if20 (ge_notT (ge_test rfl (ge_call ok' (by k_is) (by k_is) rfl (ga_v (by walk_at "ev") (ga_v (by walk_at "ev") (ga_cons (ge_bin (ge_ev (P := IsI 36) ev_int fun va ha => ge_call ok' (by k_is) (by k_is) rfl (ga_v (by walk_at "ev") (ga_cons (ge_ev (P := IsI 30) ev_int fun vb hb3 => ga_nil (take_g (f := fun o' => [_, _, (lp, _), (src, o')]) (ok'.le rfl rfl) (fun o' => .tail (.tail (.tail .head))) hs8 hb3 (by decide) (by decide) fun z4 vz4 o9 hz4 c5 c6 hs9 => ge_addI ha hz4 fun v10 h10 => ga_nil ?_))))))))))))
  obtain ⟨M, hM, hM2⟩ := lawM c5 c6
  refine cut_right_g (ok'.le rfl rfl) ⟨dx, T7, .head _, .tail _ (.head _)⟩ Ext.rfl hb (Nat.le_trans y1 (by decide)) (by omega) hM2 (h10.to hM) ⟨_, rfl, fun h => absurd h (by decide), fun _ => ?_⟩
  refine GS.drop (nw := [_, _]) ?_
  clear hM hM2 c1 c2 c3 c4 c5 c6 h1 h9 hs5 hs6 hs7 hs8 hb
  refine gs_let rfl rfl (ge_tuple ok' (ga_cons (ge_call ok' (by k_is) (by k_is) rfl (ga_v (by walk_at "ev") (ga_cons (ge_list ok' (ga_i ev_int fun ta => ga_i ev_int fun tb => ga_nil ⟨rfl, fun L2 => ga_nil (one_h (f := fun o' => [(lp, _), (src, o')]) (ok'.le rfl rfl) (fun o' => .tail .head) hs9 (Nat.le_of_ble_eq_true rfl) (Nat.le_of_ble_eq_true rfl) fun vl idx o10 _ hvl hs10 => ?_)⟩)))))))
  refine ga_cons (ge_call ok' (by k_is) (by k_is) rfl (ga_v (by walk_at "ev") (ga_cons (ge_list ok' (ga_i ev_int fun tc => ga_i ev_int fun td => ga_i ev_int fun te => ga_nil ⟨rfl, fun L3 => ga_nil (one_h (f := fun o' => [(L2, _), (lp, _), (src, o')]) (ok'.le rfl rfl) (fun o' => .tail (.tail .head)) hs10 (Nat.le_of_ble_eq_true rfl) (Nat.le_of_ble_eq_true rfl) fun vm idx2 o11 _ hvm hs11 => ga_i (j := ((96 : Nat) : Int)) ev_int fun t3 => ga_nil ⟨rfl, fun lim => ?_⟩)⟩)))))
  obtain ⟨tl, t1, rfl⟩ := one2 hvl
  obtain ⟨mo, t2, rfl⟩ := one3 hvm
  clear hvl hvm
  refine gs_two ok' rfl rfl (fun _ => rfl) (fun _ => rfl) (ga_cons (ge_call ok' (by k_is) (by k_is) rfl (ga_cons (ge_ev (P := IsI tl) (by walk_at "ev") fun v1 h1 => ga_cons (ge_ev (P := IsI (mo : Int)) (by walk_at "ev") fun v2 h2 => ga_cons (ge_ev (P := IsI ((96 : Nat) : Int)) (by walk_at "ev") fun v3 h3 => ga_nil (re_make_g (ok'.le rfl rfl) h1 h2 h3 fun rx rdx wd RT ep lo => ga_cons (ge_dict0 ok' fun tw ot lo2 hd => ga_nil ⟨_, _, rfl, ?_⟩))))))))
  refine gs_let rfl rfl (ge_list ok' (ga_cons (ge_call ok' (by k_is) (by k_is) rfl (ga_v (by walk_at "ev") (ga_cons (ge_ev (P := IsI 1) ev_int fun v1 h1 => ga_v (by walk_at "ev") (ga_nil (pieces_g (o := o11) (f := fun o' => [(tw, ot), (wd, wdObj PR ww [] ep), (rx, instObj 260 rdx), (rdx, reObj ww.params RT tl mo ((96 : Nat) : Int) wd), (lim, _), (L3, _), (L2, _), (lp, _), (src, o')]) (ok'.le rfl rfl) (fun o1 o2 => .tail (.tail (.tail (.tail (.tail (.tail (.tail (.tail .head)))))))) hs11 h1 y1 fun d1 r1 n1 o12 nw1 q1 q2 q3 => ?_))))))))
  refine ga_cons (ge_call ok' (by k_is) (by k_is) rfl (ga_v (by walk_at "ev") (ga_cons (ge_ev (P := IsI 2) ev_int fun v1 h1 => ga_v (by walk_at "ev") (ga_nil (pieces_g (o := o12) (f := fun o' => (d1, _) :: (nw1 ++ [(tw, ot), (wd, wdObj PR ww [] ep), (rx, instObj 260 rdx), (rdx, reObj ww.params RT tl mo ((96 : Nat) : Int) wd), (lim, _), (L3, _), (L2, _), (lp, _), (src, o')])) (ok'.le rfl rfl) (fun o1 o2 => .tail (.right (.tail (.tail (.tail (.tail (.tail (.tail (.tail (.tail .head)))))))))) q3 h1 y2 fun d2 r2 n2 o13 nw2 q4 q5 q6 => ga_nil ⟨rfl, fun rl => ?_⟩))))))
  refine gs_let rfl rfl (ge_i (j := 0) ev_int fun tz => ?_)
  refine GS.pp (permLaw (prog := PR) (w := ww)) ?_
  refine gs_forR (ge_type ok' (by k_is) (by boot_fast) (by decide) rfl (ga_i (j := 10) ev_int fun t8 => ga_nil ?_))
  refine ge_range fun r t0 t9 => ?_
  refine ForR.mk (α := LawB) (k := 10) (fun b => (r, rangeObj ((10 : Nat) : Int) t0 t8 t9) :: lawLed PR ww src d1 d2 wd tw b b.nw) (fun p b => p :: (r, rangeObj ((10 : Nat) : Int) t0 t8 t9) :: lawLed PR ww src d1 d2 wd tw b b.nw)
    (fun k m b => All3 (LawJ PR ww k 1 2 b b.nw) (GF ww.params RT tl mo t1 t2 t3 0 rx rdx wd lim rl d1 d2 b.nw) (∃ z tz, MF rl src lim rx tw z tz m)) ⟨o13, r1, n1, r2, n2, [], ep, [], ot, _⟩ rfl rfl (fun _ _ => .refl _) (.head _) (by decide)
    ⟨.zero q6 q1 q4 q2 q5 hd (fun p hp => .tail _ (List.mem_append_right _ (List.mem_append_left _ hp))) (fun p hp => .tail _ (List.mem_append_left _ hp)), ⟨.tail _ (List.mem_append_right _ (List.mem_append_right _ (.head _))), .tail _ (List.mem_append_right _ (List.mem_append_right _ (.tail _ (.head _)))), .tail _ (List.mem_append_right _ (List.mem_append_right _ (.tail _ (.tail _ (.head _))))), .head _⟩, 0, tz, by walk_at "nm", by walk_at "nm", by walk_at "nm", by walk_at "nm", by walk_at "nm", by walk_at "nm"⟩ ?_ ?_
  rotate_left 1
  · intro m₁ b _
    exact gs_ret (ge_v ev_bool (hR0 _ _ _ rfl))
  clear q1 q2 q3 q4 q5 q6 hs9 hs10 hs11 hd
  intro k v m₁ b p hk hv ⟨J, g, z, tz, M⟩
  obtain ⟨o, v1, n1, v2, n2, l, ep, lt, ot, nw⟩ := b
  obtain ⟨m1, m2, m3, m4, m5, m6⟩ := M
  dsimp only at J g
  obtain ⟨TL, hTL⟩ : ∃ TL, TL = p :: (r, rangeObj ((10 : Nat) : Int) t0 t8 t9) :: nw := ⟨_, rfl⟩
  have hXT : Ext nw TL := hTL ▸ fun q hq => .tail _ (.tail _ hq)
  refine gu_name rfl ?_
  refine GS.pp (n' := lawLed PR ww src d1 d2 wd tw ⟨o, v1, n1, v2, n2, l, ep, lt, ot, []⟩ TL) (hTL ▸ permTurn (N := [])) ?_
  refine gs_let rfl rfl (ge_call ok' (by k_is) (by k_is) rfl (ga_v (by walk_at "ev") (ga_v (by walk_at "ev") (ga_nil (one_m (f := fun o' => lawLed PR ww src d1 d2 wd tw ⟨o', v1, n1, v2, n2, l, ep, lt, ot, []⟩ TL) (ok'.le rfl rfl) (fun o' => .head) J.sr (fun o' => lawMem (hXT _ g.g4)) (Nat.le_of_ble_eq_true rfl) (Nat.le_of_ble_eq_true rfl) fun v9 idx o1 _ hv9 hs1 => ?_)))))
  obtain ⟨dr, rfl, hdr⟩ := oneRow hv9
  obtain ⟨dq, ir, iq, ⟨o1, vr, nr, vq, nq, l, ep, lt, ot, n0⟩, halt, J1, -, -, pm⟩ := LawJ.pick (src := src) (wd := wd) (tw := tw) (X := TL) (J.src hs1) hdr
  clear J hv9 hdr hs1
  refine GS.pp pm ?_
  clear pm
  refine GS.ppE (GS.abs fun R1 hR1 => ?_)
  have fin : ∀ (m' : Nms) (f : Flow) (b9 : LawB) (M X : Led), f = .next ∨ f = .cont → Tl nw TL M X → LawJ PR ww (k + 1) ir iq b9 M → GF ww.params RT tl mo t1 t2 t3 0 rx rdx wd lim rl d1 d2 M → (∃ z tz, MF rl src lim rx tw z tz m') → R1 f m' (lawLed PR ww src dr dq wd tw b9 X) := by
    intro m' f b9 M X hf hT J9 g9 M9
    obtain ⟨N, rfl, rfl⟩ := hT
    obtain ⟨b', J', -, pm⟩ := LawJ.back (src := src) (wd := wd) (tw := tw) (X := N ++ TL) J9 halt
    refine hR1 _ _ _ ⟨p :: (r, rangeObj ((10 : Nat) : Int) t0 t8 t9) :: lawLed PR ww src d1 d2 wd tw b' (N ++ nw), pm.trans (by rw [hTL]; exact permTurn.symm), ?_⟩
    rcases hf with rfl | rfl
    · exact tk_next (α := LawB) { b' with nw := N ++ nw } ⟨J'.nw, g9, M9⟩
    · exact tk_cont (α := LawB) { b' with nw := N ++ nw } ⟨J'.nw, g9, M9⟩
  clear hR1 halt hTL
  refine gs_ifb0 (evt_eqNil ok' (by walk_at "ev") (.tail _ (.head _))) (fun _ => gs_cont (rk_cont (fin _ _ ⟨o1, vr, nr, vq, nq, l, ep, lt, ot, n0⟩ nw TL (.inr rfl) ⟨[], rfl, rfl⟩ J1.step g ⟨z, tz, by walk_at "nm", by walk_at "nm", by walk_at "nm", by walk_at "nm", by walk_at "nm", by walk_at "nm"⟩))) fun hz0 => ?_
  obtain ⟨v, x, hv, h, pl, u', tt, n', rfl, ht, hx, hz⟩ := J1.p1.head (of_decide_eq_false hz0)
  refine gs_asg rfl (ge_bmeth (by walk_at "ev") (bm_pop ok' (.tail _ (.head _))) (ga_cons (ge_ev (P := IsI ((0 : Nat) : Int)) ev_int fun v0 h0 => ga_nil (ge_pop (i := 0) h0 hv (.tail .head) (Nat.le_trans J1.z1 (by decide)) (gu_tup2 (lawMem (hXT _ ht)) rfl rfl ?_)))))
  have J2 : LawJ PR ww k ir iq ⟨o1, vr.eraseIdx 0, nr + 1, vq, nq, l, ep, lt, ot, []⟩ nw := (J1.pop (k := 0) (nn := nr + 1)).nw
  clear hz0 hv ht J1
  refine gs_join (α := T4B) (fun a => lawLed PR ww src dr dq wd tw ⟨a.o, vr.eraseIdx 0, nr + 1, vq, nq, l, ep, lt, ot, []⟩ a.X)
    (fun m a => All8 (Tl nw TL a.M a.X) (LawJ PR ww k ir iq ⟨a.o, vr.eraseIdx 0, nr + 1, vq, nq, l, ep, lt, ot, []⟩ a.M) (HdrIs ww.params a.M a.x ir a.h.more (a.h.off : Int) a.h.opt) (a.pl.size ≤ 47) (GF ww.params RT tl mo t1 t2 t3 0 rx rdx wd lim rl d1 d2 a.M) (MF rl src lim rx tw z tz m) (m (Str.ofString "head") = some (.ref a.x)) (m (Str.ofString "octets") = some (.bytes a.pl a.pt))) ?_ ?_
  · refine GS.abs fun R2 hR2 => ?_
    refine gs_if20 (ge_cmpT (ge_call ok' (by k_is) (by k_is) rfl (ga_v (by walk_at "ev") (ga_cons (ge_ev (P := IsI 3) ev_int fun vb hb3 => ga_nil (take_g (f := fun o' => lawLed PR ww src dr dq wd tw ⟨o', vr.eraseIdx 0, nr + 1, vq, nq, l, ep, lt, ot, []⟩ TL) (ok'.le rfl rfl) (fun o' => .head) J2.sr hb3 (by decide) (by decide) fun z4 vz4 o2 hz4 c1 c2 hs2 => ge_ev (P := IsI 0) ev_int fun va ha => Cp.ge cp_eq hz4 ha ⟨_, rfl, fun hb => ?_, fun hb => ?_⟩))))))
    · refine gs_asg rfl (ge_call ok' (by k_is) (by k_is) rfl (ga_v (by walk_at "ev") (ga_cons (ge_tuple ok' (ga_v (by walk_at "ev") (ga_v (by walk_at "ev") (ga_nil ⟨rfl, fun tp => ga_nil (bent_g (f := fun o' => (tp, tupOf [.ref x, .bytes pl u'].toArray 0) :: lawLed PR ww src dr dq wd tw ⟨o', vr.eraseIdx 0, nr + 1, vq, nq, l, ep, lt, ot, []⟩ TL) (im := (tp, tupOf [.ref x, .bytes pl u'].toArray 0) :: nw) (i := ir) (sp := ⟨h.more, (h.off : Int), h.opt, pl⟩) (ok'.le rfl rfl) (fun o' => .tail .head) hs2 (extC fun q hq => lawMem (hXT _ hq)) (fun o' => extC fun q hq => lawMem (hXT _ hq)) ⟨tp, x, _, _, rfl, .head _, hx.mono fun q hq => .tail _ hq⟩ (Nat.le_trans hz (by decide)) fun v sp' o9 new b1 b2 b3 => ?_)⟩)))))))
      obtain ⟨tq, x', h', pl', u9, n9, rfl, ht', hx', hz'⟩ := bentPiece b1 b2 hz
      have ht9 := Ext.app2 (c := new) (extC (p := (tp, tupOf [.ref x, .bytes pl u'].toArray 0)) fun q hq => lawMem (s := (src, o9)) (a := (dr, W.listOf (vr.eraseIdx 0).toArray (nr + 1))) (c := (dq, W.listOf vq.toArray nq)) (x := (wd, wdObj PR ww (wsOf l) ep)) (t := (tw, ot)) (F := feet ww.params 96 l) (G := feetG tft lt) (hXT q hq)) _ ht'
      refine gu_tup2 ht9 rfl rfl ?_
      rw [List.append_cons] at hx'
      refine GS.pp ((List.Perm.of_eq (List.append_cons ..)).trans permNew) (gs_nil (rk_next (gs_nil (hR2 _ _ _ (jk_next (α := T4B) ⟨o9, x', h', pl', u9, (new ++ [_]) ++ nw, (new ++ [_]) ++ TL⟩ ⟨⟨_, rfl, rfl⟩, (J2.src b3).mono (Ext.app Ext.rfl), hx', hz', g.mono (Ext.app Ext.rfl), ⟨by walk_at "nm", by walk_at "nm", by walk_at "nm", by walk_at "nm", by walk_at "nm", by walk_at "nm"⟩, by walk_at "nm", by walk_at "nm"⟩)))))
    · exact gs_nil (hR2 _ _ _ (jk_next (α := T4B) ⟨o2, x, h, pl, u', nw, TL⟩ ⟨⟨[], rfl, rfl⟩, J2.src hs2, hx, hz, g, ⟨by walk_at "nm", by walk_at "nm", by walk_at "nm", by walk_at "nm", by walk_at "nm", by walk_at "nm"⟩, by walk_at "nm", by walk_at "nm"⟩))
  clear m1 m2 m3 m4 m5 m6 J2 hx hz g
  intro m₂ ⟨o2, x, h, pl, pt, M, X⟩ ⟨hT, J, hx, hz, g, ⟨m1, m2, m3, m4, m5, m6⟩, mh, mo8⟩
  dsimp only at hT J hx hz g mh mo8 ⊢
  have hk9 : k ≤ 9 := Nat.le_of_lt_succ hk
  have hX := hT.ext hXT
  have g1 := hX _ g.g1
  have g2 := hX _ g.g2
  refine gs_let rfl rfl (ge_meth ok' (by walk_at "ev") (by walk_at "mm") (by walk_at "mm") m260_put rn_put (ga_v (by walk_at "ev") (ga_v (by walk_at "ev") (ga_v (by walk_at "ev") (ga_nil (GE.ppI permW (re_put_g (im := M) (i := ir) (h := h) (l := l) (mo := mo) (ok'.le rfl rfl) lo (fun q hq => .tail _ (.tail _ (.tail _ (.tail _ (List.mem_append_right _ (hX q hq)))))) g.g1 g.g2 J.re (Nat.le_trans J.len (Nat.le_trans hk9 (by decide))) hx (Nat.le_trans hz (by decide)) (rel_dims J.rel hk9) (rel_hdo J.rel hk9) fun v5 l2 out ep2 new r1 r4 r5 => ?_)))))))
  have hnd := reNd J.re
  have hlen2 : l2.length ≤ k + 1 := by
    have := put_len r1
    rw [List.length_map, List.length_map] at this
    exact Nat.le_trans this (Nat.succ_le_succ J.len)
  have hT2 := hT.grow (A := new)
  have hMM : Ext M (new ++ M) := Ext.app Ext.rfl
  refine GS.pp permWo ?_
  clear hX g1 g2 hT
  generalize new ++ M = M2 at r4 r5 hT2 hMM
  generalize new ++ X = X2 at hT2
  have hX := hT2.ext hXT
  replace g := g.mono hMM
  have hx2 := hx.mono hMM
  have gh := hx2
  obtain ⟨dx2, Tx2, k1, k2⟩ := gh
  replace k1 := hX _ k1
  replace k2 := hX _ k2
  have g3 := hX _ g.g3
  refine gs_joinN (α := List TE × Obj × Led × Led) (fun a => lawLed PR ww src dr dq wd tw ⟨o2, vr.eraseIdx 0, nr + 1, vq, nq, l2, ep2, a.1, a.2.1, []⟩ a.2.2.2) (fun a => All3 (Tl nw TL a.2.2.1 a.2.2.2) (LawJ PR ww (k + 1) ir iq ⟨o2, vr.eraseIdx 0, nr + 1, vq, nq, l2, ep2, a.1, a.2.1, []⟩ a.2.2.1) (Ext M2 a.2.2.1)) ?_ ?_
  · refine GS.abs fun R2 hR2 => ?_
    have hzt : lt.length ≤ 900 := by
      have := J.rel.len
      rw [List.length_map, List.length_map] at this
      exact this ▸ Nat.le_trans J.len (Nat.le_trans hk9 (by decide))
    cases out with
    | none =>
      obtain rfl : v5 = .none := r5
      refine gs_if20 (ge_cmpT (ge_ifexp (b := true) (by walk_at "evt") (fun _ => ge_v ev_none ?_) (fun h => Bool.noConfusion h)))
      refine ge_call ok' (by k_is) (by k_is) rfl (ga_v (by walk_at "ev") (ga_v (by walk_at "ev") (ga_v (by walk_at "ev") (ga_v (by walk_at "ev") (ga_v (by walk_at "ev") (ga_nil (GE.ppI permT (tw_put_g (im := M2) (i := ir) (h := h) (l := lt) (mo := mo) (most := 96) (ok'.le rfl rfl) lo2 J.dict (fun q hq => .tail _ (.tail _ (.tail _ (.tail _ (List.mem_append_right _ (hX q hq)))))) g.g3 (J.tws.mono hMM) hzt hx2 (Nat.le_trans hz (by decide)) (tw_dims J.rel) (fun a b => rel_hdoT J.rel a b) fun v6 lt2 out2 ot2 new2 q1 q4 q5 q6 => ?_))))))))
      obtain ⟨R', rfl⟩ := rel_put J.rel hnd r1 q1
      obtain rfl := tOutNone q5
      refine Cp.ge cp_neNN rfl rfl ⟨_, rfl, fun h => Bool.noConfusion h, fun _ => ?_⟩
      exact GS.pp permTo (gs_nil (hR2 _ _ _ (jn_next (α := List TE × Obj × Led × Led) (lt2, ot2, new2 ++ M2, new2 ++ X2) ⟨hT2.grow, ⟨J.sr, (J.p1.mono hMM).mono (Ext.app Ext.rfl), (J.p2.mono hMM).mono (Ext.app Ext.rfl), J.z1, J.z2, r4.mono (Ext.app Ext.rfl), q4, R', q6, hlen2⟩, Ext.app Ext.rfl⟩)))
    | some sp =>
      obtain ⟨t9, x9, n9, u9, rfl, p1, dx9, T9, p2, p3⟩ := r5
      replace p1 := hX _ p1
      replace p2 := hX _ p2
      replace p3 := hX _ p3
      refine gs_if20 (ge_cmpT (ge_ifexp (b := false) (by walk_at "evt") (fun h => Bool.noConfusion h) (fun _ => ge_list ok' (ga_cons (ge_call ok' (by k_is) (by k_is) rfl (ga_v (by walk_at "ev") (ga_nil (told_g (ok'.le rfl rfl) ⟨dx9, T9, by walk_at "mm", by walk_at "mm"⟩ fun t8 T8 k8 => ga_v (by walk_at "ev") (ga_nil ⟨rfl, fun l9 => ?_⟩)))))))))
      refine ge_call ok' (by k_is) (by k_is) rfl (ga_v (by walk_at "ev") (ga_v (by walk_at "ev") (ga_v (by walk_at "ev") (ga_v (by walk_at "ev") (ga_v (by walk_at "ev") (ga_nil (GE.ppI permT2 (tw_put_g (im := M2) (i := ir) (h := h) (l := lt) (mo := mo) (most := 96) (ok'.le rfl rfl) lo2 J.dict (fun q hq => .tail _ (.tail _ (.tail _ (.tail _ (.tail _ (.tail _ (List.mem_append_right _ (hX q hq)))))))) g.g3 (J.tws.mono hMM) hzt hx2 (Nat.le_trans hz (by decide)) (tw_dims J.rel) (fun a b => rel_hdoT J.rel a b) fun v6 lt2 out2 ot2 new2 q1 q4 q5 q6 => ?_))))))))
      obtain ⟨R', rfl⟩ := rel_put J.rel hnd r1 q1
      refine ge_neOut (sp := sp) (led := new2 ++ M2) (ok'.le (d' := 1) (u' := 1) rfl rfl) (.tail _ (List.mem_append_right _ (List.mem_append_right _ (.head _)))) (.tail _ (List.mem_append_right _ (List.mem_append_right _ (.tail _ (.head _))))) q5 (fun q hq => .tail _ (List.mem_append_right _ (Ext.app2 (fun q hq => .tail _ (.tail _ (.tail _ (.tail _ (.tail _ (.tail _ (List.mem_append_right _ (hX q hq)))))))) q hq))) ⟨_, rfl, fun h => Bool.noConfusion h, fun _ => ?_⟩
      exact GS.pp permTo2 (GS.drop (nw := [_, _]) (gs_nil (hR2 _ _ _ (jn_next (α := List TE × Obj × Led × Led) (lt2, ot2, new2 ++ M2, new2 ++ X2) ⟨hT2.grow, ⟨J.sr, (J.p1.mono hMM).mono (Ext.app Ext.rfl), (J.p2.mono hMM).mono (Ext.app Ext.rfl), J.z1, J.z2, r4.mono (Ext.app Ext.rfl), q4, R', q6, hlen2⟩, Ext.app Ext.rfl⟩))))
  clear r1 r4 r5 hnd k1 k2 g3 hX hx hx2 hz mh mo8 J
  intro ⟨lt2, ot2, M3, X3⟩ ⟨hT3, J3, hM3⟩
  dsimp only at hT3 J3 hM3 ⊢
  replace g := g.mono hM3
  clear hM3 hT2 hMM
  have hX3 := hT3.ext hXT
  have hzt : lt2.length ≤ 900 := by
    have := J3.rel.len
    rw [List.length_map, List.length_map] at this
    exact this ▸ Nat.le_trans hlen2 (Nat.le_trans (Nat.succ_le_succ hk9) (by decide))
  refine gs_let rfl rfl (ge_bin (ge_v (by walk_at "ev") (ge_call ok' (by k_is) (by k_is) rfl (ga_v (by walk_at "ev") (ga_cons (ge_list ok' (ga_i ev_int fun ta => ga_i ev_int fun tb => ga_i ev_int fun tc => ga_i ev_int fun td => ga_i ev_int fun te => ga_nil ⟨rfl, fun L5 => ga_nil (one_h (f := fun o' => lawLed PR ww src dr dq wd tw ⟨o', vr.eraseIdx 0, nr + 1, vq, nq, l2, ep2, lt2, ot2, []⟩ X3) (ok'.le rfl rfl) (fun o' => .head) J3.sr (Nat.le_of_ble_eq_true rfl) (Nat.le_of_ble_eq_true rfl) fun v idx o5 _ hv hs5 => ?_)⟩)))))))
  obtain ⟨n9, t9, rfl⟩ := oneNow hv
  refine ge_addI .mk .mk fun vz hvz => ?_
  obtain ⟨tz2, rfl⟩ := hvz
  clear hv
  generalize z + n9 = z2
  refine GS.drop (nw := [_]) ?_
  have g1 := hX3 _ g.g1
  have g2 := hX3 _ g.g2
  refine gs_compU (cl := []) (by with_unfolding_all rfl) (by with_unfolding_all rfl) rfl (by decide) (by decide) rfl rfl (by decide) rfl (GE.pp (ge_meth ok' (by walk_at "ev") (by walk_at "mm") (by walk_at "mm") m260_expire rn_expire (ga_v (by walk_at "ev") (ga_nil (GE.ppI permW (re_expire_g (im := M3) (mo := (mo : Int)) (ok'.le rfl rfl) lo (fun q hq => .tail _ (.tail _ (.tail _ (.tail _ (List.mem_append_right _ (hX3 q hq)))))) g.g1 g.g2 J3.re (Nat.le_trans hlen2 (Nat.le_trans (Nat.succ_le_succ hk9) (by decide))) (rel_dims2 J3.rel (Nat.succ_le_succ hk9)) fun fl vs nv ep3 new q1 q2 => ⟨_, permWo, ?_⟩))))))
  refine .mk (fun i ys nw => AllAre (PGone (nw ++ (new ++ M3))) ys (((goneW tl z2 l2).map absE).take i)) rfl (lawMem (List.mem_append_left _ q1)) (gone_len q2 hlen2 hk) trivial ?_ ?_
  · intro i v ys nw' hv hR
    obtain ⟨y, hy, t9, fv, n9, u9, oct, rfl, p1, p2, p3⟩ := q2.at (by simpa using hv)
    refine ⟨t9, fv, .bytes oct.toArray u9, n9, rfl, lawMem (Ext.app2 hX3 _ p1), fun C oC mC n' hm hn h1 h2 hsub => gl_list ok' (gl_cons ?_)⟩
    cases hfi : y.2.first with
    | none =>
      rw [hfi] at p2
      obtain rfl : fv = .none := p2
      refine gl_ifexp (b := true) (evc_cmpT (P1 := Is .none) (P2 := Is .none) (evc_name hm hn h1 rfl .mk) evc_none cp_is_nn) (fun _ => gc_none (gl_cons (gc_ev (P := Is (.bytes oct.toArray u9)) (evc_name hm hn h2 rfl .mk) fun v8 h8 => gl_nil ⟨rfl, fun t => ⟨[_], rfl, ?_⟩⟩))) (fun h => Bool.noConfusion h)
      obtain rfl : v8 = _ := h8
      exact goneAdd [_] hR hy (.mk rfl (.head _) (by rw [hfi]; rfl) p3)
    | some f =>
      rw [hfi] at p2
      obtain ⟨x9, rfl, dx9, T9, k1, k2⟩ := p2
      refine gl_ifexp (b := false) (evc_cmpT (P1 := Is (.ref x9)) (P2 := Is .none) (evc_name hm hn h1 rfl .mk) evc_none cp_is_rn) (fun h => Bool.noConfusion h) (fun _ => gc_call ok' (by k_is) (by k_is) rfl rfl (by decide) (gl_cons (gc_ev (P := Is (.ref x9)) (evc_name hm hn h1 rfl .mk) fun v7 h7 => gl_nil ?_)))
      obtain rfl : v7 = _ := h7
      refine told_g (ok'.le rfl rfl) ⟨dx9, T9, hsub _ (List.mem_append_right _ (lawMem (Ext.app2 hX3 _ k1))), hsub _ (List.mem_append_right _ (lawMem (Ext.app2 hX3 _ k2)))⟩ fun t8 T8 k8 => gl_cons (gc_ev (P := Is (.bytes oct.toArray u9)) (evc_name (.tail _ hm) hn h2 rfl .mk) fun v8 h8 => gl_nil ⟨rfl, fun t => ⟨[_, _], rfl, ?_⟩⟩)
      obtain rfl : v8 = _ := h8
      exact goneAdd [_, _] hR hy (.mk rfl (.head _) (by rw [hfi]; exact ⟨t8, T8, k8, rfl, .tail _ (.head _)⟩) p3)
  intro D ys nw' hR
  replace hR := goneAll hR q2
  clear q1 q2 g1 g2
  refine GS.pp (permNew (prog := PR) (w := ww) (src := src) (d1 := dr) (d2 := dq) (wd := wd) (tw := tw) (A := (D, LCg.lst ys) :: nw') (b := ⟨o5, vr.eraseIdx 0, nr + 1, vq, nq, keepW tl z2 l2, ep3, lt2, ot2, []⟩) (X := new ++ X3)) ?_
  have hgD : (D, LCg.lst ys) ∈ ((D, LCg.lst ys) :: nw') ++ (new ++ X3) := .head _
  have hT4 := (hT3.grow (A := new)).grow (A := (D, LCg.lst ys) :: nw')
  have hM4 : Ext M3 (((D, LCg.lst ys) :: nw') ++ (new ++ M3)) := fun q hq => List.mem_append_right _ (List.mem_append_right _ hq)
  replace hR := hR.imp (PGone.mono (Ext.cons' (q := (D, LCg.lst ys))))
  rw [← List.cons_append] at hR
  generalize ((D, LCg.lst ys) :: nw') ++ (new ++ M3) = M4 at hR hT4 hM4
  generalize ((D, LCg.lst ys) :: nw') ++ (new ++ X3) = X4 at hT4 hgD
  have hX4 := hT4.ext hXT
  replace g := g.mono hM4
  have g1 := hX4 _ g.g1
  have g2 := hX4 _ g.g2
  have hRG := rel_gone (tl := tl) (z := z2) J3.rel
  refine gs_if20 (ge_orT (ge_cmpT (ge_v (by walk_at "ev") (ge_call ok' (by k_is) (by k_is) rfl (ga_v (by walk_at "ev") (ga_v (by walk_at "ev") (ga_v (by walk_at "ev") (ga_nil (GE.ppI permT (tw_expired_g (im := M4) (mo := mo) (most := 96) (ok'.le rfl rfl) lo2 J3.dict (fun q hq => .tail _ (.tail _ (.tail _ (.tail _ (List.mem_append_right _ (hX4 q hq)))))) g.g3 (J3.tws.mono hM4) hzt (tw_dims J3.rel) fun fl2 vs2 n2 ot3 new3 q3 q4 q5 => ?_))))))))))
  have hE : Ext M4 (tail4 (src, o5) (dr, W.listOf (vr.eraseIdx 0).toArray (nr + 1)) (dq, W.listOf vq.toArray nq) (wd, wdObj PR ww (wsOf (keepW tl z2 l2)) ep3) (feet ww.params 96 (keepW tl z2 l2)) X4) := fun q hq => .tail _ (.tail _ (.tail _ (.tail _ (List.mem_append_right _ (hX4 q hq)))))
  refine ge_neGone (rn := k + 1) (led := M4) (led' := new3 ++ M4) (ok'.le (d' := 2) (u' := 2) rfl rfl) (.tail _ (List.mem_append_right _ (List.mem_append_right _ (.tail _ (.tail _ (.tail _ (.tail _ (List.mem_append_right _ hgD)))))))) (.tail _ (List.mem_append_right _ (List.mem_append_left _ q3))) hR q4 (fun q hq => .tail _ (List.mem_append_right _ (List.mem_append_right _ (hE q hq)))) (fun q hq => .tail _ (List.mem_append_right _ (Ext.app2 hE q hq))) hRG.2 ⟨_, rfl, fun h => Bool.noConfusion h, fun _ => ?_⟩
  have hw9 : ∀ (a : Addr × Obj) (A B : Led), (wd, wdObj PR ww (wsOf (keepW tl z2 l2)) ep3) ∈ a :: (A ++ (B ++ ((src, o5) :: (dr, W.listOf (vr.eraseIdx 0).toArray (nr + 1)) :: (dq, W.listOf vq.toArray nq) :: (wd, wdObj PR ww (wsOf (keepW tl z2 l2)) ep3) :: (feet ww.params 96 (keepW tl z2 l2) ++ X4)))) := fun _ _ _ => .tail _ (List.mem_append_right _ (List.mem_append_right _ (.tail _ (.tail _ (.tail _ (.head _))))))
  have hlk := hRG.1.len
  rw [List.length_map, List.length_map] at hlk
  have hkz : (keepW tl z2 l2).length ≤ k + 1 := Nat.le_trans (List.length_filter_le _ _) hlen2
  refine ge_cmpT (ge_meth0 ok' (by walk_at "ev") (by walk_at "mm") (by walk_at "mm") m260_count rn_count (re_count_g (im := M4) (ok'.le rfl rfl) lo (fun q hq => .tail _ (List.mem_append_right _ (List.mem_append_right _ (hE q hq)))) g.g1 g.g2 (hw9 _ _ _) (Nat.le_trans hkz (Nat.le_trans (Nat.succ_le_succ hk9) (by decide))) fun v8 hv8 => ge_ev (ev_lenDi ok' (by walk_at "ev") rfl (.head _) lo2 q5 (by rw [tkv_len, ← hlk]; exact Nat.le_trans hkz (Nat.le_trans (Nat.succ_le_succ hk9) (by decide)))) fun v9 hv9 => Cp.ge cp_ne hv8 hv9 ⟨_, rfl, fun h => absurd h ?_, fun _ => ?_⟩))
  · rw [tkv_len, hlk]
    simp
  refine GS.pp permTo (gs_nil (fin _ _ ⟨o5, vr.eraseIdx 0, nr + 1, vq, nq, keepW tl z2 l2, ep3, keepT tl z2 lt2, ot3, []⟩ (new3 ++ M4) (new3 ++ X4) (.inl rfl) hT4.grow ⟨hs5, (J3.p1.mono hM4).mono (Ext.app Ext.rfl), (J3.p2.mono hM4).mono (Ext.app Ext.rfl), J3.z1, J3.z2, ((J3.re.sub List.filter_sublist).mono hM4).mono (Ext.app Ext.rfl), ((J3.tws.sub List.filter_sublist).mono hM4).mono (Ext.app Ext.rfl), hRG.1, q5, hkz⟩ (g.mono (Ext.app Ext.rfl)) ⟨z2, tz2, by walk_at "nm", by walk_at "nm", by walk_at "nm", by walk_at "nm", by walk_at "nm", by walk_at "nm"⟩)))
end
end Mine
theorem PySem.Challenge.cw_nu0133_01_holds : PySem.Challenge.rw_nu0133_01.Holds :=
  Mine.law_holds
