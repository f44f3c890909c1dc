import PyProof.Rows.All
import Wide.All
import OpenK.AllK
import Wide.FinOn
import PySem.Challenge.RW_pc0209_01
open PySem PySem.W PyProof.Rows PySem.Calls
set_option Elab.async false
set_option maxRecDepth 100000
set_option maxHeartbeats 8000000
set_option linter.all false
set_option genSizeOf false
set_option genInjectivity false
namespace Mine.Internal
theorem nq : namesOk = namesOk := rfl
name_quick tw8937447431639356789 for namesOk by nq
name_quick tw2045330749376003669 for namesOk by nq
name_quick tw158934896996256981 for namesOk by nq
name_quick tw3176238210213784044 for namesOk by nq
name_quick tw15734692207193210668 for namesOk by nq
name_quick tw2398394478662280567 for namesOk by nq
name_quick tw18051937808593121655 for namesOk by nq
name_quick tw16661546809545866551 for namesOk by nq
name_quick tw7660085916273813719 for namesOk by nq
name_quick tw5730834048099734647 for namesOk by nq
name_quick tw14717973561887209431 for namesOk by nq
name_quick tw9455488729144714935 for namesOk by nq
name_quick tw8162424110392565431 for namesOk by nq
name_quick tw14090991181246177143 for namesOk by nq
name_quick tw6233525205836933719 for namesOk by nq
name_quick tw3552368552290982711 for namesOk by nq
name_quick tw13503222563597884919 for namesOk by nq
name_quick tw2775882350652854711 for namesOk by nq
name_quick tw7192508662284577454 for namesOk by nq
name_quick tw1931876349032974702 for namesOk by nq
name_quick tw1264546275008939374 for namesOk by nq
name_quick tw6634045127109524014 for namesOk by nq
name_quick tw11736717846565545518 for namesOk by nq
name_quick tw9836233593934212366 for namesOk by nq
name_quick tw647127146382244174 for namesOk by nq
name_quick tw8704301516355215673 for namesOk by nq
name_quick tw1581891858971636217 for namesOk by nq
name_quick tw8609703672757380441 for namesOk by nq
name_quick tw10184475428576297785 for namesOk by nq
name_quick tw16868449673623776185 for namesOk by nq
name_quick tw82794140796860313 for namesOk by nq
name_quick tw8231128971885614617 for namesOk by nq
name_quick tw1456114184466657520 for namesOk by nq
name_quick tw17255799041585258576 for namesOk by nq
name_quick tw6934651854527803664 for namesOk by nq
name_quick tw5620011848287487184 for namesOk by nq
name_quick tw15795541335138773200 for namesOk by nq
name_quick tw15846949230119213872 for namesOk by nq
name_quick tw11815030491418909328 for namesOk by nq
name_quick tw18084338331575568944 for namesOk by nq
name_quick tw7834709076537353616 for namesOk by nq
name_quick tw5680381962165715248 for namesOk by nq
name_quick tw9234581789739354416 for namesOk by nq
name_quick tw10552115820957210928 for namesOk by nq
name_quick tw12546123012864323739 for namesOk by nq
name_quick tw656218330950982011 for namesOk by nq
name_quick tw11986158549747164155 for namesOk by nq
name_quick tw14994818917750739931 for namesOk by nq
name_quick tw7265934134944952283 for namesOk by nq
name_quick tw4026361150047785330 for namesOk by nq
name_quick tw7704123655328064082 for namesOk by nq
name_quick tw15847870022166730130 for namesOk by nq
name_quick tw1769894272743102482 for namesOk by nq
name_quick tw15606305078752154642 for namesOk by nq
name_quick tw855434560546843602 for namesOk by nq
name_quick tw1201819310670022578 for namesOk by nq
name_quick tw10497937713941739602 for namesOk by nq
name_quick tw12414208913416094706 for namesOk by nq
name_quick tw17887935043825335986 for namesOk by nq
name_quick tw899976061257650066 for namesOk by nq
name_quick tw8066797730908573490 for namesOk by nq
name_quick tw14378002872937429917 for namesOk by nq
name_quick tw8480862110343703005 for namesOk by nq
name_quick tw16861373266081461469 for namesOk by nq
name_quick tw17076845009251068349 for namesOk by nq
name_quick tw4296615728074171805 for namesOk by nq
name_quick tw11568868220121604349 for namesOk by nq
name_quick tw15236359020482550013 for namesOk by nq
name_quick tw12419548342640408541 for namesOk by nq
name_quick tw13761097758284722132 for namesOk by nq
name_quick tw7745347264376203828 for namesOk by nq
name_quick tw16675941384385365684 for namesOk by nq
name_quick tw9940971310307681620 for namesOk by nq
name_quick tw13891524431301157204 for namesOk by nq
name_quick tw7864814483029425620 for namesOk by nq
name_quick tw18068913978902378484 for namesOk by nq
name_quick tw10566339975336575156 for namesOk by nq
name_quick tw1001965638251973727 for namesOk by nq
name_quick tw11212880527346181183 for namesOk by nq
name_quick tw4647880884826932031 for namesOk by nq
name_quick tw7689633203858399647 for namesOk by nq
name_quick tw9541059021462611446 for namesOk by nq
name_quick tw15105753599244977622 for namesOk by nq
name_quick tw14266869094377232470 for namesOk by nq
name_quick tw3862625743091869782 for namesOk by nq
name_quick tw1963538381651344694 for namesOk by nq
name_quick tw13556899401030560790 for namesOk by nq
name_quick tw5124455571073796982 for namesOk by nq
name_quick tw1681871025257683766 for namesOk by nq
name_quick tw3278290290407906113 for namesOk by nq
name_quick tw6873211242648757569 for namesOk by nq
name_quick tw13574542036879665473 for namesOk by nq
name_quick tw17372776767684082753 for namesOk by nq
name_quick tw9387335153853052472 for namesOk by nq
name_quick tw5218440773356086744 for namesOk by nq
name_quick tw5721145010603415224 for namesOk by nq
name_quick tw4146710182001077880 for namesOk by nq
name_quick tw3876585131823816760 for namesOk by nq
name_quick tw2791899183212552184 for namesOk by nq
name_quick tw14014625306950880344 for namesOk by nq
name_quick tw3897583723091125048 for namesOk by nq
name_quick tw6689224333639849987 for namesOk by nq
name_quick tw14917679961658978883 for namesOk by nq
name_quick tw1980065951896258115 for namesOk by nq
name_quick tw7884304593264598531 for namesOk by nq
name_quick tw3604505731898362371 for namesOk by nq
name_quick tw6850710170036280739 for namesOk by nq
name_quick tw2896878285529534947 for namesOk by nq
name_quick tw11609715013432240515 for namesOk by nq
name_quick tw13871293111307107619 for namesOk by nq
name_quick tw5622493831694263290 for namesOk by nq
name_quick tw9297686159045535066 for namesOk by nq
name_quick tw2494828111431418362 for namesOk by nq
name_quick tw12023297688784965082 for namesOk by nq
name_quick tw15044740630299119802 for namesOk by nq
name_quick tw7725615263586275354 for namesOk by nq
name_quick tw1151047199148732581 for namesOk by nq
name_quick tw2032967040731594917 for namesOk by nq
name_quick tw10328013601798995013 for namesOk by nq
name_quick tw18264405278369089061 for namesOk by nq
name_quick tw5981322547296791141 for namesOk by nq
name_quick tw3764159474827456572 for namesOk by nq
name_quick tw1554661150887613628 for namesOk by nq
name_quick tw17265668725271682620 for namesOk by nq
name_quick tw1285608350821578428 for namesOk by nq
name_quick tw4972565024431420028 for namesOk by nq
name_quick tw18002454799260890332 for namesOk by nq
name_quick tw7854436202256102023 for namesOk by nq
name_quick tw9297346728685962471 for namesOk by nq
name_quick tw13137488625138627783 for namesOk by nq
name_quick tw4444376900329554855 for namesOk by nq
name_quick tw16454472602511617863 for namesOk by nq
name_quick tw4888722980473425863 for namesOk by nq
name_quick tw11253654858782596999 for namesOk by nq
name_quick tw1422757324860467358 for namesOk by nq
name_quick tw4215815715534071966 for namesOk by nq
name_quick tw10483243556115494686 for namesOk by nq
name_quick tw12000443510711083657 for namesOk by nq
name_quick tw5089674986408345449 for namesOk by nq
name_quick tw10201178418830026985 for namesOk by nq
name_quick tw18167620069853891625 for namesOk by nq
name_quick tw9402497649041678217 for namesOk by nq
name_quick tw5339003735879325248 for namesOk by nq
name_quick tw10456347429367532000 for namesOk by nq
name_quick tw2995823921387779488 for namesOk by nq
name_quick tw14618947534419752544 for namesOk by nq
name_quick tw13095645614351540544 for namesOk by nq
name_quick tw91460741409293472 for namesOk by nq
name_quick tw612579822585444640 for namesOk by nq
name_quick tw13300708046337551552 for namesOk by nq
name_quick tw3007732794928452352 for namesOk by nq
name_quick tw6383412446642176960 for namesOk by nq
name_quick tw12744436583321090507 for namesOk by nq
name_quick tw15326383838318263307 for namesOk by nq
name_quick tw1320837809735666699 for namesOk by nq
name_quick tw2935403049379252203 for namesOk by nq
name_quick tw13136932055471085771 for namesOk by nq
name_quick tw3621314871126387851 for namesOk by nq
name_quick tw6580811466868261931 for namesOk by nq
name_quick tw10356996999043664619 for namesOk by nq
name_quick tw990931252279307787 for namesOk by nq
name_quick tw5740485616304358338 for namesOk by nq
name_quick tw16413103654359219042 for namesOk by nq
name_quick tw563615760992729602 for namesOk by nq
name_quick tw3783815370921859266 for namesOk by nq
name_quick tw4440539135079215949 for namesOk by nq
name_quick tw582763417579604813 for namesOk by nq
name_quick tw1700095789689532173 for namesOk by nq
name_quick tw1810560270367678541 for namesOk by nq
name_quick tw10952247490595208740 for namesOk by nq
name_quick tw14919507176090611876 for namesOk by nq
name_quick tw18301331633704426468 for namesOk by nq
name_quick tw2580451669301727108 for namesOk by nq
name_quick tw3946021400556373732 for namesOk by nq
name_quick tw661329470871197348 for namesOk by nq
name_quick tw13786353609707118212 for namesOk by nq
name_quick tw14867760062286009988 for namesOk by nq
name_quick tw8226125794411317956 for namesOk by nq
name_quick tw7266113344499383119 for namesOk by nq
name_quick tw16189040206931158671 for namesOk by nq
name_quick tw324682548199873871 for namesOk by nq
name_quick tw9250920297822835951 for namesOk by nq
name_quick tw17560824206610750927 for namesOk by nq
name_quick tw14576103421197235183 for namesOk by nq
name_quick tw3294955992818556838 for namesOk by nq
name_quick tw3043016604242672166 for namesOk by nq
name_quick tw1211765029694287142 for namesOk by nq
name_quick tw11196428939031868582 for namesOk by nq
name_quick tw15311580417266565286 for namesOk by nq
name_quick tw12439571202747903686 for namesOk by nq
name_quick tw13028511670584152017 for namesOk by nq
name_quick tw5066758711501585361 for namesOk by nq
name_quick tw6111891709796226065 for namesOk by nq
name_quick tw2475061696097563281 for namesOk by nq
name_quick tw6220887863483194993 for namesOk by nq
name_quick tw11489515532018362193 for namesOk by nq
name_quick tw11280408315915618033 for namesOk by nq
name_quick tw6658377446056241841 for namesOk by nq
name_quick tw7921677826277199153 for namesOk by nq
name_quick tw8055706472976551345 for namesOk by nq
name_quick tw10263041997622486449 for namesOk by nq
name_quick tw5158567330333030833 for namesOk by nq
name_quick tw13297820998888110193 for namesOk by nq
name_quick tw4240382028181187304 for namesOk by nq
name_quick tw5737468910503661192 for namesOk by nq
name_quick tw18316339143657092680 for namesOk by nq
name_quick tw12479032446003152456 for namesOk by nq
name_quick tw11569685053799331208 for namesOk by nq
name_quick tw9918079130023078344 for namesOk by nq
name_quick tw11761692716431900840 for namesOk by nq
name_quick tw10888272359287795784 for namesOk by nq
name_quick tw13917855118417693672 for namesOk by nq
name_quick tw1289545292012607955 for namesOk by nq
name_quick tw1078092966223000019 for namesOk by nq
name_quick tw5678261180762289619 for namesOk by nq
name_quick tw5962161411086437587 for namesOk by nq
name_quick tw14510263104193769299 for namesOk by nq
name_quick tw15371976594130074419 for namesOk by nq
name_quick tw300149526793321642 for namesOk by nq
name_quick tw8110442594034371754 for namesOk by nq
name_quick tw14522388950212680682 for namesOk by nq
name_quick tw1833865198610199178 for namesOk by nq
name_quick tw13963494009557953802 for namesOk by nq
name_quick tw14515037872464647658 for namesOk by nq
name_quick tw4001420159964456138 for namesOk by nq
name_quick tw3017273693270301035 for namesOk by nq
name_quick tw6758292222284037040 for namesOk by nq
open_top hd for PySem.Challenge.rw_pc0209_01
theorem fill_on : PySem.Challenge.rw_pc0209_01 = PySem.Challenge.rw_pc0209_01 ∧ hd.heap_39 = hd.heap_39 := by w_top off; k_fill; exact ⟨rfl, rfl⟩
def Sep : Prop := True
example : Sep := by w_top off; first | walk1 | trivial
theorem ex0_2 {A0 A1 : Prop} {G : Prop} (h : A0 ∧ A1) (K : A0 → A1 → G) : G := by obtain ⟨h0, h1⟩ := h; exact K h0 h1
theorem ex0_3 {A0 A1 A2 : Prop} {G : Prop} (h : A0 ∧ A1 ∧ A2) (K : A0 → A1 → A2 → G) : G := by obtain ⟨h0, h1, h2⟩ := h; exact K h0 h1 h2
theorem ex0_4 {A0 A1 A2 A3 : Prop} {G : Prop} (h : A0 ∧ A1 ∧ A2 ∧ A3) (K : A0 → A1 → A2 → A3 → G) : G := by obtain ⟨h0, h1, h2, h3⟩ := h; exact K h0 h1 h2 h3
theorem ex1_1 {α0 : Type} {A0 : α0 → Prop} {G : Prop} (h : ∃ a0, A0 a0) (K : ∀ a0, A0 a0 → G) : G := by obtain ⟨a0, h0⟩ := h; exact K a0 h0
theorem ex1_2 {α0 : Type} {A0 A1 : α0 → Prop} {G : Prop} (h : ∃ a0, A0 a0 ∧ A1 a0) (K : ∀ a0, A0 a0 → A1 a0 → G) : G := by obtain ⟨a0, h0, h1⟩ := h; exact K a0 h0 h1
theorem ex1_3 {α0 : Type} {A0 A1 A2 : α0 → Prop} {G : Prop} (h : ∃ a0, A0 a0 ∧ A1 a0 ∧ A2 a0) (K : ∀ a0, A0 a0 → A1 a0 → A2 a0 → G) : G := by obtain ⟨a0, h0, h1, h2⟩ := h; exact K a0 h0 h1 h2
theorem ex1_4 {α0 : Type} {A0 A1 A2 A3 : α0 → Prop} {G : Prop} (h : ∃ a0, A0 a0 ∧ A1 a0 ∧ A2 a0 ∧ A3 a0) (K : ∀ a0, A0 a0 → A1 a0 → A2 a0 → A3 a0 → G) : G := by obtain ⟨a0, h0, h1, h2, h3⟩ := h; exact K a0 h0 h1 h2 h3
theorem ex1_5 {α0 : Type} {A0 A1 A2 A3 A4 : α0 → Prop} {G : Prop} (h : ∃ a0, A0 a0 ∧ A1 a0 ∧ A2 a0 ∧ A3 a0 ∧ A4 a0) (K : ∀ a0, A0 a0 → A1 a0 → A2 a0 → A3 a0 → A4 a0 → G) : G := by obtain ⟨a0, h0, h1, h2, h3, h4⟩ := h; exact K a0 h0 h1 h2 h3 h4
theorem ex2_1 {α0 α1 : Type} {A0 : α0 → α1 → Prop} {G : Prop} (h : ∃ a0 a1, A0 a0 a1) (K : ∀ a0 a1, A0 a0 a1 → G) : G := by obtain ⟨a0, a1, h0⟩ := h; exact K a0 a1 h0
theorem ex2_2 {α0 α1 : Type} {A0 A1 : α0 → α1 → Prop} {G : Prop} (h : ∃ a0 a1, A0 a0 a1 ∧ A1 a0 a1) (K : ∀ a0 a1, A0 a0 a1 → A1 a0 a1 → G) : G := by obtain ⟨a0, a1, h0, h1⟩ := h; exact K a0 a1 h0 h1
theorem ex2_3 {α0 α1 : Type} {A0 A1 A2 : α0 → α1 → Prop} {G : Prop} (h : ∃ a0 a1, A0 a0 a1 ∧ A1 a0 a1 ∧ A2 a0 a1) (K : ∀ a0 a1, A0 a0 a1 → A1 a0 a1 → A2 a0 a1 → G) : G := by obtain ⟨a0, a1, h0, h1, h2⟩ := h; exact K a0 a1 h0 h1 h2
theorem ex2_4 {α0 α1 : Type} {A0 A1 A2 A3 : α0 → α1 → Prop} {G : Prop} (h : ∃ a0 a1, A0 a0 a1 ∧ A1 a0 a1 ∧ A2 a0 a1 ∧ A3 a0 a1) (K : ∀ a0 a1, A0 a0 a1 → A1 a0 a1 → A2 a0 a1 → A3 a0 a1 → G) : G := by obtain ⟨a0, a1, h0, h1, h2, h3⟩ := h; exact K a0 a1 h0 h1 h2 h3
theorem ex2_5 {α0 α1 : Type} {A0 A1 A2 A3 A4 : α0 → α1 → Prop} {G : Prop} (h : ∃ a0 a1, A0 a0 a1 ∧ A1 a0 a1 ∧ A2 a0 a1 ∧ A3 a0 a1 ∧ A4 a0 a1) (K : ∀ a0 a1, A0 a0 a1 → A1 a0 a1 → A2 a0 a1 → A3 a0 a1 → A4 a0 a1 → G) : G := by obtain ⟨a0, a1, h0, h1, h2, h3, h4⟩ := h; exact K a0 a1 h0 h1 h2 h3 h4
theorem ex3_2 {α0 α1 α2 : Type} {A0 A1 : α0 → α1 → α2 → Prop} {G : Prop} (h : ∃ a0 a1 a2, A0 a0 a1 a2 ∧ A1 a0 a1 a2) (K : ∀ a0 a1 a2, A0 a0 a1 a2 → A1 a0 a1 a2 → G) : G := by obtain ⟨a0, a1, a2, h0, h1⟩ := h; exact K a0 a1 a2 h0 h1
theorem ex3_3 {α0 α1 α2 : Type} {A0 A1 A2 : α0 → α1 → α2 → Prop} {G : Prop} (h : ∃ a0 a1 a2, A0 a0 a1 a2 ∧ A1 a0 a1 a2 ∧ A2 a0 a1 a2) (K : ∀ a0 a1 a2, A0 a0 a1 a2 → A1 a0 a1 a2 → A2 a0 a1 a2 → G) : G := by obtain ⟨a0, a1, a2, h0, h1, h2⟩ := h; exact K a0 a1 a2 h0 h1 h2
theorem ex3_4 {α0 α1 α2 : Type} {A0 A1 A2 A3 : α0 → α1 → α2 → Prop} {G : Prop} (h : ∃ a0 a1 a2, A0 a0 a1 a2 ∧ A1 a0 a1 a2 ∧ A2 a0 a1 a2 ∧ A3 a0 a1 a2) (K : ∀ a0 a1 a2, A0 a0 a1 a2 → A1 a0 a1 a2 → A2 a0 a1 a2 → A3 a0 a1 a2 → G) : G := by obtain ⟨a0, a1, a2, h0, h1, h2, h3⟩ := h; exact K a0 a1 a2 h0 h1 h2 h3
theorem ex3_5 {α0 α1 α2 : Type} {A0 A1 A2 A3 A4 : α0 → α1 → α2 → Prop} {G : Prop} (h : ∃ a0 a1 a2, A0 a0 a1 a2 ∧ A1 a0 a1 a2 ∧ A2 a0 a1 a2 ∧ A3 a0 a1 a2 ∧ A4 a0 a1 a2) (K : ∀ a0 a1 a2, A0 a0 a1 a2 → A1 a0 a1 a2 → A2 a0 a1 a2 → A3 a0 a1 a2 → A4 a0 a1 a2 → G) : G := by obtain ⟨a0, a1, a2, h0, h1, h2, h3, h4⟩ := h; exact K a0 a1 a2 h0 h1 h2 h3 h4
theorem ex3_6 {α0 α1 α2 : Type} {A0 A1 A2 A3 A4 A5 : α0 → α1 → α2 → Prop} {G : Prop} (h : ∃ a0 a1 a2, A0 a0 a1 a2 ∧ A1 a0 a1 a2 ∧ A2 a0 a1 a2 ∧ A3 a0 a1 a2 ∧ A4 a0 a1 a2 ∧ A5 a0 a1 a2) (K : ∀ a0 a1 a2, A0 a0 a1 a2 → A1 a0 a1 a2 → A2 a0 a1 a2 → A3 a0 a1 a2 → A4 a0 a1 a2 → A5 a0 a1 a2 → G) : G := by obtain ⟨a0, a1, a2, h0, h1, h2, h3, h4, h5⟩ := h; exact K a0 a1 a2 h0 h1 h2 h3 h4 h5
theorem ex3_10 {α0 α1 α2 : Type} {A0 A1 A2 A3 A4 A5 A6 A7 A8 A9 : α0 → α1 → α2 → Prop} {G : Prop} (h : ∃ a0 a1 a2, A0 a0 a1 a2 ∧ A1 a0 a1 a2 ∧ A2 a0 a1 a2 ∧ A3 a0 a1 a2 ∧ A4 a0 a1 a2 ∧ A5 a0 a1 a2 ∧ A6 a0 a1 a2 ∧ A7 a0 a1 a2 ∧ A8 a0 a1 a2 ∧ A9 a0 a1 a2) (K : ∀ a0 a1 a2, A0 a0 a1 a2 → A1 a0 a1 a2 → A2 a0 a1 a2 → A3 a0 a1 a2 → A4 a0 a1 a2 → A5 a0 a1 a2 → A6 a0 a1 a2 → A7 a0 a1 a2 → A8 a0 a1 a2 → A9 a0 a1 a2 → G) : G := by obtain ⟨a0, a1, a2, h0, h1, h2, h3, h4, h5, h6, h7, h8, h9⟩ := h; exact K a0 a1 a2 h0 h1 h2 h3 h4 h5 h6 h7 h8 h9
theorem ex4_2 {α0 α1 α2 α3 : Type} {A0 A1 : α0 → α1 → α2 → α3 → Prop} {G : Prop} (h : ∃ a0 a1 a2 a3, A0 a0 a1 a2 a3 ∧ A1 a0 a1 a2 a3) (K : ∀ a0 a1 a2 a3, A0 a0 a1 a2 a3 → A1 a0 a1 a2 a3 → G) : G := by obtain ⟨a0, a1, a2, a3, h0, h1⟩ := h; exact K a0 a1 a2 a3 h0 h1
theorem ex4_3 {α0 α1 α2 α3 : Type} {A0 A1 A2 : α0 → α1 → α2 → α3 → Prop} {G : Prop} (h : ∃ a0 a1 a2 a3, A0 a0 a1 a2 a3 ∧ A1 a0 a1 a2 a3 ∧ A2 a0 a1 a2 a3) (K : ∀ a0 a1 a2 a3, A0 a0 a1 a2 a3 → A1 a0 a1 a2 a3 → A2 a0 a1 a2 a3 → G) : G := by obtain ⟨a0, a1, a2, a3, h0, h1, h2⟩ := h; exact K a0 a1 a2 a3 h0 h1 h2
theorem ex4_4 {α0 α1 α2 α3 : Type} {A0 A1 A2 A3 : α0 → α1 → α2 → α3 → Prop} {G : Prop} (h : ∃ a0 a1 a2 a3, A0 a0 a1 a2 a3 ∧ A1 a0 a1 a2 a3 ∧ A2 a0 a1 a2 a3 ∧ A3 a0 a1 a2 a3) (K : ∀ a0 a1 a2 a3, A0 a0 a1 a2 a3 → A1 a0 a1 a2 a3 → A2 a0 a1 a2 a3 → A3 a0 a1 a2 a3 → G) : G := by obtain ⟨a0, a1, a2, a3, h0, h1, h2, h3⟩ := h; exact K a0 a1 a2 a3 h0 h1 h2 h3
theorem ex4_5 {α0 α1 α2 α3 : Type} {A0 A1 A2 A3 A4 : α0 → α1 → α2 → α3 → Prop} {G : Prop} (h : ∃ a0 a1 a2 a3, A0 a0 a1 a2 a3 ∧ A1 a0 a1 a2 a3 ∧ A2 a0 a1 a2 a3 ∧ A3 a0 a1 a2 a3 ∧ A4 a0 a1 a2 a3) (K : ∀ a0 a1 a2 a3, A0 a0 a1 a2 a3 → A1 a0 a1 a2 a3 → A2 a0 a1 a2 a3 → A3 a0 a1 a2 a3 → A4 a0 a1 a2 a3 → G) : G := by obtain ⟨a0, a1, a2, a3, h0, h1, h2, h3, h4⟩ := h; exact K a0 a1 a2 a3 h0 h1 h2 h3 h4
theorem ex5_1 {α0 α1 α2 α3 α4 : Type} {A0 : α0 → α1 → α2 → α3 → α4 → Prop} {G : Prop} (h : ∃ a0 a1 a2 a3 a4, A0 a0 a1 a2 a3 a4) (K : ∀ a0 a1 a2 a3 a4, A0 a0 a1 a2 a3 a4 → G) : G := by obtain ⟨a0, a1, a2, a3, a4, h0⟩ := h; exact K a0 a1 a2 a3 a4 h0
theorem ex5_2 {α0 α1 α2 α3 α4 : Type} {A0 A1 : α0 → α1 → α2 → α3 → α4 → Prop} {G : Prop} (h : ∃ a0 a1 a2 a3 a4, A0 a0 a1 a2 a3 a4 ∧ A1 a0 a1 a2 a3 a4) (K : ∀ a0 a1 a2 a3 a4, A0 a0 a1 a2 a3 a4 → A1 a0 a1 a2 a3 a4 → G) : G := by obtain ⟨a0, a1, a2, a3, a4, h0, h1⟩ := h; exact K a0 a1 a2 a3 a4 h0 h1
theorem ex5_3 {α0 α1 α2 α3 α4 : Type} {A0 A1 A2 : α0 → α1 → α2 → α3 → α4 → Prop} {G : Prop} (h : ∃ a0 a1 a2 a3 a4, A0 a0 a1 a2 a3 a4 ∧ A1 a0 a1 a2 a3 a4 ∧ A2 a0 a1 a2 a3 a4) (K : ∀ a0 a1 a2 a3 a4, A0 a0 a1 a2 a3 a4 → A1 a0 a1 a2 a3 a4 → A2 a0 a1 a2 a3 a4 → G) : G := by obtain ⟨a0, a1, a2, a3, a4, h0, h1, h2⟩ := h; exact K a0 a1 a2 a3 a4 h0 h1 h2
theorem ex5_4 {α0 α1 α2 α3 α4 : Type} {A0 A1 A2 A3 : α0 → α1 → α2 → α3 → α4 → Prop} {G : Prop} (h : ∃ a0 a1 a2 a3 a4, A0 a0 a1 a2 a3 a4 ∧ A1 a0 a1 a2 a3 a4 ∧ A2 a0 a1 a2 a3 a4 ∧ A3 a0 a1 a2 a3 a4) (K : ∀ a0 a1 a2 a3 a4, A0 a0 a1 a2 a3 a4 → A1 a0 a1 a2 a3 a4 → A2 a0 a1 a2 a3 a4 → A3 a0 a1 a2 a3 a4 → G) : G := by obtain ⟨a0, a1, a2, a3, a4, h0, h1, h2, h3⟩ := h; exact K a0 a1 a2 a3 a4 h0 h1 h2 h3
theorem ex5_6 {α0 α1 α2 α3 α4 : Type} {A0 A1 A2 A3 A4 A5 : α0 → α1 → α2 → α3 → α4 → Prop} {G : Prop} (h : ∃ a0 a1 a2 a3 a4, A0 a0 a1 a2 a3 a4 ∧ A1 a0 a1 a2 a3 a4 ∧ A2 a0 a1 a2 a3 a4 ∧ A3 a0 a1 a2 a3 a4 ∧ A4 a0 a1 a2 a3 a4 ∧ A5 a0 a1 a2 a3 a4) (K : ∀ a0 a1 a2 a3 a4, A0 a0 a1 a2 a3 a4 → A1 a0 a1 a2 a3 a4 → A2 a0 a1 a2 a3 a4 → A3 a0 a1 a2 a3 a4 → A4 a0 a1 a2 a3 a4 → A5 a0 a1 a2 a3 a4 → G) : G := by obtain ⟨a0, a1, a2, a3, a4, h0, h1, h2, h3, h4, h5⟩ := h; exact K a0 a1 a2 a3 a4 h0 h1 h2 h3 h4 h5
theorem ex5_7 {α0 α1 α2 α3 α4 : Type} {A0 A1 A2 A3 A4 A5 A6 : α0 → α1 → α2 → α3 → α4 → Prop} {G : Prop} (h : ∃ a0 a1 a2 a3 a4, A0 a0 a1 a2 a3 a4 ∧ A1 a0 a1 a2 a3 a4 ∧ A2 a0 a1 a2 a3 a4 ∧ A3 a0 a1 a2 a3 a4 ∧ A4 a0 a1 a2 a3 a4 ∧ A5 a0 a1 a2 a3 a4 ∧ A6 a0 a1 a2 a3 a4) (K : ∀ a0 a1 a2 a3 a4, A0 a0 a1 a2 a3 a4 → A1 a0 a1 a2 a3 a4 → A2 a0 a1 a2 a3 a4 → A3 a0 a1 a2 a3 a4 → A4 a0 a1 a2 a3 a4 → A5 a0 a1 a2 a3 a4 → A6 a0 a1 a2 a3 a4 → G) : G := by obtain ⟨a0, a1, a2, a3, a4, h0, h1, h2, h3, h4, h5, h6⟩ := h; exact K a0 a1 a2 a3 a4 h0 h1 h2 h3 h4 h5 h6
theorem ex5_10 {α0 α1 α2 α3 α4 : Type} {A0 A1 A2 A3 A4 A5 A6 A7 A8 A9 : α0 → α1 → α2 → α3 → α4 → Prop} {G : Prop} (h : ∃ a0 a1 a2 a3 a4, A0 a0 a1 a2 a3 a4 ∧ A1 a0 a1 a2 a3 a4 ∧ A2 a0 a1 a2 a3 a4 ∧ A3 a0 a1 a2 a3 a4 ∧ A4 a0 a1 a2 a3 a4 ∧ A5 a0 a1 a2 a3 a4 ∧ A6 a0 a1 a2 a3 a4 ∧ A7 a0 a1 a2 a3 a4 ∧ A8 a0 a1 a2 a3 a4 ∧ A9 a0 a1 a2 a3 a4) (K : ∀ a0 a1 a2 a3 a4, A0 a0 a1 a2 a3 a4 → A1 a0 a1 a2 a3 a4 → A2 a0 a1 a2 a3 a4 → A3 a0 a1 a2 a3 a4 → A4 a0 a1 a2 a3 a4 → A5 a0 a1 a2 a3 a4 → A6 a0 a1 a2 a3 a4 → A7 a0 a1 a2 a3 a4 → A8 a0 a1 a2 a3 a4 → A9 a0 a1 a2 a3 a4 → G) : G := by obtain ⟨a0, a1, a2, a3, a4, h0, h1, h2, h3, h4, h5, h6, h7, h8, h9⟩ := h; exact K a0 a1 a2 a3 a4 h0 h1 h2 h3 h4 h5 h6 h7 h8 h9
theorem ex6_2 {α0 α1 α2 α3 α4 α5 : Type} {A0 A1 : α0 → α1 → α2 → α3 → α4 → α5 → Prop} {G : Prop} (h : ∃ a0 a1 a2 a3 a4 a5, A0 a0 a1 a2 a3 a4 a5 ∧ A1 a0 a1 a2 a3 a4 a5) (K : ∀ a0 a1 a2 a3 a4 a5, A0 a0 a1 a2 a3 a4 a5 → A1 a0 a1 a2 a3 a4 a5 → G) : G := by obtain ⟨a0, a1, a2, a3, a4, a5, h0, h1⟩ := h; exact K a0 a1 a2 a3 a4 a5 h0 h1
theorem ex6_3 {α0 α1 α2 α3 α4 α5 : Type} {A0 A1 A2 : α0 → α1 → α2 → α3 → α4 → α5 → Prop} {G : Prop} (h : ∃ a0 a1 a2 a3 a4 a5, A0 a0 a1 a2 a3 a4 a5 ∧ A1 a0 a1 a2 a3 a4 a5 ∧ A2 a0 a1 a2 a3 a4 a5) (K : ∀ a0 a1 a2 a3 a4 a5, A0 a0 a1 a2 a3 a4 a5 → A1 a0 a1 a2 a3 a4 a5 → A2 a0 a1 a2 a3 a4 a5 → G) : G := by obtain ⟨a0, a1, a2, a3, a4, a5, h0, h1, h2⟩ := h; exact K a0 a1 a2 a3 a4 a5 h0 h1 h2
theorem ex6_4 {α0 α1 α2 α3 α4 α5 : Type} {A0 A1 A2 A3 : α0 → α1 → α2 → α3 → α4 → α5 → Prop} {G : Prop} (h : ∃ a0 a1 a2 a3 a4 a5, A0 a0 a1 a2 a3 a4 a5 ∧ A1 a0 a1 a2 a3 a4 a5 ∧ A2 a0 a1 a2 a3 a4 a5 ∧ A3 a0 a1 a2 a3 a4 a5) (K : ∀ a0 a1 a2 a3 a4 a5, A0 a0 a1 a2 a3 a4 a5 → A1 a0 a1 a2 a3 a4 a5 → A2 a0 a1 a2 a3 a4 a5 → A3 a0 a1 a2 a3 a4 a5 → G) : G := by obtain ⟨a0, a1, a2, a3, a4, a5, h0, h1, h2, h3⟩ := h; exact K a0 a1 a2 a3 a4 a5 h0 h1 h2 h3
theorem ex6_5 {α0 α1 α2 α3 α4 α5 : Type} {A0 A1 A2 A3 A4 : α0 → α1 → α2 → α3 → α4 → α5 → Prop} {G : Prop} (h : ∃ a0 a1 a2 a3 a4 a5, A0 a0 a1 a2 a3 a4 a5 ∧ A1 a0 a1 a2 a3 a4 a5 ∧ A2 a0 a1 a2 a3 a4 a5 ∧ A3 a0 a1 a2 a3 a4 a5 ∧ A4 a0 a1 a2 a3 a4 a5) (K : ∀ a0 a1 a2 a3 a4 a5, A0 a0 a1 a2 a3 a4 a5 → A1 a0 a1 a2 a3 a4 a5 → A2 a0 a1 a2 a3 a4 a5 → A3 a0 a1 a2 a3 a4 a5 → A4 a0 a1 a2 a3 a4 a5 → G) : G := by obtain ⟨a0, a1, a2, a3, a4, a5, h0, h1, h2, h3, h4⟩ := h; exact K a0 a1 a2 a3 a4 a5 h0 h1 h2 h3 h4
theorem ex6_6 {α0 α1 α2 α3 α4 α5 : Type} {A0 A1 A2 A3 A4 A5 : α0 → α1 → α2 → α3 → α4 → α5 → Prop} {G : Prop} (h : ∃ a0 a1 a2 a3 a4 a5, A0 a0 a1 a2 a3 a4 a5 ∧ A1 a0 a1 a2 a3 a4 a5 ∧ A2 a0 a1 a2 a3 a4 a5 ∧ A3 a0 a1 a2 a3 a4 a5 ∧ A4 a0 a1 a2 a3 a4 a5 ∧ A5 a0 a1 a2 a3 a4 a5) (K : ∀ a0 a1 a2 a3 a4 a5, A0 a0 a1 a2 a3 a4 a5 → A1 a0 a1 a2 a3 a4 a5 → A2 a0 a1 a2 a3 a4 a5 → A3 a0 a1 a2 a3 a4 a5 → A4 a0 a1 a2 a3 a4 a5 → A5 a0 a1 a2 a3 a4 a5 → G) : G := by obtain ⟨a0, a1, a2, a3, a4, a5, h0, h1, h2, h3, h4, h5⟩ := h; exact K a0 a1 a2 a3 a4 a5 h0 h1 h2 h3 h4 h5
theorem ex7_8 {α0 α1 α2 α3 α4 α5 α6 : Type} {A0 A1 A2 A3 A4 A5 A6 A7 : α0 → α1 → α2 → α3 → α4 → α5 → α6 → Prop} {G : Prop} (h : ∃ a0 a1 a2 a3 a4 a5 a6, A0 a0 a1 a2 a3 a4 a5 a6 ∧ A1 a0 a1 a2 a3 a4 a5 a6 ∧ A2 a0 a1 a2 a3 a4 a5 a6 ∧ A3 a0 a1 a2 a3 a4 a5 a6 ∧ A4 a0 a1 a2 a3 a4 a5 a6 ∧ A5 a0 a1 a2 a3 a4 a5 a6 ∧ A6 a0 a1 a2 a3 a4 a5 a6 ∧ A7 a0 a1 a2 a3 a4 a5 a6) (K : ∀ a0 a1 a2 a3 a4 a5 a6, A0 a0 a1 a2 a3 a4 a5 a6 → A1 a0 a1 a2 a3 a4 a5 a6 → A2 a0 a1 a2 a3 a4 a5 a6 → A3 a0 a1 a2 a3 a4 a5 a6 → A4 a0 a1 a2 a3 a4 a5 a6 → A5 a0 a1 a2 a3 a4 a5 a6 → A6 a0 a1 a2 a3 a4 a5 a6 → A7 a0 a1 a2 a3 a4 a5 a6 → G) : G := by obtain ⟨a0, a1, a2, a3, a4, a5, a6, h0, h1, h2, h3, h4, h5, h6, h7⟩ := h; exact K a0 a1 a2 a3 a4 a5 a6 h0 h1 h2 h3 h4 h5 h6 h7
theorem ex9_5 {α0 α1 α2 α3 α4 α5 α6 α7 α8 : Type} {A0 A1 A2 A3 A4 : α0 → α1 → α2 → α3 → α4 → α5 → α6 → α7 → α8 → Prop} {G : Prop} (h : ∃ a0 a1 a2 a3 a4 a5 a6 a7 a8, A0 a0 a1 a2 a3 a4 a5 a6 a7 a8 ∧ A1 a0 a1 a2 a3 a4 a5 a6 a7 a8 ∧ A2 a0 a1 a2 a3 a4 a5 a6 a7 a8 ∧ A3 a0 a1 a2 a3 a4 a5 a6 a7 a8 ∧ A4 a0 a1 a2 a3 a4 a5 a6 a7 a8) (K : ∀ a0 a1 a2 a3 a4 a5 a6 a7 a8, A0 a0 a1 a2 a3 a4 a5 a6 a7 a8 → A1 a0 a1 a2 a3 a4 a5 a6 a7 a8 → A2 a0 a1 a2 a3 a4 a5 a6 a7 a8 → A3 a0 a1 a2 a3 a4 a5 a6 a7 a8 → A4 a0 a1 a2 a3 a4 a5 a6 a7 a8 → G) : G := by obtain ⟨a0, a1, a2, a3, a4, a5, a6, a7, a8, h0, h1, h2, h3, h4⟩ := h; exact K a0 a1 a2 a3 a4 a5 a6 a7 a8 h0 h1 h2 h3 h4
theorem ex11_11 {α0 α1 α2 α3 α4 α5 α6 α7 α8 α9 α10 : Type} {A0 A1 A2 A3 A4 A5 A6 A7 A8 A9 A10 : α0 → α1 → α2 → α3 → α4 → α5 → α6 → α7 → α8 → α9 → α10 → Prop} {G : Prop} (h : ∃ a0 a1 a2 a3 a4 a5 a6 a7 a8 a9 a10, A0 a0 a1 a2 a3 a4 a5 a6 a7 a8 a9 a10 ∧ A1 a0 a1 a2 a3 a4 a5 a6 a7 a8 a9 a10 ∧ A2 a0 a1 a2 a3 a4 a5 a6 a7 a8 a9 a10 ∧ A3 a0 a1 a2 a3 a4 a5 a6 a7 a8 a9 a10 ∧ A4 a0 a1 a2 a3 a4 a5 a6 a7 a8 a9 a10 ∧ A5 a0 a1 a2 a3 a4 a5 a6 a7 a8 a9 a10 ∧ A6 a0 a1 a2 a3 a4 a5 a6 a7 a8 a9 a10 ∧ A7 a0 a1 a2 a3 a4 a5 a6 a7 a8 a9 a10 ∧ A8 a0 a1 a2 a3 a4 a5 a6 a7 a8 a9 a10 ∧ A9 a0 a1 a2 a3 a4 a5 a6 a7 a8 a9 a10 ∧ A10 a0 a1 a2 a3 a4 a5 a6 a7 a8 a9 a10) (K : ∀ a0 a1 a2 a3 a4 a5 a6 a7 a8 a9 a10, A0 a0 a1 a2 a3 a4 a5 a6 a7 a8 a9 a10 → A1 a0 a1 a2 a3 a4 a5 a6 a7 a8 a9 a10 → A2 a0 a1 a2 a3 a4 a5 a6 a7 a8 a9 a10 → A3 a0 a1 a2 a3 a4 a5 a6 a7 a8 a9 a10 → A4 a0 a1 a2 a3 a4 a5 a6 a7 a8 a9 a10 → A5 a0 a1 a2 a3 a4 a5 a6 a7 a8 a9 a10 → A6 a0 a1 a2 a3 a4 a5 a6 a7 a8 a9 a10 → A7 a0 a1 a2 a3 a4 a5 a6 a7 a8 a9 a10 → A8 a0 a1 a2 a3 a4 a5 a6 a7 a8 a9 a10 → A9 a0 a1 a2 a3 a4 a5 a6 a7 a8 a9 a10 → A10 a0 a1 a2 a3 a4 a5 a6 a7 a8 a9 a10 → G) : G := by obtain ⟨a0, a1, a2, a3, a4, a5, a6, a7, a8, a9, a10, h0, h1, h2, h3, h4, h5, h6, h7, h8, h9, h10⟩ := h; exact K a0 a1 a2 a3 a4 a5 a6 a7 a8 a9 a10 h0 h1 h2 h3 h4 h5 h6 h7 h8 h9 h10
noncomputable abbrev PR : Program := PySem.Challenge.rw_pc0209_01.row.prog
@[irreducible] noncomputable def hc {α : Type} (ne : Nonempty α) (P : α → Prop) : α := @Classical.epsilon α ne fun x => ¬ P x
theorem hil' {α : Type} {ne : Nonempty α} {P : α → Prop} {q : α} (e : q = hc ne P) (h : P q) (x : α) : P x :=
  Classical.byContradiction fun n => by
    have h1 := @Classical.epsilon_spec α (fun x => ¬ P x) ⟨x, n⟩
    unfold hc at e
    subst e
    exact h1 h
noncomputable def dW : World := ⟨fun _ _ => 0, { strHash := fun _ => 0, shareClass := fun _ => 0, mergeTok := fun t => t, idOf := fun _ => 0, idOfShared := fun _ _ => 0, followText := fun _ => false, idOfImm := fun _ => 0 }⟩
noncomputable def pick {R : World → Prop} {H : Prop} (_ : (∀ w, R w) → H) : World → Prop := R
noncomputable def LawP : World → Prop := pick hd
@[irreducible] noncomputable def w : World := hc ⟨dW⟩ LawP
noncomputable def Le (h h' : Heap) : Prop := ∀ b o, h.get? b = some o → h'.get? b = some o
theorem Le.trans {a b c : Heap} (x : Le a b) (y : Le b c) : Le a c := fun q o e => y q o (x q o e)
structure OkH (w : World) (h : Heap) : Prop where
  X : (hd.heap_39 w.params).In h
  T : ∃ p loose mean mg mb, Top p loose mean mg mb h
theorem OkH.keeps {h h' : Heap} (O : OkH w h) (k : Le h h') : OkH w h' :=
  ⟨O.X.keeps k, let ⟨p, l, me, mg, mb, T⟩ := O.T; ⟨p, l, me, mg, mb, T.keeps k⟩⟩
structure Rm (A : Around) (n : Nat) : Prop where
  hd : A.handled = none
  dp : A.depth + n < 1000
  un : A.units + 8 * n + 200 < cLine
theorem Rm.le {A : Around} {n k : Nat} (r : Rm A n) (h : k ≤ n) : Rm A k := ⟨r.hd, Nat.lt_of_le_of_lt (Nat.add_le_add_left h _) r.dp, Nat.lt_of_le_of_lt (Nat.add_le_add_right (Nat.add_le_add_left (Nat.mul_le_mul_left 8 h) _) _) r.un⟩
theorem Rm.step {a n k : Nat} (h : a + 8 * (n + 1) + 200 < cLine) (hk : k ≤ 8) : a + k + 8 * n + 200 < cLine :=
  Nat.lt_of_le_of_lt (Nat.add_le_add_right (Nat.le_trans (Nat.le_of_eq (Nat.add_right_comm a k (8 * n))) (Nat.add_le_add_left hk (a + 8 * n))) 200) h
theorem Rm.deeper {A : Around} {n : Nat} (r : Rm A (n + 1)) (env : Env) : Rm (A.deeper env) n :=
  ⟨r.hd, Nat.lt_of_le_of_lt (Nat.le_of_eq (Nat.add_right_comm A.depth 1 n)) r.dp, Rm.step (k := 3) r.un (by decide)⟩
theorem Rm.room {A : Around} {n : Nat} (r : Rm A n) : A.depth < recursionLimit := Nat.lt_of_le_of_lt (Nat.le_add_right _ n) r.dp
noncomputable def Same (s s' : Shared) : Prop := s'.gens = s.gens ∧ s'.drawn = s.drawn ∧ s'.os = s.os
theorem Same.refl (s : Shared) : Same s s := ⟨rfl, rfl, rfl⟩
theorem Same.trans {a b c : Shared} (x : Same a b) (y : Same b c) : Same a c := ⟨y.1.trans x.1, y.2.1.trans x.2.1, y.2.2.trans x.2.2⟩
theorem Same.to {s s' : Shared} (x : Same s s') : s' = { s with heap := s'.heap, toks := s'.toks } := by
  obtain ⟨h, g, d, t, o⟩ := s'; obtain ⟨e1, e2, e3⟩ := x; cases e1; cases e2; cases e3; rfl
noncomputable def Post (s : Shared) (W : Addr → Prop) (R : Value → Heap → Prop) (v : Value) (s' : Shared) : Prop :=
  Same s s' ∧ (∀ b o, s.heap.get? b = some o → ¬ W b → s'.heap.get? b = some o) ∧ R v s'.heap
noncomputable abbrev Calls (w : World) (A : Around) (s : Shared) (f : Addr) (args : List Value) (W : Addr → Prop) (R : Value → Heap → Prop) : Prop :=
  wpAny (model PR w) A (call (.ref f) args) (Post s W R) (fun _ _ => False) s
noncomputable abbrev nil : Addr → Prop := fun _ => False
noncomputable abbrev at1 (u : Addr) : Addr → Prop := fun b => b = u
noncomputable def Fin (R : Value → Shared → Prop) (fl : Flow) (s : Shared) : Prop := R (match fl with | .ret v => v | _ => .none) s
theorem enter {params : Arguments} {body : List Stmt} {scope : Scope} {name qual : Str} {A : Around} {s : Shared} {dV kV doc pm cdv ct oc : Value} {an od : Option Addr} {osl : Array (Option Value)} {f : Addr} {pos : List Value} (binds : List (Str × Value))
    {W : Addr → Prop} {R : Value → Heap → Prop}
    (O : OkH w s.heap) {k : Nat} (r : Rm A (k + 1))
    (ho : (hd.heap_39 w.params).lookup f = some ⟨oc, od, .func (fnOf name qual params body scope dV kV doc pm an cdv ct), osl⟩) (hcd : codeIn (hd.heap_39 w.params) cdv qual = true)
    (hbind : BindsTo s (fnOf name qual params body scope dV kV doc pm an cdv ct) ⟨pos, []⟩ binds) (hloc : ∀ y ∈ binds, scope.names.lookup y.1 = some .local)
    (h : ∀ L' s₁, L' = s.heap.objs.size → Fr s.heap L' s₁.heap (fun y => binds.reverse.lookup y) → Same s s₁ → Rm (A.deeper (envOf qual scope L' f cdv)) k →
      (envOf qual scope L' f cdv).kindOf (Str.ofString "__debug__") = none → wpAny (model PR w) (A.deeper (envOf qual scope L' f cdv)) (execs body (envOf qual scope L' f cdv)) (Fin (Post s W R)) (fun _ _ => False) s₁)
    (hco : scope.isCoroutine = false) (hgen : scope.isGenerator = false) (hk : scope.kind = .function)
    (hcell : ∀ x ∈ scope.names, x.2 ≠ .cell) (hdb : scope.names.lookup (Str.ofString "__debug__") = none) : Calls w A s f pos W R := by
  obtain ⟨X, p, l, me, mg, mb, T⟩ := O
  refine wpAny_call (codeAny_call_def (fd := fnOf name qual params body scope dV kV doc pm an cdv ct) (body := body) (binds := binds) r.room (X _ _ ho) rfl T.nolimit (codeRec_of X hcd) rfl hbind hcell hloc (fun h₁ hns hk₁ => ?_) hco hgen hk)
  exact wpAny_mono (h _ { s with heap := h₁, toks := s.toks + binds.length } rfl ⟨hns, hk₁, Nat.le_refl _⟩ ⟨rfl, rfl, rfl⟩ (r.deeper _) hdb) (fun _ _ x => x) (fun _ _ x => x.elim)
theorem post_end {s s₂ : Shared} {W : Addr → Prop} {R : Value → Heap → Prop} {v : Value} {L : Addr} {m : Str → Option Value} (S : Same s s₂) (F : Fr s.heap L s₂.heap m) (r : R v s₂.heap) :
    Post s W R v s₂ := ⟨S, fun b o e _ => F.keep b o e, r⟩
theorem Fr.le {h₀ h h' : Heap} {L : Addr} {m : Str → Option Value} (F : Fr h₀ L h m) (k : Le h h') : Fr h₀ L h' m :=
  ⟨F.ns.keeps k, fun b o e => k b o (F.keep b o e), F.above⟩
theorem News.le {h₀ h h' : Heap} {L : Addr} {news : List (Addr × Obj)} (N : News h₀ L h news) (k : Le h h') : News h₀ L h' news :=
  fun p hp => ⟨k _ _ (N p hp).1, (N p hp).2⟩
theorem use0 {E : Value → Shared → Prop} {A : Around} {s : Shared} {f : Addr} {args : List Value} {R : Value → Heap → Prop} {Q : Value → Shared → Prop} {h₀ : Heap} {L : Addr} {m : Str → Option Value} {news : List (Addr × Obj)}
    (c : Calls w A s f args nil R) (F : Fr h₀ L s.heap m) (N : News h₀ L s.heap news)
    (k : ∀ r h' tk, R r h' → Le s.heap h' → Fr h₀ L h' m → News h₀ L h' news → Q r { s with heap := h', toks := tk }) : wpAny (model PR w) A (call (.ref f) args) Q E s := by
  refine wpAny_mono c (fun v s' p => ?_) fun _ _ x => x.elim
  refine ex0_3 p ?_; clear p; intro S hk r
  have le : Le s.heap s'.heap := fun b o e => hk b o e (fun x => x)
  rw [S.to]
  exact k v s'.heap s'.toks r le (Fr.le F le) (News.le N le)
noncomputable def NeAll (l : Nat) : List (Addr × Obj) → Prop
  | [] => True
  | p :: r => @Ne Nat p.1 l ∧ NeAll l r
theorem neAll_of {l : Nat} {r : List (Addr × Obj)} (h : ∀ p ∈ r, p.1 ≠ l) : NeAll l r := by
  induction r with
  | nil => exact trivial
  | cons p r ih => exact ⟨h p (.head _), ih fun q hq => h q (.tail _ hq)⟩
theorem NeAll.out {l : Nat} {r : List (Addr × Obj)} (h : NeAll l r) : ∀ p ∈ r, p.1 ≠ l := by
  induction r with
  | nil => intro p hp; cases hp
  | cons p r ih =>
    intro q hq
    rcases List.mem_cons.mp hq with rfl | hq
    · exact h.1
    · exact ih h.2 q hq
noncomputable def Fresh (s : Shared) (xs : List Str) (v : Value) (h' : Heap) : Prop :=
  ∃ l vs n, v = .ref l ∧ s.heap.get? l = none ∧ h'.get? l = some (listOf vs.toArray n) ∧ StrsAre vs xs
theorem News.cons {h₀ h h' : Heap} {L l : Addr} {m : Str → Option Value} {news : List (Addr × Obj)} {o : Obj} (F : Fr h₀ L h m) (N' : News h₀ L h' news) (hl : h.get? l = none) (ho : h'.get? l = some o) : News h₀ L h' ((l, o) :: news) := by
  intro p hp
  rcases List.mem_cons.mp hp with rfl | hp
  · refine ex3_2 (F.ns) ?_; intro _ _ _ hL _
    refine ⟨ho, fun e => ?_, ?_⟩
    · rw [show l = L from e] at hl; rw [hl] at hL; cases hL
    · cases q : h₀.get? l with
      | none => rfl
      | some o => rw [F.keep _ _ q] at hl; cases hl
  · exact N' p hp
theorem News.neOf {h₀ h : Heap} {L l : Addr} {news : List (Addr × Obj)} (N : News h₀ L h news) (hl : h.get? l = none) : NeAll l news :=
  neAll_of fun p hp e => by have := (N p hp).1; rw [e, hl] at this; cases this
theorem useL {E : Value → Shared → Prop} {A : Around} {s : Shared} {f : Addr} {args : List Value} {xs : List Str} {Q : Value → Shared → Prop} {h₀ : Heap} {L : Addr} {m : Str → Option Value} {news : List (Addr × Obj)}
    (c : Calls w A s f args nil (Fresh s xs)) (F : Fr h₀ L s.heap m) (N : News h₀ L s.heap news)
    (k : ∀ l vs n h' tk, StrsAre vs xs → NeAll l news → Fr h₀ L h' m → News h₀ L h' ((l, listOf vs.toArray n) :: news) → Q (.ref l) { s with heap := h', toks := tk }) :
    wpAny (model PR w) A (call (.ref f) args) Q E s := by
  refine use0 c F N fun r h' tk hQ9 le F' N' => ?_
  refine ex3_4 hQ9 ?_; clear hQ9; intro l vs n e hl ho hs
  subst e
  exact k l vs n h' tk hs (News.neOf N hl) F' (News.cons F N' hl ho)
theorem use1 {E : Value → Shared → Prop} {A : Around} {s : Shared} {f : Addr} {args : List Value} {R : Value → Heap → Prop} {Q : Value → Shared → Prop} {h₀ : Heap} {L : Addr} {m : Str → Option Value} {news : List (Addr × Obj)} {u : Addr} {o : Obj} {g : Obj → List (Addr × Obj)}
    (c : Calls w A s f args (at1 u) R) (F : Fr h₀ L s.heap m) (N : News h₀ L s.heap news) (U : UpdF u o news g)
    (k : ∀ r h' tk, R r h' → Fr h₀ L h' m → (∀ o', h'.get? u = some o' → News h₀ L h' (g o')) → Q r { s with heap := h', toks := tk }) : wpAny (model PR w) A (call (.ref f) args) Q E s := by
  refine wpAny_mono c (fun v s' p => ?_) fun _ _ x => x.elim
  refine ex0_3 p ?_; clear p; intro S hk r
  rw [S.to]
  refine ex2_4 (U.split) ?_; intro pre post eK; subst eK; intro hg h1 h2
  have hu := N (u, o) (List.mem_append_right _ (.head _))
  refine ex3_2 (F.ns) ?_; intro oL es ep hL rL
  refine k v s'.heap s'.toks r ⟨⟨oL, es, ep, hk _ _ hL fun e => hu.2.1 e.symm, rL⟩, fun b ob e => hk b ob (F.keep b ob e) fun q => ?_, F.above⟩ fun o' ho' p hp => ?_
  · have := hu.2.2; rw [← show b = u from q, e] at this; cases this
  · rw [hg] at hp
    rcases List.mem_append.mp hp with hp | hp
    · have P := N p (List.mem_append_left _ hp); exact ⟨hk _ _ P.1 (h1 p hp), P.2⟩
    · rcases List.mem_cons.mp hp with rfl | hp
      · exact ⟨ho', hu.2⟩
      · have P := N p (List.mem_append_right _ (.tail _ hp)); exact ⟨hk _ _ P.1 (h2 p hp), P.2⟩
theorem Fr.hide {h : Heap} {L : Addr} {h₁ : Heap} {m : Str → Option Value} (u : Addr) (F : Fr h L h₁ m) : Fr (h.hide u) L h₁ m :=
  ⟨F.ns, fun b o e => F.keep b o (Heap.of_hide e), by rw [Heap.hide_size]; exact F.above⟩
theorem News.hide1 {h : Heap} {L : Addr} {h₁ : Heap} {m : Str → Option Value} {u : Addr} {o : Obj} (F : Fr h L h₁ m) (e : h.get? u = some o) (hL : L = h.objs.size) : News (h.hide u) L h₁ [(u, o)] := by
  intro p hp
  rw [List.mem_singleton] at hp; subst hp
  exact ⟨F.keep _ _ e, fun q => absurd (Heap.lt_size e) (by show ¬ u < _; rw [show u = L from q, hL]; exact Nat.lt_irrefl _), Heap.hide_self h u⟩
theorem le_hide {g h : Heap} {u : Addr} (k : Le g h) (hu : g.get? u = none) : Le g (h.hide u) := fun b o e => by
  rw [Heap.hide_ne h (fun q => by rw [q, hu] at e; cases e)]; exact k b o e
theorem post_end1 {s s₂ : Shared} {R : Value → Heap → Prop} {v : Value} {L : Addr} {m : Str → Option Value} {u : Addr} (S : Same s s₂) (F : Fr (s.heap.hide u) L s₂.heap m) (r : R v s₂.heap) :
    Post s (at1 u) R v s₂ := ⟨S, fun b o e hb => F.keep b o ((Heap.hide_ne _ hb).trans e), r⟩
theorem exI5 {A0 A1 A2 A3 A4 : Type} {P : A0 → A1 → A2 → A3 → A4 → Prop} (a0 : A0) (a1 : A1) (a2 : A2) (a3 : A3) (a4 : A4) (h : P a0 a1 a2 a3 a4) : ∃ a0 a1 a2 a3 a4, P a0 a1 a2 a3 a4 := ⟨a0, a1, a2, a3, a4, h⟩
theorem exI6 {A0 A1 A2 A3 A4 A5 : Type} {P : A0 → A1 → A2 → A3 → A4 → A5 → Prop} (a0 : A0) (a1 : A1) (a2 : A2) (a3 : A3) (a4 : A4) (a5 : A5) (h : P a0 a1 a2 a3 a4 a5) : ∃ a0 a1 a2 a3 a4 a5, P a0 a1 a2 a3 a4 a5 := ⟨a0, a1, a2, a3, a4, a5, h⟩
theorem exI7 {A0 A1 A2 A3 A4 A5 A6 : Type} {P : A0 → A1 → A2 → A3 → A4 → A5 → A6 → Prop} (a0 : A0) (a1 : A1) (a2 : A2) (a3 : A3) (a4 : A4) (a5 : A5) (a6 : A6) (h : P a0 a1 a2 a3 a4 a5 a6) : ∃ a0 a1 a2 a3 a4 a5 a6, P a0 a1 a2 a3 a4 a5 a6 := ⟨a0, a1, a2, a3, a4, a5, a6, h⟩
theorem exI9 {A0 A1 A2 A3 A4 A5 A6 A7 A8 : Type} {P : A0 → A1 → A2 → A3 → A4 → A5 → A6 → A7 → A8 → Prop} (a0 : A0) (a1 : A1) (a2 : A2) (a3 : A3) (a4 : A4) (a5 : A5) (a6 : A6) (a7 : A7) (a8 : A8) (h : P a0 a1 a2 a3 a4 a5 a6 a7 a8) : ∃ a0 a1 a2 a3 a4 a5 a6 a7 a8, P a0 a1 a2 a3 a4 a5 a6 a7 a8 := ⟨a0, a1, a2, a3, a4, a5, a6, a7, a8, h⟩
theorem exI10 {A0 A1 A2 A3 A4 A5 A6 A7 A8 A9 : Type} {P : A0 → A1 → A2 → A3 → A4 → A5 → A6 → A7 → A8 → A9 → Prop} (a0 : A0) (a1 : A1) (a2 : A2) (a3 : A3) (a4 : A4) (a5 : A5) (a6 : A6) (a7 : A7) (a8 : A8) (a9 : A9) (h : P a0 a1 a2 a3 a4 a5 a6 a7 a8 a9) : ∃ a0 a1 a2 a3 a4 a5 a6 a7 a8 a9, P a0 a1 a2 a3 a4 a5 a6 a7 a8 a9 := ⟨a0, a1, a2, a3, a4, a5, a6, a7, a8, a9, h⟩
theorem exI11 {A0 A1 A2 A3 A4 A5 A6 A7 A8 A9 A10 : Type} {P : A0 → A1 → A2 → A3 → A4 → A5 → A6 → A7 → A8 → A9 → A10 → Prop} (a0 : A0) (a1 : A1) (a2 : A2) (a3 : A3) (a4 : A4) (a5 : A5) (a6 : A6) (a7 : A7) (a8 : A8) (a9 : A9) (a10 : A10) (h : P a0 a1 a2 a3 a4 a5 a6 a7 a8 a9 a10) : ∃ a0 a1 a2 a3 a4 a5 a6 a7 a8 a9 a10, P a0 a1 a2 a3 a4 a5 a6 a7 a8 a9 a10 := ⟨a0, a1, a2, a3, a4, a5, a6, a7, a8, a9, a10, h⟩
section
variable {prog : Program} {A : Around} {E : Value → Shared → Prop} {s : Shared} {env : Env} {h₀ : Heap} {x : Str} {body : List Stmt} {Q : Flow → Shared → Prop}
noncomputable def TurnEnd (h₀ : Heap) (L : Addr) (J : (Str → Option Value) → List (Addr × Obj) → Prop) (it : Addr × Obj) (s₁ s₂ : Shared) : Prop :=
  ∃ h' tk m' news' nx, s₂ = { s₁ with heap := h', toks := tk } ∧ Fr h₀ L h' m' ∧ News h₀ L h' news' ∧ it ∈ news' ∧ (∀ p ∈ nx, p ∈ news') ∧ (∀ p ∈ nx, p.1 ≠ it.1) ∧ J m' nx
noncomputable def TurnPost (h₀ : Heap) (L : Addr) (J : (Str → Option Value) → List (Addr × Obj) → Prop) (it : Addr × Obj) (s₁ : Shared) (Q : Flow → Shared → Prop) (f : Flow) (s₂ : Shared) : Prop :=
  match f with
  | .ret v => Q (.ret v) s₂
  | .brk => Q .next s₂
  | _ => TurnEnd h₀ L J it s₁ s₂
theorem iterW {prog : Program} {E : Value → Shared → Prop} {body : List Stmt} {x : Str} {A : Around} {s : Shared} {env : Env} {h₀ : Heap} {Q : Flow → Shared → Prop} {l I : Addr} {n : Nat} {P : Nat → Value → Prop} {St : Nat → Heap → Prop} {m₀ : Str → Option Value} {news : List (Addr × Obj)} {ol : Obj} {s₂ : Shared} (J : Nat → (Str → Option Value) → List (Addr × Obj) → Prop)
    (W : Walks prog w A I [I, l] [I] n P St) (hS2 : ∃ h₂, s₂ = { s with heap := h₂ } ∧ Le s.heap h₂) (hI : s.heap.get? I = none) (hSt : ∀ i h, St i h → ∃ o, h.get? I = some o) (st0 : St 0 s₂.heap) (hlL : l ≠ env.locals)
    (hol : s.heap.get? l = some ol)
    (hlin : ∀ i m nx, J i m nx → h₀.get? l = some ol ∨ (l, ol) ∈ nx)
    (F : Fr h₀ env.locals s.heap m₀) (N : News h₀ env.locals s.heap news) (hj : J 0 m₀ news)
    (turn : ∀ i v m₁ nx h tk o, i < n → P i v → (∀ p ∈ nx, p.1 ≠ I) → J i m₁ nx → Fr h₀ env.locals h (fun y => if y = x then some v else m₁ y) → News h₀ env.locals h ((I, o) :: nx) →
      wpAny (model prog w) A (execs body env) (TurnPost h₀ env.locals (J (i + 1)) (I, o) { s with heap := h, toks := tk } Q) E { s with heap := h, toks := tk })
    (done : ∀ m₁ nx h tk, J n m₁ nx → Fr h₀ env.locals h m₁ → News h₀ env.locals h nx → Q .next { s with heap := h, toks := tk }) :
    LoopAtV prog w A h₀ env x body Q E (.ref I) s₂ := by
  refine ex1_2 hS2 ?_; clear hS2; intro h₂ eK; subst eK; intro hpush
  have hne0 : ∀ b o, s.heap.get? b = some o → b ≠ I := fun b o e q => by rw [q, hI] at e; cases e
  have h0I : h₀.get? I = none := by
    cases q : h₀.get? I with
    | none => rfl
    | some o => exact absurd rfl (hne0 _ _ (F.keep _ _ q))
  obtain ⟨oL, a1, a2, hL, a3⟩ := id F.ns
  refine exI9 I [I, l] [I] n P St m₀ news J ⟨rfl, W, ?_, ?_, ?_, st0, Fr.le F hpush, News.le N hpush, hj, ?_, ?_⟩
  · intro hm
    rcases List.mem_cons.mp hm with e | hm
    · exact hne0 _ _ hL e
    · exact hlL (List.mem_singleton.mp hm).symm
  · intro b hb; rw [List.mem_singleton.mp hb]; exact h0I
  · intro p hp hq; exact hne0 _ _ (N p hp).1 (List.mem_singleton.mp hq)
  · intro i v m₁ nx s₁ own gR1 hin hP hJ hoff hown hownget hmem hst F₁ N₁; refine ex2_1 gR1 ?_; clear gR1; intro hh' tk' eK; subst eK
    refine ex1_1 (hSt _ _ hst) ?_; intro oI hoI
    have hIn := hmem I (.head _) h0I oI hoI
    have hoffI : ∀ p ∈ nx, p.1 ≠ I := fun p hp e => hoff p hp (List.mem_singleton.mpr e)
    have N₂ : News h₀ env.locals hh' ((I, oI) :: nx) := fun p hp => by
      rcases List.mem_cons.mp hp with rfl | hp
      · exact N₁ _ (List.mem_append_left _ hIn)
      · exact N₁ _ (List.mem_append_right _ hp)
    have fin : ∀ s₃, TurnEnd h₀ env.locals (J (i + 1)) (I, oI) { s with heap := hh', toks := tk' } s₃ → LoopStepU h₀ env.locals [I] own (J (i + 1)) { s with heap := hh', toks := tk' } .next s₃ := by
      intro s₃ gR2; refine ex5_7 gR2 ?_; clear gR2; intro h' tk m' news' nx' e F' N' hit hsub hne hJ'
      refine ⟨rfl, h', tk, m', nx', e, F', fun p hp => ?_, fun p hp hq => hne p hp (List.mem_singleton.mp hq), hJ'⟩
      rcases List.mem_append.mp hp with hp | hp
      · have h1 := hown p hp
        rcases List.mem_cons.mp h1 with h1 | h1
        · have : p = (I, oI) := by
            have h2 := hownget p hp
            have h3 : hh'.get? I = some p.2 := h1 ▸ h2
            obtain ⟨a, b⟩ := p
            dsimp only at h1 h3
            rw [show hh'.get? I = some oI from hoI] at h3
            rw [h1, Option.some.inj h3]
          rw [this]; exact N' _ hit
        · have h1 := List.mem_singleton.mp h1
          have h2 := hownget p hp
          have hl0 : h₀.get? l = none := by have := (N₁ p (List.mem_append_left _ hp)).2.2; rwa [h1] at this
          rcases hlin _ _ _ hJ with e0 | e0
          · rw [hl0] at e0; cases e0
          · have h4 := (N₁ _ (List.mem_append_right _ e0)).1
            have h5 : p = (l, ol) := by
              obtain ⟨a, b⟩ := p
              dsimp only at h1 h2
              subst h1
              have : hh'.get? a = some ol := h4
              rw [h2] at this; cases this; rfl
            rcases hlin _ _ _ hJ' with e1 | e1
            · rw [hl0] at e1; cases e1
            · rw [h5]; exact N' _ (hsub _ e1)
      · exact N' _ (hsub p hp)
    refine wpAny_mono (turn i v m₁ nx hh' tk' oI hin hP hoffI hJ F₁ N₂) (fun f s₃ p => ?_) fun _ _ e => e
    cases f with
    | ret v => exact .ret p
    | brk => exact .brk p
    | next => exact .next (fin _ p)
    | cont => exact .cont (fin _ p)
  · rintro h' tk m' news' F' N' _ hJ
    exact done m' news' h' tk hJ F' N'
theorem append_L {prog : Program} {E : Value → Shared → Prop} {A : Around} {s : Shared} {h₀ : Heap} {D L : Addr} {m : Str → Option Value} {news : List (Addr × Obj)} {g : Obj → List (Addr × Obj)} {vs : List Value} {n : Nat} {x : Value} {Q : Value → Shared → Prop}
    (F : Fr h₀ L s.heap m) (N : News h₀ L s.heap news) (U : UpdF D (listOf vs.toArray n) news g)
    (h : ∀ h', Fr h₀ L h' m → News h₀ L h' (g (listOf (List.toArray (vs ++ [x])) (n + 1))) → Q .none { s with heap := h' }) (hsz : vs.length ≤ 2 ^ 24) : wpAny (model prog w) A (call (.builtin "list.append") [.ref D, x]) Q E s := by
  refine ex2_4 (U.split) ?_; intro pre post eK; subst eK; intro hg a b
  have z := N (D, listOf vs.toArray n) (List.mem_append.mpr (.inr (.head _)))
  refine append_at (hsz := by rw [sizeLine_eq, List.size_toArray]; lia) z.1 fun h' hs ho' => h h' (F.change hs z.2.1 z.2.2) ?_
  rw [hg]
  have e : (listOf (List.toArray (vs ++ [x])) (n + 1)) = listOf (vs.toArray.push x) (n + 1) := by simp
  rw [e]
  exact news_set N a b hs ho'
noncomputable def ForAt (prog : Program) (w : World) (A : Around) (h₀ : Heap) (env : Env) (x : Str) (body : List Stmt) (Q : Flow → Shared → Prop) (E : Value → Shared → Prop) (xv : Value) (s₁ : Shared) : Prop :=
  wpAny (model prog w) A (pyIter xv) (fun it s₂ => LoopAtV prog w A h₀ env x body Q E it s₂) E s₁
noncomputable def over : List Str → (Str → Option Value) → (Str → Option Value) → Str → Option Value
  | [], _, m => m
  | x :: r, q, m => fun y => if y = x then q x else over r q m y
noncomputable def Agree (st : List Str) (m₀ m : Str → Option Value) : Prop := ∀ z, st.contains z = false → m z = m₀ z
theorem Agree.refl (st : List Str) (m : Str → Option Value) : Agree st m m := fun _ _ => rfl
theorem Agree.set {st : List Str} {x : Str} {m₀ m : Str → Option Value} {v : Option Value} (h : Agree st m₀ m) (hx : st.contains x = true) : Agree st m₀ (fun y => if y = x then v else m y) := fun z hz => by
  show (if z = x then v else m z) = m₀ z
  rw [if_neg (fun e => by rw [e, hx] at hz; cases hz)]; exact h z hz
theorem over_of {m₀ m : Str → Option Value} : ∀ (st : List Str) (z : Str), (st.contains z = false → m z = m₀ z) → over st m m₀ z = m z
  | [], z, h => (h rfl).symm
  | x :: r, z, h => by
    show (if z = x then m x else over r m m₀ z) = m z
    by_cases e : z = x
    · rw [if_pos e, e]
    · rw [if_neg e]
      refine over_of r z fun hr => h ?_
      rw [List.contains_cons, hr, Bool.or_false]
      exact beq_eq_false_iff_ne.mpr e
theorem Agree.eq {st : List Str} {m₀ m : Str → Option Value} (h : Agree st m₀ m) : m = over st m m₀ := funext fun z => (over_of st z (h z)).symm
theorem Agree.over {m₀ q : Str → Option Value} : ∀ (st : List Str), Agree st m₀ (over st q m₀)
  | [] => Agree.refl _ _
  | x :: r => fun z hz => by
    rw [List.contains_cons, Bool.or_eq_false_iff] at hz
    show (if z = x then _ else _) = _
    rw [if_neg (by simpa using hz.1)]
    exact Agree.over r z hz.2
theorem iterList {prog : Program} {E : Value → Shared → Prop} {body : List Stmt} {A : Around} {s : Shared} {env : Env} {h₀ : Heap} {Q : Flow → Shared → Prop} {L : Addr} (st : List Str) {l : Addr} {vs : Array Value} {m₀ : Str → Option Value} {news : List (Addr × Obj)} {n₀ : Nat} (J : Nat → List (Addr × Obj) → Prop) (hEL : env.locals = L)
    (hh : A.handled = none) (hlL : l ≠ L) (hol : s.heap.get? l = some (listOf vs n₀))
    (hlin : ∀ i nx, J i nx → h₀.get? l = some (listOf vs n₀) ∨ (l, listOf vs n₀) ∈ nx)
    (F : Fr h₀ L s.heap m₀) (N : News h₀ L s.heap news) (hj : J 0 news)
    (turn : ∀ i v q nx h tk I o, vs[i]? = some v → I = s.heap.objs.size → (∀ p ∈ nx, p.1 ≠ I) → J i nx → Fr h₀ L h (fun y => if y = x then some v else over (x :: st) q m₀ y) → News h₀ L h ((I, o) :: nx) →
      wpAny (model prog w) A (execs body env) (TurnPost h₀ L (fun m nx => Agree (x :: st) m₀ m ∧ J (i + 1) nx) (I, o) { s with heap := h, toks := tk } Q) E { s with heap := h, toks := tk })
    (done : ∀ q nx h tk, J vs.size nx → Fr h₀ L h (over (x :: st) q m₀) → News h₀ L h nx → Q .next { s with heap := h, toks := tk }) :
    ForAt prog w A h₀ env x body Q E (.ref l) s := by
  subst hEL
  have hls : s.heap.IsList l vs := ⟨_, hol, rfl, n₀, rfl⟩
  have hne : l ≠ s.heap.objs.size := Nat.ne_of_lt (Heap.lt_size hol)
  refine wpAny_pyIter_list hls ?_
  refine iterW (fun i m nx => Agree (x :: st) m₀ m ∧ J i nx) (Walks.list (prog := prog) hh s.heap.objs.size l hne vs) ⟨_, rfl, fun b o e => Heap.get?_push_of_some _ e⟩ (Heap.get?_none_of_le (Nat.le_refl _)) (fun i h st => ?_)
    ⟨⟨_, Heap.get?_push_size _ rfl, rfl, rfl⟩, hls.at fun o e => Heap.get?_push_of_some _ e⟩ hlL hol (fun i m nx hJ => hlin i nx hJ.2) F N ⟨Agree.refl _ _, hj⟩
    (fun i v m₁ nx h tk o hi hv hn hJ F₁ N₁ => turn i v m₁ nx h tk _ o hv rfl hn hJ.2 (by rw [hJ.1.eq] at F₁; exact F₁) N₁) fun m₁ nx h tk hJ F₁ N₁ => done m₁ nx h tk hJ.2 (by rw [hJ.1.eq] at F₁; exact F₁) N₁
  refine ex0_2 st ?_; clear st; intro gN3 _; refine ex1_2 gN3 ?_; clear gN3; intro o ho _; exact ⟨o, ho⟩
theorem iterTup {prog : Program} {E : Value → Shared → Prop} {body : List Stmt} {A : Around} {s : Shared} {env : Env} {h₀ : Heap} {Q : Flow → Shared → Prop} {L : Addr} (st : List Str) {l : Addr} {vs : Array Value} {m₀ : Str → Option Value} {news : List (Addr × Obj)} (J : Nat → List (Addr × Obj) → Prop) (hEL : env.locals = L)
    (hh : A.handled = none) (hlL : l ≠ L) (hol : IsTup h₀ l vs)
    (F : Fr h₀ L s.heap m₀) (N : News h₀ L s.heap news) (hj : J 0 news)
    (turn : ∀ i v q nx h tk I o, vs[i]? = some v → I = s.heap.objs.size → (∀ p ∈ nx, p.1 ≠ I) → J i nx → Fr h₀ L h (fun y => if y = x then some v else over (x :: st) q m₀ y) → News h₀ L h ((I, o) :: nx) →
      wpAny (model prog w) A (execs body env) (TurnPost h₀ L (fun m nx => Agree (x :: st) m₀ m ∧ J (i + 1) nx) (I, o) { s with heap := h, toks := tk } Q) E { s with heap := h, toks := tk })
    (done : ∀ q nx h tk, J vs.size nx → Fr h₀ L h (over (x :: st) q m₀) → News h₀ L h nx → Q .next { s with heap := h, toks := tk }) :
    ForAt prog w A h₀ env x body Q E (.ref l) s := by
  subst hEL
  have hls : IsTup s.heap l vs := hol.keeps F.keep
  obtain ⟨ol, hol', _⟩ := id hol
  have hne : l ≠ s.heap.objs.size := Nat.ne_of_lt hls.lt
  refine wpAny_pyIter_tuple hls ?_
  refine iterW (fun i m nx => Agree (x :: st) m₀ m ∧ J i nx) (Walks.tuple (prog := prog) hh s.heap.objs.size l hne vs) ⟨_, rfl, fun b o e => Heap.get?_push_of_some _ e⟩ (Heap.get?_none_of_le (Nat.le_refl _)) (fun i h st => ?_)
    ⟨⟨_, Heap.get?_push_size _ rfl, rfl, rfl⟩, hls.push _⟩ hlL (F.keep _ _ hol') (fun _ _ _ _ => .inl hol') F N ⟨Agree.refl _ _, hj⟩
    (fun i v m₁ nx h tk o hi hv hn hJ F₁ N₁ => turn i v m₁ nx h tk _ o hv rfl hn hJ.2 (by rw [hJ.1.eq] at F₁; exact F₁) N₁) fun m₁ nx h tk hJ F₁ N₁ => done m₁ nx h tk hJ.2 (by rw [hJ.1.eq] at F₁; exact F₁) N₁
  refine ex0_2 st ?_; clear st; intro gN4 _; refine ex1_2 gN4 ?_; clear gN4; intro o ho _; exact ⟨o, ho⟩
theorem turn_end {h₀ : Heap} {L : Addr} {J : (Str → Option Value) → List (Addr × Obj) → Prop} {it : Addr × Obj} {s₁ : Shared} {h' : Heap} {tk : Nat} {m' : Str → Option Value} {news' : List (Addr × Obj)} (nx : List (Addr × Obj))
    (F : Fr h₀ L h' m') (N : News h₀ L h' news') (hit : it ∈ news') (hsub : ∀ p ∈ nx, p ∈ news') (hne : ∀ p ∈ nx, p.1 ≠ it.1) (hj : J m' nx) : TurnEnd h₀ L J it s₁ { s₁ with heap := h', toks := tk } :=
  ⟨h', tk, m', news', nx, rfl, F, N, hit, hsub, hne, hj⟩
theorem For_stop {m : Str → Option Value} {px pos : Pos} {iter : Expr} (F : Fr h₀ env.locals s.heap m) (hx : env.kindOf x = some .local)
    (hp : (env.scope.kind == .class || (env.scope.kind == .module && env.locals != env.globals)) = false)
    (h : wpAny (model prog w) A (eval iter env) (fun xv s₁ => ForAt prog w A h₀ env x body Q (fun _ _ => False) xv s₁) (fun _ _ => False) s)
    (hs : ∀ x, foldedSetIterable iter env x = pure x) :
    wpAny (model prog w) A (exec (.For (.Name x px) iter body [] pos) env) Q E s :=
  wpAny_mono (For_invVF (E := fun _ _ => False) F hx hp h hs PassesOwn.never) (fun _ _ x => x) fun _ _ x => x.elim
end
example : Sep := by w_top off; first | walk1 | trivial
section
variable {prog : Program} {A : Around} {E : Value → Shared → Prop} {s : Shared} {h₀ : Heap} {L : Addr} {m : Str → Option Value}
theorem sub_T {prog : Program} {E : Value → Shared → Prop} {value : Expr} {p : Pos} {A : Around} {s : Shared} {h₀ : Heap} {L : Addr} {m : Str → Option Value} {c : Nat} {a : Addr} {l : List Value} (k : Nat) {u : Tok} {x : Value} {Q : Value → Shared → Prop} (F : Fr h₀ L s.heap m) (hT : IsTup h₀ a l.toArray) (hk : k < 64) (hx : l[k]? = some x) (h : Q x s) :
    wpAny (model prog w) A (subscriptTail value (.Constant (.int (k : Int)) c p) (.ref a) (.int (k : Int) u)) Q E s := by
  have hl : k < l.length := by
    rcases Nat.lt_or_ge k l.length with h | h
    · exact h
    · rw [List.getElem?_eq_none h] at hx; cases hx
  refine item_tupleT (hT.keeps F.keep) (by lia) (by lia) (j := k) ?_ hx h (by with_unfolding_all rfl)
  have hn : ¬ ((k : Int) < 0) := by lia
  unfold seqIndex?
  simp only [if_neg hn]
  rw [if_pos (by simp only [Bool.and_eq_true, decide_eq_true_eq]; lia)]
  simp
theorem sub_T0 {prog : Program} {E : Value → Shared → Prop} {value : Expr} {p : Pos} {A : Around} {s : Shared} {h₀ : Heap} {L : Addr} {m : Str → Option Value} {c : Nat} {a : Addr} {x : Value} {l : List Value} {u : Tok} {Q : Value → Shared → Prop} (F : Fr h₀ L s.heap m) (hT : IsTup h₀ a (List.toArray (x :: l))) (h : Q x s) :
    wpAny (model prog w) A (subscriptTail value (.Constant (.int 0) c p) (.ref a) (.int 0 u)) Q E s := sub_T 0 F hT (by decide) rfl h
theorem sub_T1 {prog : Program} {E : Value → Shared → Prop} {value : Expr} {p : Pos} {A : Around} {s : Shared} {h₀ : Heap} {L : Addr} {m : Str → Option Value} {c : Nat} {a : Addr} {y x : Value} {l : List Value} {u : Tok} {Q : Value → Shared → Prop} (F : Fr h₀ L s.heap m) (hT : IsTup h₀ a (List.toArray (y :: x :: l))) (h : Q x s) :
    wpAny (model prog w) A (subscriptTail value (.Constant (.int 1) c p) (.ref a) (.int 1 u)) Q E s := sub_T 1 F hT (by decide) rfl h
theorem sub_T2 {prog : Program} {E : Value → Shared → Prop} {value : Expr} {p : Pos} {A : Around} {s : Shared} {h₀ : Heap} {L : Addr} {m : Str → Option Value} {c : Nat} {a : Addr} {y z x : Value} {l : List Value} {u : Tok} {Q : Value → Shared → Prop} (F : Fr h₀ L s.heap m) (hT : IsTup h₀ a (List.toArray (y :: z :: x :: l))) (h : Q x s) :
    wpAny (model prog w) A (subscriptTail value (.Constant (.int 2) c p) (.ref a) (.int 2 u)) Q E s := sub_T 2 F hT (by decide) rfl h
section
variable {M : Model} {A : Around} {E : Value → Shared → Prop} {s : Shared} {K : Frag} {h₀ : Heap} {L a c : Addr} {m mg mb : Str → Option Value} {cn : Str} {cs : Scope} {ccd : Value} {p : Program} {loose : List Str} {x : Str} {pos : Pos} {v : Value} {o : Obj} {news : List (Addr × Obj)} {Q : Value → Shared → Prop}
theorem noDbg {x : Str} {env : Env} {k : NameKind} (hx : env.kindOf x = some k) (hd : env.kindOf ("__debug__" : Str) = none) : (x == ("__debug__" : Str)) = false := by
  cases q : x == ("__debug__" : Str) with
  | false => rfl
  | true => rw [beq_iff_eq.mp q, hd] at hx; cases hx
theorem nameO_L (F : Fr h₀ L s.heap m) (hv : m x = some v) (h : Q v s) (hk : cs.kind = .function) (hx : (envOf cn cs L a ccd).kindOf x = some .local) (hd : (envOf cn cs L a ccd).kindOf ("__debug__" : Str) = none) :
    wpAny M A (eval (.Name x pos) (envOf cn cs L a ccd)) Q E s := nameX_L (cl := []) F hv h hk hx (noDbg hx hd)
theorem nameO_K (F : Fr h₀ L s.heap m) (X : K.In h₀) (T : TopRead p loose mg mb h₀) (e : nsIn K mainGlobals x = some (some v)) (h : Q v s) (hk : cs.kind = .function) (hx : (envOf cn cs L a ccd).kindOf x = some .globalImplicit) (hd : (envOf cn cs L a ccd).kindOf ("__debug__" : Str) = none) :
    wpAny M A (eval (.Name x pos) (envOf cn cs L a ccd)) Q E s := nameX_K (cl := []) F X T e h hk hx (noDbg hx hd)
theorem nameO_B (F : Fr h₀ L s.heap m) (X : K.In h₀) (T : TopRead p loose mg mb h₀) (e : nsIn K mainGlobals x = some none) (hv : bootBuiltins x = some v) (hn : x ≠ "__name__") (h : Q v s) (hk : cs.kind = .function) (hx : (envOf cn cs L a ccd).kindOf x = some .globalImplicit) (hd : (envOf cn cs L a ccd).kindOf ("__debug__" : Str) = none) :
    wpAny M A (eval (.Name x pos) (envOf cn cs L a ccd)) Q E s := nameX_B (cl := []) F X T e hv hn h hk hx (noDbg hx hd)
theorem nameOC_L (F : Fr h₀ L s.heap m) (hv : m x = some v) (h : Q v s) (hk : cs.kind = .function) (hx : (envOfC cn cs L a ccd).kindOf x = some .local) (hd : (envOfC cn cs L a ccd).kindOf ("__debug__" : Str) = none) :
    wpAny M A (eval (.Name x pos) (envOfC cn cs L a ccd)) Q E s := nameX_L (cl := cellsFrom (L + 1) cs.names []) F hv h hk hx (noDbg hx hd)
theorem nameOC_K (F : Fr h₀ L s.heap m) (X : K.In h₀) (T : TopRead p loose mg mb h₀) (e : nsIn K mainGlobals x = some (some v)) (h : Q v s) (hk : cs.kind = .function) (hx : (envOfC cn cs L a ccd).kindOf x = some .globalImplicit) (hd : (envOfC cn cs L a ccd).kindOf ("__debug__" : Str) = none) :
    wpAny M A (eval (.Name x pos) (envOfC cn cs L a ccd)) Q E s := nameX_K (cl := cellsFrom (L + 1) cs.names []) F X T e h hk hx (noDbg hx hd)
theorem nameOC_B (F : Fr h₀ L s.heap m) (X : K.In h₀) (T : TopRead p loose mg mb h₀) (e : nsIn K mainGlobals x = some none) (hv : bootBuiltins x = some v) (hn : x ≠ "__name__") (h : Q v s) (hk : cs.kind = .function) (hx : (envOfC cn cs L a ccd).kindOf x = some .globalImplicit) (hd : (envOfC cn cs L a ccd).kindOf ("__debug__" : Str) = none) :
    wpAny M A (eval (.Name x pos) (envOfC cn cs L a ccd)) Q E s := nameX_B (cl := cellsFrom (L + 1) cs.names []) F X T e hv hn h hk hx (noDbg hx hd)
theorem nameOC_C (N : News h₀ L s.heap news) (hc : (cellsFrom (L + 1) cs.names []).lookup x = some c) (hm : (c, o) ∈ news) (hd : o.data = .cell (some v)) (h : Q v s) (hk : cs.kind = .function) (hx : (envOfC cn cs L a ccd).kindOf x = some .cell) (hb : (envOfC cn cs L a ccd).kindOf ("__debug__" : Str) = none) :
    wpAny M A (eval (.Name x pos) (envOfC cn cs L a ccd)) Q E s := nameX_C (cl := cellsFrom (L + 1) cs.names []) N hc hm hd h hk hx (noDbg hx hb)
end
noncomputable def WhileAt (prog : Program) (w : World) (A : Around) (env : Env) (test : Expr) (body : List Stmt) (Q : Flow → Shared → Prop) (s : Shared) : Prop :=
  ∀ (E : Value → Shared → Prop) (pos : Pos), wpAny (model prog w) A (exec (.While test body [] pos) env) Q E s
theorem While_stop {prog : Program} {E : Value → Shared → Prop} {test : Expr} {body : List Stmt} {pos : Pos} {A : Around} {s : Shared} {env : Env} {Q : Flow → Shared → Prop} (h : WhileAt prog w A env test body Q s) :
    wpAny (model prog w) A (exec (.While test body [] pos) env) Q E s := h E pos
theorem not_of_false {b : Bool} (h : b = false) : ¬ (b = true) := by rw [h]; exact Bool.false_ne_true
noncomputable def WNext (I : Nat → Shared → Prop) (n : Nat) (s : Shared) : Prop := ∃ m, m < n ∧ I m s
end
local macro_rules | `(tactic| walk_at $s:str) => `(tactic| k_extra $(Lean.Syntax.mkStrLit ("m" ++ s.getString)))
example : True := by
  k_with "eN" => (k_extra "mEN"; intro L' s₁ hL' F S r' hDbg; refine absQ ?_; intro gGk hGk)
  k_with "eC" => (k_extra "mENC"; intro L' s₁ cells hL' F N Y S r' hDbg; refine absQ ?_; intro gGk hGk)
  k_with "qA" => (refine absQ ?_; intro gGk hGk)
  k_with "qB" => (refine byK ?_; intro gK hK)
  k_with "qC" => (refine hK ?_; clear hK gK)
  k_with "wa" => (with_reducible assumption)
  k_with "a" => (first | with_reducible assumption | assumption)
  k_with "qD" => (first | (refine absQ ?_; intro gGk hGk) | (with_reducible show ∀ G, Imp _ G → _; intro gGk hGk) | skip)
  k_with "mP4" => ((case jf => k_extra "a"); (case jn => k_extra "a"); (case jo => k_extra "a"); (case jr => k_extra "mE rm"))
  k_with "mP3" => ((case jf => k_extra "a"); (case jn => k_extra "a"); (case jo => k_extra "a"))
  k_with "mP2" => ((case jf => k_extra "a"); (case jn => k_extra "a"))
  k_with "mX5" => ((case jx0 => k_extra "a"); (case jx1 => k_extra "a"); (case jx2 => k_extra "a"); (case jx3 => k_extra "a"); (case jx4 => k_extra "a"))
  k_with "mX4" => ((case jx0 => k_extra "a"); (case jx1 => k_extra "a"); (case jx2 => k_extra "a"); (case jx3 => k_extra "a"))
  k_with "mX3" => ((case jx0 => k_extra "a"); (case jx1 => k_extra "a"); (case jx2 => k_extra "a"))
  k_with "mX2" => ((case jx0 => k_extra "a"); (case jx1 => k_extra "a"))
  k_with "mX1" => ((case jx0 => k_extra "a"))
  k_with "mgt" => (first | exact Fr.keep (by assumption) _ _ (by assumption) | exact News.get (by assumption) (by k_mem))
  k_with "mit" => (first | exact IsTup.keeps (by assumption) (Fr.keep (by assumption)) | exact News.isTup (by assumption) (by k_mem))
  k_with "mol" => (first | k_extra "mE om" | (simp only [List.length_append, List.length_cons, List.length_nil]; k_extra "mE om"))
  k_with "mnm" => (first | assumption | exact (fun _ h => nomatch h))
  k_with "mN3" => ((case jF => k_extra "a"); (case jb => k_dflt apply Eq.refl (some _)); (case jv => k_dflt apply Eq.refl (some _)); (case ja => k_dflt eq_refl); (case jd => exact hDbg))
  k_with "mN4" => ((case jF => k_extra "a"); (case jb => k_dflt apply Eq.refl (some _)); (case jX => k_extra "a"); (case jT => exact topRead_of (by assumption)); (case ja => k_dflt eq_refl); (case jd => exact hDbg); (case je => k_is))
  k_with "mN1" => ((case jF => k_extra "a"); (case jb => k_dflt apply Eq.refl (some _)); (case jv => k_dflt apply Eq.refl (some _)); (case ja => k_dflt eq_refl); (case jd => k_dflt decide))
  k_with "mN2" => ((case jF => k_extra "a"); (case jb => k_dflt apply Eq.refl (some _)); (case jX => k_extra "a"); (case jT => exact topRead_of (by assumption)); (case ja => k_dflt eq_refl); (case jd => k_dflt decide); (case je => k_is))
  k_with "mK3" => ((case jF => k_dflt k_extra "a"); (case jO => k_extra "a"); (case jk => eq_refl))
  k_with "mao" => (first | assumption | k_extra "mE om")
  k_with "man" => (first | assumption | exact .nil)
  k_with "mFN" => ((case jF => k_extra "a"); (case jN => k_extra "a"))
  k_with "mfx" => ((case jF => k_extra "a"); (case jX => k_extra "a"))
  k_with "moc" => ((simp only [List.length_cons, List.length_nil] at *; k_extra "mE om"))
  k_with "msw" => ((try k_sweep))
  exact trivial
local macro_rules | `(tactic| walk_at "H Fr") => `(tactic| rename Fr _ _ _ _ => lF')
local macro_rules | `(tactic| walk_at "H News") => `(tactic| rename News _ _ _ _ => N9)
example : True := by
 k_with "mE sub" => first | refine sub_T0 (by assumption) (by assumption) ?_ | refine sub_T1 (by assumption) (by assumption) ?_ | refine sub_T2 (by assumption) (by assumption) ?_
 k_with "meval Name" => first | ((with_reducible refine' nameO_L ?jF ?jv ?_ ?ja ?jb ?jd); k_extra "mN3") | ((with_reducible refine' nameO_K ?jF ?jX ?jT ?je ?_ ?ja ?jb ?jd); k_extra "mN4") | ((with_reducible refine' nameO_B ?jF ?jX ?jT ?je ?jv ?jn ?_ ?ja ?jb ?jd); k_extra "mN4"; (case jv => k_dflt boot_fast); (case jn => k_dflt decide)) | k_extra "mE nameOC"
 k_with "mE nameOC" => first | ((with_reducible refine' nameOC_L ?jF ?jv ?_ ?ja ?jb ?jd); k_extra "mN3") | ((with_reducible refine' nameOC_C ?jN ?jc ?jm ?jo ?_ ?ja ?jb ?jd); (case jN => k_extra "a"); (case jb => k_dflt apply Eq.refl (some _)); (case jc => k_dflt apply Eq.refl (some _)); (case jm => k_mem); (case jo => k_extra "a"); (case ja => k_dflt eq_refl); (case jd => exact hDbg)) | ((with_reducible refine' nameOC_K ?jF ?jX ?jT ?je ?_ ?ja ?jb ?jd); k_extra "mN4") | ((with_reducible refine' nameOC_B ?jF ?jX ?jT ?je ?jv ?jn ?_ ?ja ?jb ?jd); k_extra "mN4"; (case jv => k_dflt boot_fast); (case jn => k_dflt decide)) | k_extra "mE nameC"
 k_with "msubscriptTail Name Constant ref int" => k_extra "mE sub"
 k_with "msubscriptTail Subscript" => k_extra "mE sub"
 k_with "msubscriptTail Call" => k_extra "mE sub"
 k_with "mexec While" => refine While_stop ?_
 k_with "mexec While Compare cons nil" => refine While_stop ?_
 k_with "mexec While BoolOp cons nil" => refine While_stop ?_
 k_with "mE for" => (walk_at "H Fr"; (with_unfolding_all refine' For_stop ?jlF ?jk1 ?jk2 ?_ ?jk3; (case jlF => (rename Fr _ _ _ _ => lF'; exact lF')); (case jk1 => exact rfl); (case jk2 => exact rfl); (case jk3 => exact fun _ => rfl)))
 k_with "mexec For Name Call cons nil" => k_extra "mE for"
 k_with "mexec For Name Subscript cons nil" => k_extra "mE for"
 k_with "mexec For Name IfExp cons nil" => k_extra "mE for"
 k_with "mexec For Name Constant cons nil" => k_extra "mE for"
 k_with "mexec For Name Attribute cons nil" => k_extra "mE for"
 k_with "mcallWith builtin:list.append" => k_extra "mE meth"
 k_with "mcallWith builtin:list.pop" => k_extra "mE meth"
 k_with "mcallWith builtin:list.insert" => k_extra "mE meth"
 k_with "mcallWith builtin:list.extend" => k_extra "mE meth"
 k_with "mcallWith builtin:list.index" => k_extra "mE meth"
 k_with "mite" => first | (k_closed; (first | with_reducible refine ite_neg (by k_dflt decide +kernel) ?_ | with_reducible refine ite_pos (by k_dflt decide +kernel) ?_)) | (refine ite_pos (by assumption) ?_) | (refine ite_neg (not_of_false (by assumption)) ?_)
 exact trivial
example : Sep := by w_top off; first | walk1 | trivial
theorem byK {P : Prop} (h : ∀ G : Prop, (P → G) → G) : P := h P id
theorem OkH.ex {h : Heap} (O : OkH w h) : ∃ q : Program × List Str × (ExcName → Option Value) × (Str → Option Value) × (Str → Option Value), Top q.1 q.2.1 q.2.2.1 q.2.2.2.1 q.2.2.2.2 h := by
  refine ex5_1 (O.T) ?_; intro p l me mg mb T; exact ⟨(p, l, me, mg, mb), T⟩
noncomputable def OkH.q {h : Heap} (O : OkH w h) : Program × List Str × (ExcName → Option Value) × (Str → Option Value) × (Str → Option Value) := O.ex.choose
theorem OkH.top {h : Heap} (O : OkH w h) : Top O.q.1 O.q.2.1 O.q.2.2.1 O.q.2.2.2.1 O.q.2.2.2.2 h := O.ex.choose_spec
section
variable (M : Model) (A : Around) (E : Value → Shared → Prop) (env : Env)
noncomputable def SeqK (rest : List Stmt) (Q : Flow → Shared → Prop) : Flow → Shared → Prop := fun f s => match f with | .next => wpAny M A (execs rest env) Q E s | f => Q f s
noncomputable def IfK (body orelse : List Stmt) (Q : Flow → Shared → Prop) (b : Bool) (s : Shared) : Prop := if b then wpAny M A (execs body env) Q E s else wpAny M A (execs orelse env) Q E s
noncomputable def IfE (body orelse : PySem.Expr) (Q : Value → Shared → Prop) (b : Bool) (s : Shared) : Prop := if b then wpAny M A (eval body env) Q E s else wpAny M A (eval orelse env) Q E s
noncomputable abbrev TruthK (Q : Bool → Shared → Prop) : Value → Shared → Prop := fun v s => wpAny M A (truthy v) Q E s
noncomputable abbrev CmpR (op : CmpOp) (Q : Bool → Shared → Prop) (a : Value) : Value → Shared → Prop := fun b s => wpAny M A (compareOp op a b) (TruthK M A E Q) E s
noncomputable abbrev CmpL (op : CmpOp) (r : PySem.Expr) (Q : Bool → Shared → Prop) : Value → Shared → Prop := fun a s => wpAny M A (eval r env) (CmpR M A E op Q a) E s
noncomputable abbrev SubR (value slice : PySem.Expr) (Q : Value → Shared → Prop) (o : Value) : Value → Shared → Prop := fun i s => wpAny M A (subscriptTail value slice o i) Q E s
noncomputable abbrev SubL (value slice : PySem.Expr) (Q : Value → Shared → Prop) : Value → Shared → Prop := fun o s => wpAny M A (eval slice env) (SubR M A E value slice Q o) E s
noncomputable abbrev ConsK (v : Value) (Q : List Value → Shared → Prop) : List Value → Shared → Prop := fun vs s => Q (v :: vs) s
noncomputable abbrev ArgK (pos : Pos) (rest : List PySem.Expr) (Q : List Value → Shared → Prop) : Value → Shared → Prop := fun v s => wpAny M A (spliced (backTo pos (starEach rest env))) (ConsK v Q) E s
noncomputable abbrev CallK (pos : Pos) (args : List PySem.Expr) (Q : Value → Shared → Prop) : Value → Shared → Prop := fun f s => wpAny M A (callWith pos f [] (backTo pos (starEach args env)) []) Q E s
noncomputable abbrev MethK2 (pos : Pos) (args : List PySem.Expr) (Q : Value → Shared → Prop) : Value × List Value → Shared → Prop := fun fx s => wpAny M A (callWith pos fx.1 fx.2 (backTo pos (starEach args env)) []) Q E s
noncomputable abbrev MethK (name : Str) (pl : Sem Bool) (pos : Pos) (args : List PySem.Expr) (Q : Value → Shared → Prop) : Value → Shared → Prop := fun ov s => wpAny M A (getMethod ov name pl) (MethK2 M A E env pos args Q) E s
noncomputable abbrev AppK (f : Value) (first : List Value) (Q : Value → Shared → Prop) : List Value → Shared → Prop := fun vs s => wpAny M A (call f (first ++ vs)) Q E s
noncomputable abbrev App1 (f x : Value) (Q : Value → Shared → Prop) : List Value → Shared → Prop := fun vs s => wpAny M A (call f (x :: vs)) Q E s
noncomputable abbrev TupK (Q : Value → Shared → Prop) : List Value → Shared → Prop := fun vs s => wpAny M A (newTuple vs) Q E s
noncomputable abbrev ListK (Q : Value → Shared → Prop) : List Value → Shared → Prop := fun vs s => wpAny M A (newList vs) Q E s
noncomputable abbrev NextK (Q : Flow → Shared → Prop) : Unit → Shared → Prop := fun _ s => Q .next s
noncomputable abbrev AsgK (x : Str) (Q : Flow → Shared → Prop) : Value → Shared → Prop := fun v s => wpAny M A (storeName env x v) (NextK Q) E s
noncomputable abbrev RetK (Q : Flow → Shared → Prop) : Value → Shared → Prop := fun v s => Q (.ret v) s
noncomputable def AndK (rest : List PySem.Expr) (pos : Pos) (whole : Sem Value) (Q : Bool → Shared → Prop) (b : Bool) (s : Shared) : Prop := if b then wpAny M A (isTrue (.BoolOp .And rest pos) env whole) Q E s else Q false s
noncomputable def OrK (rest : List PySem.Expr) (pos : Pos) (whole : Sem Value) (Q : Bool → Shared → Prop) (b : Bool) (s : Shared) : Prop := if b then Q true s else wpAny M A (isTrue (.BoolOp .Or rest pos) env whole) Q E s
end
noncomputable def noStar (e : PySem.Expr) : Bool := e.ctorIdx != 22
theorem noStar_each {e : PySem.Expr} {rest : List PySem.Expr} {env : Env} (h : noStar e = true) : starEach (e :: rest) env = (false, eval e env) :: starEach rest env := by
  cases e <;> first | rfl | (exact absurd h (by decide)) | (simp only [noStar] at h; exact absurd h Bool.false_ne_true)
section
variable {M : Model} {A : Around} {E : Value → Shared → Prop} {s : Shared} {env : Env}
theorem seq_c {M : Model} {E : Value → Shared → Prop} {st rest} {A : Around} {s : Shared} {env : Env} {Q : Flow → Shared → Prop} (h : wpAny M A (exec st env) (SeqK M A E env rest Q) E s) : wpAny M A (execs (st :: rest) env) Q E s := wpAny_execs_cons (wpAny_mono h (fun f _ x => by cases f <;> exact x) fun _ _ x => x)
theorem seqK_n {M : Model} {E : Value → Shared → Prop} {rest} {A : Around} {s : Shared} {env : Env} {Q : Flow → Shared → Prop} (h : wpAny M A (execs rest env) Q E s) : SeqK M A E env rest Q .next s := h
theorem seqK_r {M : Model} {E : Value → Shared → Prop} {rest} {A : Around} {s : Shared} {env : Env} {Q : Flow → Shared → Prop} {v : Value} (h : Q (.ret v) s) : SeqK M A E env rest Q (.ret v) s := h
theorem if_c {M : Model} {E : Value → Shared → Prop} {test body orelse pos} {A : Around} {s : Shared} {env : Env} {Q : Flow → Shared → Prop} (h : wpAny M A (isTrue test env (eval test env)) (IfK M A E env body orelse Q) E s) : wpAny M A (exec (.If test body orelse pos) env) Q E s := wpAny_If h
theorem ifK_t {M : Model} {E : Value → Shared → Prop} {body orelse} {A : Around} {s : Shared} {env : Env} {Q : Flow → Shared → Prop} {b : Bool} (hb : b = true) (h : wpAny M A (execs body env) Q E s) : IfK M A E env body orelse Q b s := by subst hb; exact h
theorem ifK_f {M : Model} {E : Value → Shared → Prop} {body orelse} {A : Around} {s : Shared} {env : Env} {Q : Flow → Shared → Prop} {b : Bool} (hb : b = false) (h : wpAny M A (execs orelse env) Q E s) : IfK M A E env body orelse Q b s := by subst hb; exact h
theorem ifK_i {M : Model} {E : Value → Shared → Prop} {body orelse} {A : Around} {s : Shared} {env : Env} {Q : Flow → Shared → Prop} {b : Bool} (h : if b then wpAny M A (execs body env) Q E s else wpAny M A (execs orelse env) Q E s) : IfK M A E env body orelse Q b s := h
theorem ifE_c {M : Model} {E : Value → Shared → Prop} {test body orelse pos} {A : Around} {s : Shared} {env : Env} {Q : Value → Shared → Prop} (h : wpAny M A (isTrue test env (eval test env)) (IfE M A E env body orelse Q) E s) : wpAny M A (eval (.IfExp test body orelse pos) env) Q E s := IfExp_ h
theorem ifE_t {M : Model} {E : Value → Shared → Prop} {body orelse} {A : Around} {s : Shared} {env : Env} {Q : Value → Shared → Prop} {b : Bool} (hb : b = true) (h : wpAny M A (eval body env) Q E s) : IfE M A E env body orelse Q b s := by subst hb; exact h
theorem ifE_f {M : Model} {E : Value → Shared → Prop} {body orelse} {A : Around} {s : Shared} {env : Env} {Q : Value → Shared → Prop} {b : Bool} (hb : b = false) (h : wpAny M A (eval orelse env) Q E s) : IfE M A E env body orelse Q b s := by subst hb; exact h
theorem ifE_i {M : Model} {E : Value → Shared → Prop} {body orelse} {A : Around} {s : Shared} {env : Env} {Q : Value → Shared → Prop} {b : Bool} (h : if b then wpAny M A (eval body env) Q E s else wpAny M A (eval orelse env) Q E s) : IfE M A E env body orelse Q b s := h
theorem and_c {M : Model} {E : Value → Shared → Prop} {x rest pos whole} {A : Around} {s : Shared} {env : Env} {Q : Bool → Shared → Prop} (h : wpAny M A (isTrue x env (eval x env)) (AndK M A E env rest pos whole Q) E s) : wpAny M A (isTrue (.BoolOp .And (x :: rest) pos) env whole) Q E s := isTrue_and h
theorem or_c {M : Model} {E : Value → Shared → Prop} {x rest pos whole} {A : Around} {s : Shared} {env : Env} {Q : Bool → Shared → Prop} (h : wpAny M A (isTrue x env (eval x env)) (OrK M A E env rest pos whole Q) E s) : wpAny M A (isTrue (.BoolOp .Or (x :: rest) pos) env whole) Q E s := isTrue_or h
theorem andK_t {M : Model} {E : Value → Shared → Prop} {rest pos whole} {A : Around} {s : Shared} {env : Env} {Q : Bool → Shared → Prop} {b : Bool} (hb : b = true) (h : wpAny M A (isTrue (.BoolOp .And rest pos) env whole) Q E s) : AndK M A E env rest pos whole Q b s := by subst hb; exact h
theorem andK_f {M : Model} {E : Value → Shared → Prop} {rest pos whole} {A : Around} {s : Shared} {env : Env} {Q : Bool → Shared → Prop} {b : Bool} (hb : b = false) (h : Q false s) : AndK M A E env rest pos whole Q b s := by subst hb; exact h
theorem andK_i {M : Model} {E : Value → Shared → Prop} {rest pos whole} {A : Around} {s : Shared} {env : Env} {Q : Bool → Shared → Prop} {b : Bool} (h : if b then wpAny M A (isTrue (.BoolOp .And rest pos) env whole) Q E s else Q false s) : AndK M A E env rest pos whole Q b s := h
theorem orK_t {M : Model} {E : Value → Shared → Prop} {rest pos whole} {A : Around} {s : Shared} {env : Env} {Q : Bool → Shared → Prop} {b : Bool} (hb : b = true) (h : Q true s) : OrK M A E env rest pos whole Q b s := by subst hb; exact h
theorem orK_f {M : Model} {E : Value → Shared → Prop} {rest pos whole} {A : Around} {s : Shared} {env : Env} {Q : Bool → Shared → Prop} {b : Bool} (hb : b = false) (h : wpAny M A (isTrue (.BoolOp .Or rest pos) env whole) Q E s) : OrK M A E env rest pos whole Q b s := by subst hb; exact h
theorem orK_i {M : Model} {E : Value → Shared → Prop} {rest pos whole} {A : Around} {s : Shared} {env : Env} {Q : Bool → Shared → Prop} {b : Bool} (h : if b then Q true s else wpAny M A (isTrue (.BoolOp .Or rest pos) env whole) Q E s) : OrK M A E env rest pos whole Q b s := h
theorem true_c {M : Model} {E : Value → Shared → Prop} {e : PySem.Expr} {A : Around} {s : Shared} {env : Env} {whole : Sem Value} {Q : Bool → Shared → Prop} (h : wpAny M A whole (TruthK M A E Q) E s) (he : isTrue e env whole = (do let v ← whole; standAt e.pos; holding [v] (truthy v))) : wpAny M A (isTrue e env whole) Q E s := isTrue_plain h he
theorem cmp_c {M : Model} {E : Value → Shared → Prop} {l op r pos whole} {A : Around} {s : Shared} {env : Env} {Q : Bool → Shared → Prop} (h : wpAny M A (eval l env) (CmpL M A E env op r Q) E s) (hm : behindInMarks op r = false) : wpAny M A (isTrue (.Compare l [op] [r] pos) env whole) Q E s := wpAny_isTrue_Compare1 h hm
theorem sub_c {M : Model} {E : Value → Shared → Prop} {value slice pos} {A : Around} {s : Shared} {env : Env} {Q : Value → Shared → Prop} (h : wpAny M A (eval value env) (SubL M A E env value slice Q) E s) : wpAny M A (eval (.Subscript value slice pos) env) Q E s := Subscript_ h
theorem args_c {M : Model} {E : Value → Shared → Prop} {e : PySem.Expr} {rest : List PySem.Expr} {pos : Pos} {A : Around} {s : Shared} {env : Env} {Q : List Value → Shared → Prop} (hs : noStar e = true) (h : wpAny M A (eval e env) (ArgK M A E env pos rest Q) E s) : wpAny M A (spliced (backTo pos (starEach (e :: rest) env))) Q E s := args_cons h (noStar_each hs)
theorem call_c {func : PySem.Expr} {args : List PySem.Expr} {pos : Pos} {Q : Value → Shared → Prop} (h : wpAny M A (eval func env) (CallK M A E env pos args Q) E s) (he : eval (.Call func args [] pos) env = (do callWith pos (← eval func env) [] (backTo pos (starEach args env)) (backToKw pos (keywordEach [] env)))) : wpAny M A (eval (.Call func args [] pos) env) Q E s := Call_ h he
theorem call_n {M : Model} {E : Value → Shared → Prop} {p : Pos} {args : List PySem.Expr} {pos : Pos} {fn : Str} {A : Around} {s : Shared} {env : Env} {Q : Value → Shared → Prop} (h : wpAny M A (eval (.Name fn p) env) (CallK M A E env pos args Q) E s) : wpAny M A (eval (.Call (.Name fn p) args [] pos) env) Q E s := call_c h rfl
theorem true_call {M : Model} {E : Value → Shared → Prop} {f : PySem.Expr} {args : List PySem.Expr} {pos : Pos} {A : Around} {s : Shared} {env : Env} {kws : List Keyword} {whole : Sem Value} {Q : Bool → Shared → Prop} (h : wpAny M A whole (TruthK M A E Q) E s) : wpAny M A (isTrue (.Call f args kws pos) env whole) Q E s := true_c h rfl
theorem meth_c {M : Model} {E : Value → Shared → Prop} {o : PySem.Expr} {apos pos : Pos} {args : List PySem.Expr} {name : Str} {A : Around} {s : Shared} {env : Env} {pl : Sem Bool} {Q : Value → Shared → Prop} (h : wpAny M A (eval o env) (MethK M A E env name pl pos args Q) E s)
    (he : eval (.Call (.Attribute o name apos) args [] pos) env = (do
      let ov ← eval o env
      standAt apos.atName
      let (f, first) ← holding [ov] (getMethod ov name pl)
      callWith pos f first (backTo pos (starEach args env)) [])) : wpAny M A (eval (.Call (.Attribute o name apos) args [] pos) env) Q E s := MethodCall_ h he
theorem tup_c {M : Model} {E : Value → Shared → Prop} {elts : List PySem.Expr} {pos : Pos} {A : Around} {s : Shared} {env : Env} {k : Nat} {Q : Value → Shared → Prop} (h : wpAny M A (spliced (backTo pos (starEach elts env))) (TupK M A E Q) E s) : wpAny M A (eval (.Tuple elts k pos) env) Q E s := Tuple_ h
theorem list_c {M : Model} {E : Value → Shared → Prop} {elts : List PySem.Expr} {pos : Pos} {A : Around} {s : Shared} {env : Env} {Q : Value → Shared → Prop} (h : wpAny M A (spliced (backTo pos (starEach elts env))) (ListK M A E Q) E s) : wpAny M A (eval (.List elts pos) env) Q E s := List_ h
theorem ret_c {M : Model} {E : Value → Shared → Prop} {e pos} {A : Around} {s : Shared} {env : Env} {Q : Flow → Shared → Prop} (h : wpAny M A (eval e env) (RetK Q) E s) : wpAny M A (exec (.Return (some e) pos) env) Q E s := wpAny_Return_some h
end
theorem NeAll.e1 {l : Nat} : NeAll l [] = True := rfl
theorem NeAll.e2 {l : Nat} {p : Addr × Obj} {r : List (Addr × Obj)} : NeAll l (p :: r) = (@Ne Nat p.1 l ∧ NeAll l r) := rfl
theorem ALt.e1 {l : Nat} : AllLt l [] = True := rfl
theorem ALt.e2 {l : Nat} {p : Addr × Obj} {r : List (Addr × Obj)} : AllLt l (p :: r) = (@LT.lt Nat _ p.1 l ∧ AllLt l r) := rfl
theorem ALt.at {d a : Nat} {o : Obj} {r : List (Addr × Obj)} (h : AllLt d r) (m : (a, o) ∈ r) : @Ne Nat a d := Nat.ne_of_lt (PySem.W.ktn_ltOf h _ m)
theorem ALt.at' {d a : Nat} {o : Obj} {r : List (Addr × Obj)} (h : AllLt d r) (m : (a, o) ∈ r) : @Ne Nat d a := Ne.symm (ALt.at h m)
theorem ALt.lt {d : Nat} {r : List (Addr × Obj)} (h : AllLt d r) : ∀ p ∈ r, @LT.lt Nat _ p.1 d := PySem.W.ktn_ltOf h
noncomputable def Hold {α : Type} (G : α → Shared → Prop) (v : α) (s : Shared) : Prop := G v s
noncomputable def Imp {α : Type} (Q G : α → Shared → Prop) : Prop := ∀ v s, Q v s → G v s
theorem absQ {M : Model} {E : Value → Shared → Prop} {α : Type} {A : Around} {x : Sem α} {s : Shared} {Q : α → Shared → Prop} (h : ∀ G, Imp Q G → wpAny M A x (Hold G) E s) : wpAny M A x Q E s := h Q fun _ _ h => h
theorem holdK {α : Type} {Q G : α → Shared → Prop} {v : α} {s : Shared} (h : Imp Q G) (k : Q v s) : Hold G v s := h v s k
section
variable {prog : Program} {A : Around} {E : Value → Shared → Prop} {s : Shared}
noncomputable def WTest (M : Model) (A : Around) (env : Env) (body : List Stmt) (G Q : Flow → Shared → Prop) (b : Bool) (s : Shared) : Prop := if b then wpAny M A (execs body env) (Hold G) (fun _ _ => False) s else Q .next s
theorem wT_t {M : Model} {body : List Stmt} {A : Around} {s : Shared} {env : Env} {G Q : Flow → Shared → Prop} {b : Bool} (hb : b = true) (h : wpAny M A (execs body env) (Hold G) (fun _ _ => False) s) : WTest M A env body G Q b s := by subst hb; exact h
theorem wT_f {M : Model} {body : List Stmt} {A : Around} {s : Shared} {env : Env} {G Q : Flow → Shared → Prop} {b : Bool} (hb : b = false) (h : Q .next s) : WTest M A env body G Q b s := by subst hb; exact h
noncomputable def WEnd (I : Nat → Shared → Prop) (n : Nat) (Q : Flow → Shared → Prop) (f : Flow) (s : Shared) : Prop := match f with
  | .next | .cont => WNext I n s
  | .brk => Q .next s
  | .ret v => Q (.ret v) s
theorem while_rule {env : Env} {test : PySem.Expr} {body : List Stmt} {Q : Flow → Shared → Prop} (I : Nat → Shared → Prop) (n : Nat) (h : I n s)
    (turn : ∀ n s, I n s → ∀ G, Imp (WEnd I n Q) G → wpAny (model prog w) A (isTrue test env (eval test env)) (WTest (model prog w) A env body G Q) (fun _ _ => False) s) : WhileAt prog w A env test body Q s := by
  intro E pos
  refine wpAny_While (codeAny_whileLoop I (fun n s hI => ?_) n h)
  refine wpAny_mono (turn n s hI (WEnd I n Q) fun _ _ x => x) (fun b s₂ hb => ?_) fun _ _ x => x.elim
  cases b with
  | false => exact wpAny_execs_nil hb
  | true => exact wpAny_mono hb (fun f s₃ hf => by cases f <;> exact hf) fun _ _ x => x.elim
theorem while_none {prog : Program} {test : PySem.Expr} {body : List Stmt} {A : Around} {s : Shared} {env : Env} {Q : Flow → Shared → Prop}
    (h : wpAny (model prog w) A (isTrue test env (eval test env)) (fun b s₂ => if b then False else Q .next s₂) (fun _ _ => False) s) : WhileAt prog w A env test body Q s := by
  refine while_rule (fun _ s' => s' = s) 0 rfl ?_
  rintro n s' rfl G hG
  refine wpAny_mono h (fun b s₂ hb => ?_) fun _ _ x => x
  cases b with
  | false => exact hb
  | true => exact hb.elim
end
section
variable {prog : Program} {M : Model} {A : Around} {E : Value → Shared → Prop} {s : Shared} {h₀ : Heap} {L : Addr} {m : Str → Option Value} {news : List (Addr × Obj)}
theorem newTup_a {M : Model} {E : Value → Shared → Prop} {A : Around} {s : Shared} {h₀ : Heap} {L : Addr} {m : Str → Option Value} {news : List (Addr × Obj)} {vs : List Value} {Q : Value → Shared → Prop} (F : Fr h₀ L s.heap m) (N : News h₀ L s.heap news)
    (h : ∀ D h', Fr h₀ L h' m → News h₀ L h' ((D, ({ cls := .type "tuple", data := .seq vs.toArray } : Obj)) :: news) → AllLt D news → Q (.ref D) { s with heap := h' }) (hz : vs.length ≤ sizeLine) : wpAny M A (newTuple vs) Q E s :=
  kup_newTuple F N (fun D h' F N l => h D h' F N (allLt_of l)) hz
theorem newLst_a {M : Model} {E : Value → Shared → Prop} {A : Around} {s : Shared} {h₀ : Heap} {L : Addr} {m : Str → Option Value} {news : List (Addr × Obj)} {vs : List Value} {Q : Value → Shared → Prop} (F : Fr h₀ L s.heap m) (N : News h₀ L s.heap news)
    (h : ∀ l h', Fr h₀ L h' m → News h₀ L h' ((l, listOf vs.toArray 0) :: news) → AllLt l news → Q (.ref l) { s with heap := h' }) (hsz : vs.length ≤ sizeLine) : wpAny M A (newList vs) Q E s :=
  newList_K F N (fun D h' F N l => h D h' F N (allLt_of l)) hsz
end
theorem dbg_in {M : Model} {E : Value → Shared → Prop} {b : List Stmt} {A : Around} {s : Shared} {env : Env} {Q : Flow → Shared → Prop} (hd : env.kindOf (Str.ofString "__debug__") = none) (h : env.kindOf (Str.ofString "__debug__") = none → wpAny M A (execs b env) Q E s) : wpAny M A (execs b env) Q E s := h hd
theorem qzm1 {α : Type} {a x : α} {l : List α} : x ∈ a :: x :: l := .tail _ (.head _)
theorem qzm2 {α : Type} {a b x : α} {l : List α} : x ∈ a :: b :: x :: l := .tail _ qzm1
theorem qzm3 {α : Type} {a b c x : α} {l : List α} : x ∈ a :: b :: c :: x :: l := .tail _ qzm2
theorem qzm4 {α : Type} {a b c d x : α} {l : List α} : x ∈ a :: b :: c :: d :: x :: l := .tail _ qzm3
theorem qzm5 {α : Type} {a b c d e x : α} {l : List α} : x ∈ a :: b :: c :: d :: e :: x :: l := .tail _ qzm4
theorem qzm6 {α : Type} {a b c d e f x : α} {l : List α} : x ∈ a :: b :: c :: d :: e :: f :: x :: l := .tail _ qzm5
theorem qzm7 {α : Type} {a b c d e f g x : α} {l : List α} : x ∈ a :: b :: c :: d :: e :: f :: g :: x :: l := .tail _ qzm6
theorem qzm8 {α : Type} {a b c d e f g i x : α} {l : List α} : x ∈ a :: b :: c :: d :: e :: f :: g :: i :: x :: l := .tail _ qzm7
theorem qzo0 {a n m : Nat} (h : a ≤ n) (k : n ≤ m) : a ≤ m := Nat.le_trans h k
theorem qzoE {a n m : Nat} (h : a = n) (k : n ≤ m) : a ≤ m := h ▸ k
theorem qzoL {a n m : Nat} (h : a < n) (k : n ≤ m) : a ≤ m := Nat.le_trans (Nat.le_of_lt h) k
theorem qzoM {a n m : Nat} (h : a < n) (k : n ≤ m) : a < m := Nat.lt_of_lt_of_le h k
theorem qzoN {a n m : Nat} (h : a ≤ n) (k : n < m) : a < m := Nat.lt_of_le_of_lt h k
theorem qzoQ {a n m : Nat} (h : a = n) (k : n < m) : a < m := h ▸ k
theorem qzoa {a b n m : Nat} (h : a + b ≤ n) (k : n ≤ m) : a ≤ m := Nat.le_trans (Nat.le_add_right a b) (Nat.le_trans h k)
theorem qzob {a b n m : Nat} (h : b + a ≤ n) (k : n ≤ m) : a ≤ m := Nat.le_trans (Nat.le_add_left a b) (Nat.le_trans h k)
theorem qzoc {a b c n m : Nat} (h : a + b + c ≤ n) (k : n ≤ m) : a ≤ m := qzoa (qzoa h k) (Nat.le_refl m)
theorem qzod {a b c n m : Nat} (h : b + a + c ≤ n) (k : n ≤ m) : a ≤ m := qzob (qzoa h k) (Nat.le_refl m)
theorem qzoe {a b n m : Nat} (h : a + b < n) (k : n ≤ m) : a < m := Nat.lt_of_le_of_lt (Nat.le_add_right a b) (Nat.lt_of_lt_of_le h k)
theorem qzoB {a b n m : Nat} (h : b + a < n) (k : n ≤ m) : a < m := Nat.lt_of_le_of_lt (Nat.le_add_left a b) (Nat.lt_of_lt_of_le h k)
theorem qzog {a b c n m : Nat} (h : a + b + c < n) (k : n ≤ m) : a < m := qzoe (qzoe h k) (Nat.le_refl m)
theorem qzoh {a b c n m : Nat} (h : b + a + c < n) (k : n ≤ m) : a < m := qzoB (qzoe h k) (Nat.le_refl m)
theorem qzoi {p q k n m : Nat} (h : max p q + k ≤ n) (l : n ≤ m) : p ≤ m := Nat.le_trans (Nat.le_max_left p q) (qzoa h l)
theorem qzoj {p q k n m : Nat} (h : max p q + k ≤ n) (l : n ≤ m) : q ≤ m := Nat.le_trans (Nat.le_max_right p q) (qzoa h l)
theorem qzok {c p q d e : Nat} (h : d ≤ e) : c * p + d ≤ c * max p q + e := Nat.add_le_add (Nat.mul_le_mul_left c (Nat.le_max_left p q)) h
theorem qzol {c p q d e : Nat} (h : d ≤ e) : c * q + d ≤ c * max p q + e := Nat.add_le_add (Nat.mul_le_mul_left c (Nat.le_max_right p q)) h
theorem qzoA {a b c : Nat} : a ≤ a + b + c := Nat.le_trans (Nat.le_add_right a b) (Nat.le_add_right _ c)
theorem qzoC {a b c : Nat} : b ≤ a + b + c := Nat.le_trans (Nat.le_add_left b a) (Nat.le_add_right _ c)
theorem qzoD {a b c d n : Nat} (h : a ≤ c) (k : b ≤ d) (l : c + d ≤ n) : a + b ≤ n := Nat.le_trans (Nat.add_le_add h k) l
theorem qzoG {a b c n : Nat} (e : a = c) (l : c + b ≤ n) : a + b ≤ n := e ▸ l
theorem NeAll.at' {l a : Nat} {o : Obj} {r : List (Addr × Obj)} (h : NeAll l r) (m : (a, o) ∈ r) : l ≠ a := Ne.symm (NeAll.out h _ m)
local macro_rules | `(tactic| k_mem) => `(tactic| k_extra "u0ed0d3")
local macro_rules | `(tactic| k_ne) => `(tactic| k_extra "u710f85")
example : True := by
 k_with "mqm" => first | exact List.Mem.head _ | exact qzm1 | exact qzm2 | exact qzm3 | exact qzm4 | exact qzm5 | exact qzm6 | exact qzm7 | exact qzm8
 k_with "u0ed0d3" => first | with_reducible k_extra "mqm" | k_extra "mqm"
 k_with "mE t0" => first | with_reducible assumption | with_reducible exact Nat.le_refl _ | decide | with_reducible exact Nat.le_add_right _ _ | with_reducible exact qzoA | with_reducible exact qzoC | with_reducible exact Nat.le_add_left _ _
 k_with "mE t1" => first | k_extra "mE t0" | exact qzo0 (by k_extra "wa") (by k_extra "mE t0") | exact qzoE (by k_extra "wa") (by k_extra "mE t0")
 k_with "mE t2" => first | k_extra "mE t0" | exact qzo0 (by k_extra "wa") (by k_extra "mE t1") | exact qzoE (by k_extra "wa") (by k_extra "mE t1")
 k_with "mE lia" => first | (with_reducible guard_target =~ @LE.le Nat _ _ _; first | with_reducible assumption | with_reducible exact Nat.le_refl _ | with_reducible exact Nat.zero_le _ | decide | exact qzoE (by k_extra "wa") (by k_extra "mE t2") | exact qzo0 (by k_extra "wa") (by k_extra "mE t2") | exact qzoa (by k_extra "wa") (by k_extra "mE t0") | exact qzoc (by k_extra "wa") (by k_extra "mE t0") | exact qzod (by k_extra "wa") (by k_extra "mE t0") | exact qzob (by k_extra "wa") (by k_extra "mE t0") | exact qzoL (by k_extra "wa") (by k_extra "mE t0") | exact qzoi (by k_extra "wa") (by k_extra "mE t0") | exact qzoj (by k_extra "wa") (by k_extra "mE t0") | with_reducible exact Nat.le_add_right _ _ | with_reducible exact qzoA | with_reducible exact qzoC | with_reducible exact Nat.le_add_left _ _ | exact qzoD (by k_extra "wa") (by k_extra "wa") (by k_extra "mE t0") | exact qzoG (by k_extra "wa") (by k_extra "mE t0") | with_reducible exact Nat.min_le_right _ _ | with_reducible exact qzok (by decide) | with_reducible exact qzol (by decide)) | (with_reducible guard_target =~ @LT.lt Nat _ _ _; first | with_reducible assumption | decide | exact qzoM (by k_extra "wa") (by k_extra "mE t0") | exact qzoN (by k_extra "wa") (by k_extra "mE t0") | exact qzoQ (by k_extra "wa") (by k_extra "mE t0") | exact qzoe (by k_extra "wa") (by k_extra "mE t0") | exact qzog (by k_extra "wa") (by k_extra "mE t0") | exact qzoh (by k_extra "wa") (by k_extra "mE t0") | exact qzoB (by k_extra "wa") (by k_extra "mE t0")) | (with_reducible guard_target =~ @Ne Nat _ _; first | exact Nat.ne_of_lt (And.left (by k_extra "wa")) | exact Nat.ne_of_gt (And.left (by k_extra "wa")) | exact Nat.ne_of_lt (And.right (by k_extra "wa")) | exact Nat.ne_of_gt (And.right (by k_extra "wa")) | exact Nat.ne_of_lt (And.left (And.right (by k_extra "wa"))) | exact Nat.ne_of_gt (And.left (And.right (by k_extra "wa"))) | exact Nat.ne_of_lt (And.right (And.right (by k_extra "wa"))) | exact Nat.ne_of_gt (And.right (And.right (by k_extra "wa"))) | exact Nat.ne_of_lt (And.left (And.right (And.right (by k_extra "wa")))) | exact Nat.ne_of_gt (And.left (And.right (And.right (by k_extra "wa")))) | exact Nat.ne_of_lt (And.left (And.right (And.right (And.right (by k_extra "wa"))))) | exact Nat.ne_of_gt (And.left (And.right (And.right (And.right (by k_extra "wa"))))) | exact Nat.ne_of_lt (Nat.lt_trans (by k_extra "wa") (by k_extra "wa")) | exact Nat.ne_of_gt (Nat.lt_trans (by k_extra "wa") (by k_extra "wa"))) | lia
 k_with "mE split" => ((try simp only [NeAll.e1, NeAll.e2, ALt.e1, ALt.e2, and_true] at *); (repeat ((with_reducible rename _ ∧ _ => hc'); obtain ⟨_, _⟩ := hc')))
 k_with "mE conj" => ((with_reducible rename (@LT.lt Nat _ _ _ ∧ _) => hc'); first | with_reducible exact Nat.ne_of_lt hc'.1 | with_reducible exact Nat.ne_of_gt hc'.1 | with_reducible exact Nat.ne_of_lt hc'.2 | with_reducible exact Nat.ne_of_gt hc'.2 | with_reducible exact Nat.ne_of_lt hc'.2.1 | with_reducible exact Nat.ne_of_gt hc'.2.1 | with_reducible exact Nat.ne_of_lt hc'.2.2 | with_reducible exact Nat.ne_of_gt hc'.2.2 | with_reducible exact Nat.ne_of_lt hc'.2.2.1 | with_reducible exact Nat.ne_of_gt hc'.2.2.1 | with_reducible exact Nat.ne_of_lt hc'.2.2.2 | with_reducible exact Nat.ne_of_gt hc'.2.2.2)
 k_with "mE om" => first | with_reducible assumption | with_reducible exact Nat.le_refl _ | with_reducible exact Nat.zero_le _ | decide | with_reducible exact Nat.le_add_right _ _ | k_extra "mE lia"
 k_with "mE le" => first | with_reducible exact Nat.le_refl _ | decide | with_reducible exact Nat.le_add_right _ _ | with_reducible exact Nat.add_le_add_left (by decide) _ | with_reducible exact Nat.le_trans (by decide) (Nat.le_add_left _ _) | lia
 k_with "mE rm" => exact Rm.le (by assumption) (by k_extra "mE le")
 k_with "u710f85" => (refine neN ?_; (try dsimp only); first | with_reducible assumption | (refine Ne.symm ?_; with_reducible assumption) | exact Nat.ne_of_lt (by k_extra "wa") | exact Nat.ne_of_gt (by k_extra "wa") | exact NeAll.at' (by k_extra "wa") (by k_mem) | exact ALt.at (by k_extra "wa") (by k_mem) | exact ALt.at' (by k_extra "wa") (by k_mem) | k_extra "mE conj" | (k_extra "mE split"; first | with_reducible assumption | (refine Ne.symm ?_; with_reducible assumption) | lia))
 k_with "mSeqK" => first | ((with_reducible refine seqK_n ?_); (try dsimp only); (try k_gentoks)) | with_reducible refine seqK_r ?_
 k_with "mWTest" => first | refine wT_t (by k_extra "mK bool") ?_ | refine wT_f (by k_extra "mK bool") ?_
 k_with "mHold" => ((with_reducible refine' holdK ?jh ?_); (case jh => k_extra "a"))
 k_with "mnewTuple" => (k_here; kup_bare; (with_reducible refine' newTup_a ?jF ?jN ?_ ?jz); k_dflt ((case jF => k_asm); (case jN => k_asm); (case jz => kmk_size)); intro _ _ _ _ _; k_extra "msw")
 k_with "mnewList" => (k_here; (with_reducible refine' newLst_a ?jk1 ?jk2 ?_ ?jk3); k_dflt ((case jk1 => k_asm); (case jk2 => k_asm); (case jk3 => first | exact Nat.le_of_ble_eq_true rfl | size_fits); k_whole); intro _ _ _ _ _; k_extra "msw")
 k_with "mexecs cons" => refine seq_c ?_
 k_with "mexecs nil" => refine wpAny_execs_nil ?_
 k_with "mexec If" => refine if_c ?_
 k_with "mK bool" => first | with_reducible exact rfl | with_reducible assumption | kernel_rfl!
 k_with "mIfK" => first | refine ifK_t (by k_extra "mK bool") ?_ | refine ifK_f (by k_extra "mK bool") ?_ | refine ifK_i ?_
 k_with "mIfE" => first | refine ifE_t (by k_extra "mK bool") ?_ | refine ifE_f (by k_extra "mK bool") ?_ | refine ifE_i ?_
 k_with "mAndK" => first | refine andK_t (by k_extra "mK bool") ?_ | refine andK_f (by k_extra "mK bool") ?_ | refine andK_i ?_
 k_with "mOrK" => first | refine orK_t (by k_extra "mK bool") ?_ | refine orK_f (by k_extra "mK bool") ?_ | refine orK_i ?_
 k_with "meval IfExp" => refine ifE_c ?_
 k_with "mspliced" => first | refine args_nil ?_ | (refine' args_c ?js ?_; (case js => k_dflt exact rfl))
 k_with "meval Call" => ((with_reducible refine' call_c ?_ ?jh); (case jh => k_dflt rfl))
 k_with "meval Call Attribute" => ((with_reducible refine' meth_c ?_ ?jh); (case jh => k_dflt rfl))
 k_with "meval Tuple" => refine tup_c ?_
 k_with "meval List" => refine list_c ?_
 k_with "mexec Return some" => refine ret_c ?_
 k_with "mEN" => ((case k6 => k_is); (case k7 => k_is); (case k9 => exact BindsTo.of_eq rfl); (case kB => exact locs rfl); (case c1 => exact rfl); (case c2 => exact rfl); (case c3 => exact rfl); (case c4 => decide); (case c5 => apply Eq.refl none))
 k_with "mENC" => ((case k6 => k_is); (case k7 => k_is); (case k9 => exact BindsTo.of_eq rfl); (case kB => exact rfl); (case kD => decide); (case c1 => exact rfl); (case c2 => exact rfl); (case c3 => exact rfl); (case c5 => apply Eq.refl none))
 exact trivial
example : Sep := by w_top off; first | walk1 | trivial
set_option genInjectivity false in
structure Cx where
  w : World
  A : Around
  env : Env
  h : Heap
  g : Array GenState
  d : Drawn
  o : OsState
  h₀ : Heap
  m : Str → Option Value
  keep : ∀ b o, h₀.get? b = some o → h.get? b = some o
  X : (hd.heap_39 w.params).In h₀
  loc : ∀ {x v}, m x = some v → env.kindOf x = some .local → env.kindOf ("__debug__" : Str) = none → ∀ pos t E (Q : Value → Shared → Prop), Q v ⟨h, g, d, t, o⟩ → wpAny (model PR w) A (eval (.Name x pos) env) Q E ⟨h, g, d, t, o⟩
  glo : ∀ {x v}, nsIn (hd.heap_39 w.params) mainGlobals x = some (some v) → env.kindOf x = some .globalImplicit → env.kindOf ("__debug__" : Str) = none → ∀ pos t E (Q : Value → Shared → Prop), Q v ⟨h, g, d, t, o⟩ → wpAny (model PR w) A (eval (.Name x pos) env) Q E ⟨h, g, d, t, o⟩
  L : Addr
  cl : List (Str × Addr)
  cel : ∀ {x a v ob news}, cl.lookup x = some a → News h₀ L h news → (a, ob) ∈ news → ob.data = .cell (some v) → env.kindOf x = some .cell → env.kindOf ("__debug__" : Str) = none → ∀ pos t E (Q : Value → Shared → Prop), Q v ⟨h, g, d, t, o⟩ → wpAny (model PR w) A (eval (.Name x pos) env) Q E ⟨h, g, d, t, o⟩
noncomputable abbrev Cx.st (c : Cx) (t : Nat) : Shared := ⟨c.h, c.g, c.d, t, c.o⟩
section
noncomputable abbrev cxO (w : World) (A : Around) (cn : Str) (cs : Scope) (L a : Addr) (ccd : Value) (g : Array GenState) (d : Drawn) (o : OsState) (h₀ : Heap) (O : OkH w h₀) (hk : cs.kind = .function) (h : Heap) (m : Str → Option Value) (F : Fr h₀ L h m) : Cx where
  w := w
  A := A
  env := envOf cn cs L a ccd
  h := h
  g := g
  d := d
  o := o
  h₀ := h₀
  m := m
  keep := F.keep
  X := O.X
  loc := fun hv hx hd _ _ _ _ hq => nameO_L (s := ⟨h, g, d, _, o⟩) F hv hq hk hx hd
  glo := fun e hx hd _ _ _ _ hq => by
    obtain ⟨X, p, l, me, mg, mb, T⟩ := O
    exact nameO_K (s := ⟨h, g, d, _, o⟩) F X (topRead_of T) e hq hk hx hd
  L := L
  cl := []
  cel := fun hl => nomatch hl
noncomputable abbrev cxOC (w : World) (A : Around) (cn : Str) (cs : Scope) (L a : Addr) (ccd : Value) (g : Array GenState) (d : Drawn) (o : OsState) (h₀ : Heap) (O : OkH w h₀) (hk : cs.kind = .function) (h : Heap) (m : Str → Option Value) (F : Fr h₀ L h m) : Cx where
  w := w
  A := A
  env := envOfC cn cs L a ccd
  h := h
  g := g
  d := d
  o := o
  h₀ := h₀
  m := m
  keep := F.keep
  X := O.X
  loc := fun hv hx hd _ _ _ _ hq => nameOC_L (s := ⟨h, g, d, _, o⟩) F hv hq hk hx hd
  glo := fun e hx hd _ _ _ _ hq => by
    obtain ⟨X, p, l, me, mg, mb, T⟩ := O
    exact nameOC_K (s := ⟨h, g, d, _, o⟩) F X (topRead_of T) e hq hk hx hd
  L := L
  cl := cellsFrom (L + 1) cs.names []
  cel := fun hl N hm hc hx hd _ _ _ _ hq => nameOC_C (s := ⟨h, g, d, _, o⟩) N hl hm hc hq hk hx hd
end
noncomputable def Pe (c : Cx) (e : PySem.Expr) (t : Nat) (v : Value) (u : Nat) : Prop := ∀ (E : Value → Shared → Prop) (Q : Value → Shared → Prop), Q v (c.st u) → wpAny (model PR c.w) c.A (eval e c.env) Q E (c.st t)
noncomputable def Pt (c : Cx) (e : PySem.Expr) (t : Nat) (b : Bool) (u : Nat) : Prop := ∀ (E : Value → Shared → Prop) (Q : Bool → Shared → Prop), Q b (c.st u) → wpAny (model PR c.w) c.A (isTrue e c.env (eval e c.env)) Q E (c.st t)
noncomputable def Pes (c : Cx) (es : List PySem.Expr) (t : Nat) (vs : List Value) (u : Nat) : Prop := es.all noStar = true ∧ (es = [] → vs = [] ∧ u = t) ∧ ∀ (pos : Pos) (E : Value → Shared → Prop) (Q : List Value → Shared → Prop), Q vs (c.st u) → wpAny (model PR c.w) c.A (spliced (backTo pos (starEach es c.env))) Q E (c.st t)
section
variable {c : Cx} {t u : Nat} {e : PySem.Expr} {v : Value} {b : Bool}
theorem Pe.loc {pos : Pos} {x : Str} {c : Cx} {t : Nat} {v : Value} (hv : c.m x = some v) (hx : c.env.kindOf x = some .local) (hd : c.env.kindOf ("__debug__" : Str) = none) : Pe c (.Name x pos) t v t := fun E Q hq => c.loc hv hx hd pos t E Q hq
theorem Pe.glo {pos : Pos} {x : Str} {c : Cx} {t : Nat} {v : Value} (hv : nsIn (hd.heap_39 c.w.params) mainGlobals x = some (some v)) (hx : c.env.kindOf x = some .globalImplicit) (hd : c.env.kindOf ("__debug__" : Str) = none) : Pe c (.Name x pos) t v t := fun E Q hq => c.glo hv hx hd pos t E Q hq
theorem Pe.cel {pos : Pos} {x : Str} {c : Cx} {t : Nat} {v : Value} {a : Addr} {ob : Obj} {news : List (Addr × Obj)} (hl : c.cl.lookup x = some a) (N : News c.h₀ c.L c.h news) (hm : (a, ob) ∈ news) (hc : ob.data = .cell (some v)) (hx : c.env.kindOf x = some .cell) (hd : c.env.kindOf ("__debug__" : Str) = none) : Pe c (.Name x pos) t v t := fun E Q hq => c.cel hl N hm hc hx hd pos t E Q hq
theorem Pe.str {pos : Pos} {x : Str} {c : Cx} {t k : Nat} : Pe c (.Constant (.str x) k pos) t (.str x t) (t + 1) := fun _ _ hq => Constant_str hq
theorem Pe.int {pos : Pos} {i : Int} {c : Cx} {t k : Nat} : Pe c (.Constant (.int i) k pos) t (.int i t) (t + 1) := fun _ _ hq => wpAny_Constant_int hq
theorem Pe.bool {pos : Pos} {c : Cx} {t : Nat} {i : Bool} {k : Nat} : Pe c (.Constant (.bool i) k pos) t (.bool i) t := fun _ _ hq => Constant_bool hq
theorem ev_sub {e : PySem.Expr} {c : Cx} {t u : Nat} {v : Value} {q : Addr} {l : List Value} (n : Nat) {k : Nat} {p pos : Pos} (ev : Pe c e t (.ref q) u) (hT : IsTup c.h q l.toArray) (hn : n < 64) (hx : l[n]? = some v) : Pe c (.Subscript e (.Constant (.int (n : Int)) k p) pos) t v (u + 1) := by
  intro E Q hq
  refine Subscript_ (ev E _ (wpAny_Constant_int ?_))
  have hl : n < l.length := by
    rcases Nat.lt_or_ge n l.length with h | h
    · exact h
    · rw [List.getElem?_eq_none h] at hx; cases hx
  refine item_tupleT hT (by k_extra "mE lia") (by k_extra "mE lia") (j := n) ?_ hx hq (by with_unfolding_all rfl)
  have h0 : ¬ ((n : Int) < 0) := by k_extra "mE lia"
  unfold seqIndex?
  simp only [if_neg h0]
  rw [if_pos (by simp only [Bool.and_eq_true, decide_eq_true_eq]; k_extra "mE lia")]
  simp
theorem Pe.s0 {e : PySem.Expr} {p pos : Pos} {c : Cx} {t u : Nat} {q : Addr} {l : List Value} {k : Nat} (ev : Pe c e t (.ref q) u) (hT : IsTup c.h₀ q (List.toArray (v :: l))) : Pe c (.Subscript e (.Constant (.int 0) k p) pos) t v (u + 1) := ev_sub 0 ev (hT.keeps c.keep) (by decide) rfl
theorem Pe.s1 {e : PySem.Expr} {p pos : Pos} {c : Cx} {t u : Nat} {v : Value} {q : Addr} {y : Value} {l : List Value} {k : Nat} (ev : Pe c e t (.ref q) u) (hT : IsTup c.h₀ q (List.toArray (y :: v :: l))) : Pe c (.Subscript e (.Constant (.int 1) k p) pos) t v (u + 1) := ev_sub 1 ev (hT.keeps c.keep) (by decide) rfl
theorem Pe.s2 {e : PySem.Expr} {p pos : Pos} {c : Cx} {t u : Nat} {v : Value} {q : Addr} {y z : Value} {l : List Value} {k : Nat} (ev : Pe c e t (.ref q) u) (hT : IsTup c.h₀ q (List.toArray (y :: z :: v :: l))) : Pe c (.Subscript e (.Constant (.int 2) k p) pos) t v (u + 1) := ev_sub 2 ev (hT.keeps c.keep) (by decide) rfl
theorem Pes.nil {c : Cx} {t : Nat} : Pes c [] t [] t := ⟨rfl, fun _ => ⟨rfl, rfl⟩, fun _ _ _ hq => args_nil hq⟩
theorem Pes.cons {es : List PySem.Expr} {c : Cx} {t u : Nat} {vs : List Value} {u' : Nat} (ev : Pe c e t v u) (r : Pes c es u vs u') (hs : noStar e = true) : Pes c (e :: es) t (v :: vs) u' :=
  ⟨by rw [List.all_cons, hs, r.1]; rfl, fun h => (nomatch h), fun pos E Q hq => args_cons (ev E _ (r.2.2 pos E _ hq)) (noStar_each hs)⟩
theorem Pt.eqs {l : PySem.Expr} {p pos : Pos} {x y : Str} {c : Cx} {t u : Nat} {n : Tok} {k : Nat} (ev : Pe c l t (.str x n) u) : Pt c (.Compare l [.Eq] [.Constant (.str y) k p] pos) t (x == y) (u + 1) :=
  fun E _ hq => wpAny_isTrue_Compare1 (ev E _ (Constant_str (eq_str (wpAny_truthy_bool hq))))
theorem Pt.nes {l : PySem.Expr} {p pos : Pos} {x y : Str} {c : Cx} {t u : Nat} {n : Tok} {k : Nat} (ev : Pe c l t (.str x n) u) : Pt c (.Compare l [.NotEq] [.Constant (.str y) k p] pos) t (x != y) (u + 1) :=
  fun E _ hq => wpAny_isTrue_Compare1 (ev E _ (Constant_str (ne_str (wpAny_truthy_bool hq))))
noncomputable def PtB (c : Cx) (op : BoolOp) (es : List PySem.Expr) (pos : Pos) (t : Nat) (b : Bool) (u : Nat) : Prop := ∀ (whole : Sem Value) (E : Value → Shared → Prop) (Q : Bool → Shared → Prop), Q b (c.st u) → wpAny (model PR c.w) c.A (isTrue (.BoolOp op es pos) c.env whole) Q E (c.st t)
noncomputable def AndR (c : Cx) (es : List PySem.Expr) (pos : Pos) (b : Bool) (t : Nat) (b' : Bool) (u : Nat) : Prop := if b then PtB c .And es pos t b' u else b' = false ∧ u = t
noncomputable def OrR (c : Cx) (es : List PySem.Expr) (pos : Pos) (b : Bool) (t : Nat) (b' : Bool) (u : Nat) : Prop := if b then b' = true ∧ u = t else PtB c .Or es pos t b' u
theorem Pt.op {op : BoolOp} {es : List PySem.Expr} {pos : Pos} {c : Cx} {t u : Nat} {b : Bool} (x : PtB c op es pos t b u) : Pt c (.BoolOp op es pos) t b u := fun E Q hq => x _ E Q hq
theorem PtB.and {pos : Pos} {es : List PySem.Expr} {c : Cx} {t u : Nat} {b b' : Bool} {u' : Nat} (x : Pt c e t b u) (y : AndR c es pos b u b' u') : PtB c .And (e :: es) pos t b' u' := fun _ E Q hq => isTrue_and (x E _ (by
  cases b with
  | true => exact y _ E Q hq
  | false => obtain ⟨rfl, rfl⟩ := y; exact hq))
theorem PtB.or {pos : Pos} {es : List PySem.Expr} {c : Cx} {t u : Nat} {b b' : Bool} {u' : Nat} (x : Pt c e t b u) (y : OrR c es pos b u b' u') : PtB c .Or (e :: es) pos t b' u' := fun _ E Q hq => isTrue_or (x E _ (by
  cases b with
  | false => exact y _ E Q hq
  | true => obtain ⟨rfl, rfl⟩ := y; exact hq))
theorem AndR.no {es : List PySem.Expr} {pos : Pos} {c : Cx} {t : Nat} {b : Bool} (hb : b = false) : AndR c es pos b t false t := by subst hb; exact ⟨rfl, rfl⟩
theorem OrR.yes {es : List PySem.Expr} {pos : Pos} {c : Cx} {t : Nat} {b : Bool} (hb : b = true) : OrR c es pos b t true t := by subst hb; exact ⟨rfl, rfl⟩
end
section
variable {A : Around} {E : Value → Shared → Prop} {cn : Str} {cs : Scope} {L a : Addr} {ccd : Value} {g : Array GenState} {d : Drawn} {o : OsState} {h₀ : Heap} {e : PySem.Expr} {t u : Nat} {h : Heap} {m : Str → Option Value} {v : Value}
theorem evO {Q : Value → Shared → Prop} (F : Fr h₀ L h m) (O : OkH w h₀) (hk : cs.kind = .function) (ev : Pe (cxO w A cn cs L a ccd g d o h₀ O hk h m F) e t v u) (hq : Q v ⟨h, g, d, u, o⟩) : wpAny (model PR w) A (eval e (envOf cn cs L a ccd)) Q E ⟨h, g, d, t, o⟩ := ev E Q hq
theorem evOC {Q : Value → Shared → Prop} (F : Fr h₀ L h m) (O : OkH w h₀) (hk : cs.kind = .function) (ev : Pe (cxOC w A cn cs L a ccd g d o h₀ O hk h m F) e t v u) (hq : Q v ⟨h, g, d, u, o⟩) : wpAny (model PR w) A (eval e (envOfC cn cs L a ccd)) Q E ⟨h, g, d, t, o⟩ := ev E Q hq
theorem trO {Q : Bool → Shared → Prop} {b : Bool} (F : Fr h₀ L h m) (O : OkH w h₀) (hk : cs.kind = .function) (ev : Pt (cxO w A cn cs L a ccd g d o h₀ O hk h m F) e t b u) (hq : Q b ⟨h, g, d, u, o⟩) : wpAny (model PR w) A (isTrue e (envOf cn cs L a ccd) (eval e (envOf cn cs L a ccd))) Q E ⟨h, g, d, t, o⟩ := ev E Q hq
theorem back_any {es : List PySem.Expr} {pos : Pos} {env : Env} (hs : es.all noStar = true) : (backTo pos (starEach es env)).any (·.1) = false := by
  have hB : ∀ l : List (Bool × Sem Value), (backTo pos l).any (·.1) = l.any (·.1) := by
    intro l
    unfold backTo
    rw [List.any_map]
    rfl
  rw [hB]
  induction es with
  | nil => rfl
  | cons e r ih =>
    rw [List.all_cons, Bool.and_eq_true] at hs
    rw [noStar_each hs.1, List.any_cons, ih hs.2]; rfl
theorem cwx {E : Value → Shared → Prop} {es : List PySem.Expr} {pos : Pos} {t u : Nat} {c : Cx} {vs first : List Value} {f : Value} {Q : Value → Shared → Prop} (ev : Pes c es t vs u) (hk : keepIn (hd.heap_39 c.w.params) f = true) (h : wpAny (model PR c.w) c.A (call f (first ++ vs)) Q E (c.st u)) : wpAny (model PR c.w) c.A (callWith pos f first (backTo pos (starEach es c.env)) []) Q E (c.st t) := by
  have X : (hd.heap_39 c.w.params).In c.h := c.X.keeps c.keep
  cases es with
  | nil =>
    refine callWith_of rfl (keeps_K hk) ?_
    have hv := ev.2.2 pos E (fun vs' s' => (hd.heap_39 c.w.params).In s'.heap ∧ wpAny (model PR c.w) c.A (call f (first ++ vs')) Q E s') ⟨X, h⟩
    unfold evalArgs
    show wpAny (model PR c.w) c.A (spliced [] >>= _) _ E _
    refine wpAny_bind (wpAny_mono hv (fun vs' s' h' => ?_) fun _ _ x => x)
    refine wpAny_bind (wpAny_pure (wpAny_holding ?_))
    exact wpAny_bind (wpAny_pure (wpAny_bind (wpAny_pure (wpAny_pure h'))))
  | cons e r =>
    have hs := ev.1
    rw [List.all_cons, Bool.and_eq_true] at hs
    refine callWith_K (h₀ := c.h) X hk (ev.2.2 pos E _ ⟨X, h⟩) (noStar_each hs.1) (back_any hs.2)
theorem cwB {E : Value → Shared → Prop} {es : List PySem.Expr} {id : String} {pos : Pos} {t u : Nat} {c : Cx} {vs : List Value} {x : Value} {Q : Value → Shared → Prop} (ev : Pes c es t vs u) (h : wpAny (model PR c.w) c.A (call (.builtin id) (x :: vs)) Q E (c.st u)) : wpAny (model PR c.w) c.A (callWith pos (.builtin id) [x] (backTo pos (starEach es c.env)) []) Q E (c.st t) := by
  cases es with
  | nil =>
    refine ex0_2 (ev.2.1 rfl) ?_; intro eK; subst eK; intro eK; subst eK
    exact callWith_method0 h
  | cons e r =>
    have hs := ev.1
    rw [List.all_cons, Bool.and_eq_true] at hs
    refine callWith_method1 (ev.2.2 pos E _ h) (noStar_each hs.1) (back_any hs.2)
end
theorem cw_b2 {M : Model} {E : Value → Shared → Prop} {pos : Pos} {id : String} {e : PySem.Expr} {rest : List PySem.Expr} {A : Around} {s : Shared} {env : Env} {x : Value} {Q : Value → Shared → Prop} (h : wpAny M A (spliced (backTo pos (starEach (e :: rest) env))) (App1 M A E (.builtin id) x Q) E s) (hs : (e :: rest).all noStar = true) :
    wpAny M A (callWith pos (.builtin id) [x] (backTo pos (starEach (e :: rest) env)) []) Q E s := by
  rw [List.all_cons, Bool.and_eq_true] at hs
  exact callWith_method1 (first := [x]) h (noStar_each hs.1) (back_any hs.2)
section
variable {A : Around} {E : Value → Shared → Prop} {cn : Str} {cs : Scope} {L a : Addr} {ccd : Value} {g : Array GenState} {d : Drawn} {o : OsState} {h₀ : Heap} {es : List PySem.Expr} {pos : Pos} {f : Value} {t u : Nat} {h : Heap} {m : Str → Option Value} {x : Value} {vs : List Value} {Q : Value → Shared → Prop}
theorem cwO0 (F : Fr h₀ L h m) (O : OkH w h₀) (hk : cs.kind = .function) (ev : Pes (cxO w A cn cs L a ccd g d o h₀ O hk h m F) es t vs u) (hf : keepIn (hd.heap_39 w.params) f = true) (hq : wpAny (model PR w) A (call f vs) Q E ⟨h, g, d, u, o⟩) :
    wpAny (model PR w) A (callWith pos f [] (backTo pos (starEach es (envOf cn cs L a ccd))) []) Q E ⟨h, g, d, t, o⟩ := cwx (first := []) ev hf hq
theorem cwO1 (F : Fr h₀ L h m) (O : OkH w h₀) (hk : cs.kind = .function) (ev : Pes (cxO w A cn cs L a ccd g d o h₀ O hk h m F) es t vs u) (hf : keepIn (hd.heap_39 w.params) f = true) (hq : wpAny (model PR w) A (call f (x :: vs)) Q E ⟨h, g, d, u, o⟩) :
    wpAny (model PR w) A (callWith pos f [x] (backTo pos (starEach es (envOf cn cs L a ccd))) []) Q E ⟨h, g, d, t, o⟩ := cwx (first := [x]) ev hf hq
theorem callO {fn : Str} {p : Pos} (F : Fr h₀ L h m) (O : OkH w h₀) (hk : cs.kind = .function) (ef : Pe (cxO w A cn cs L a ccd g d o h₀ O hk h m F) (.Name fn p) t f t) (ev : Pes (cxO w A cn cs L a ccd g d o h₀ O hk h m F) es t vs u) (hf : keepIn (hd.heap_39 w.params) f = true)
    (hq : wpAny (model PR w) A (call f vs) Q E ⟨h, g, d, u, o⟩) : wpAny (model PR w) A (eval (.Call (.Name fn p) es [] pos) (envOf cn cs L a ccd)) Q E ⟨h, g, d, t, o⟩ := Call_ (ef E _ (cwO0 F O hk ev hf hq))
theorem cwOC0 (F : Fr h₀ L h m) (O : OkH w h₀) (hk : cs.kind = .function) (ev : Pes (cxOC w A cn cs L a ccd g d o h₀ O hk h m F) es t vs u) (hf : keepIn (hd.heap_39 w.params) f = true) (hq : wpAny (model PR w) A (call f vs) Q E ⟨h, g, d, u, o⟩) :
    wpAny (model PR w) A (callWith pos f [] (backTo pos (starEach es (envOfC cn cs L a ccd))) []) Q E ⟨h, g, d, t, o⟩ := cwx (first := []) ev hf hq
theorem cwOC1 (F : Fr h₀ L h m) (O : OkH w h₀) (hk : cs.kind = .function) (ev : Pes (cxOC w A cn cs L a ccd g d o h₀ O hk h m F) es t vs u) (hf : keepIn (hd.heap_39 w.params) f = true) (hq : wpAny (model PR w) A (call f (x :: vs)) Q E ⟨h, g, d, u, o⟩) :
    wpAny (model PR w) A (callWith pos f [x] (backTo pos (starEach es (envOfC cn cs L a ccd))) []) Q E ⟨h, g, d, t, o⟩ := cwx (first := [x]) ev hf hq
theorem callOC {fn : Str} {p : Pos} (F : Fr h₀ L h m) (O : OkH w h₀) (hk : cs.kind = .function) (ef : Pe (cxOC w A cn cs L a ccd g d o h₀ O hk h m F) (.Name fn p) t f t) (ev : Pes (cxOC w A cn cs L a ccd g d o h₀ O hk h m F) es t vs u) (hf : keepIn (hd.heap_39 w.params) f = true)
    (hq : wpAny (model PR w) A (call f vs) Q E ⟨h, g, d, u, o⟩) : wpAny (model PR w) A (eval (.Call (.Name fn p) es [] pos) (envOfC cn cs L a ccd)) Q E ⟨h, g, d, t, o⟩ := Call_ (ef E _ (cwOC0 F O hk ev hf hq))
theorem cwOB (F : Fr h₀ L h m) (O : OkH w h₀) (hk : cs.kind = .function) {id : String} (ev : Pes (cxO w A cn cs L a ccd g d o h₀ O hk h m F) es t vs u) (hq : wpAny (model PR w) A (call (.builtin id) (x :: vs)) Q E ⟨h, g, d, u, o⟩) :
    wpAny (model PR w) A (callWith pos (.builtin id) [x] (backTo pos (starEach es (envOf cn cs L a ccd))) []) Q E ⟨h, g, d, t, o⟩ := cwB ev hq
end
section
variable {A : Around} {E : Value → Shared → Prop} {cn : Str} {cs : Scope} {L a : Addr} {ccd : Value} {g : Array GenState} {d : Drawn} {o : OsState} {h₀ : Heap} {test : PySem.Expr} {body orelse rest : List Stmt} {pos : Pos} {t u : Nat} {h : Heap} {m : Str → Option Value} {b : Bool} {Q : Flow → Shared → Prop}
noncomputable def IfD (M : Model) (A : Around) (E : Value → Shared → Prop) (env : Env) (body orelse rest : List Stmt) (Q : Flow → Shared → Prop) (b : Bool) (s : Shared) : Prop := wpAny M A (execs (if b then body else orelse) env) (SeqK M A E env rest Q) E s
theorem ifD_t {E : Value → Shared → Prop} {body orelse rest : List Stmt} {M : Model} {A : Around} {b : Bool} {Q : Flow → Shared → Prop} {env : Env} {s : Shared} (hb : b = true) (x : wpAny M A (execs body env) (SeqK M A E env rest Q) E s) : IfD M A E env body orelse rest Q b s := by subst hb; exact x
theorem ifD_f {E : Value → Shared → Prop} {body orelse rest : List Stmt} {M : Model} {A : Around} {b : Bool} {Q : Flow → Shared → Prop} {env : Env} {s : Shared} (hb : b = false) (x : wpAny M A (execs orelse env) (SeqK M A E env rest Q) E s) : IfD M A E env body orelse rest Q b s := by subst hb; exact x
theorem ifD_n {E : Value → Shared → Prop} {body rest : List Stmt} {M : Model} {A : Around} {b : Bool} {Q : Flow → Shared → Prop} {env : Env} {s : Shared} (hb : b = false) (x : wpAny M A (execs rest env) Q E s) : IfD M A E env body [] rest Q b s := by subst hb; exact wpAny_execs_nil x
theorem ifSO (F : Fr h₀ L h m) (O : OkH w h₀) (hk : cs.kind = .function) (ev : Pt (cxO w A cn cs L a ccd g d o h₀ O hk h m F) test t b u) (hq : IfD (model PR w) A E (envOf cn cs L a ccd) body orelse rest Q b ⟨h, g, d, u, o⟩) :
    wpAny (model PR w) A (execs (.If test body orelse pos :: rest) (envOf cn cs L a ccd)) Q E ⟨h, g, d, t, o⟩ := by
  refine seq_c (if_c (ev E _ ?_))
  cases b <;> exact hq
theorem ifSOC (F : Fr h₀ L h m) (O : OkH w h₀) (hk : cs.kind = .function) (ev : Pt (cxOC w A cn cs L a ccd g d o h₀ O hk h m F) test t b u) (hq : IfD (model PR w) A E (envOfC cn cs L a ccd) body orelse rest Q b ⟨h, g, d, u, o⟩) :
    wpAny (model PR w) A (execs (.If test body orelse pos :: rest) (envOfC cn cs L a ccd)) Q E ⟨h, g, d, t, o⟩ := by
  refine seq_c (if_c (ev E _ ?_))
  cases b <;> exact hq
noncomputable def IfV (M : Model) (A : Around) (E : Value → Shared → Prop) (env : Env) (body orelse rest : List Stmt) (Q : Flow → Shared → Prop) (v : Value) (s : Shared) : Prop := wpAny M A (truthy v) (IfD M A E env body orelse rest Q) E s
theorem ifV_t {E : Value → Shared → Prop} {body orelse rest : List Stmt} {M : Model} {A : Around} {b : Bool} {Q : Flow → Shared → Prop} {env : Env} {s : Shared} (hb : b = true) (x : wpAny M A (execs body env) (SeqK M A E env rest Q) E s) : IfV M A E env body orelse rest Q (.bool b) s := wpAny_truthy_bool (ifD_t hb x)
theorem ifV_f {E : Value → Shared → Prop} {body orelse rest : List Stmt} {M : Model} {A : Around} {b : Bool} {Q : Flow → Shared → Prop} {env : Env} {s : Shared} (hb : b = false) (x : wpAny M A (execs orelse env) (SeqK M A E env rest Q) E s) : IfV M A E env body orelse rest Q (.bool b) s := wpAny_truthy_bool (ifD_f hb x)
theorem ifV_n {E : Value → Shared → Prop} {body rest : List Stmt} {M : Model} {A : Around} {b : Bool} {Q : Flow → Shared → Prop} {env : Env} {s : Shared} (hb : b = false) (x : wpAny M A (execs rest env) Q E s) : IfV M A E env body [] rest Q (.bool b) s := wpAny_truthy_bool (ifD_n hb x)
theorem ifCO {fn : Str} {p p' : Pos} {es : List PySem.Expr} {f : Value} {vs : List Value} (F : Fr h₀ L h m) (O : OkH w h₀) (hk : cs.kind = .function) (ef : Pe (cxO w A cn cs L a ccd g d o h₀ O hk h m F) (.Name fn p) t f t) (ev : Pes (cxO w A cn cs L a ccd g d o h₀ O hk h m F) es t vs u) (hf : keepIn (hd.heap_39 w.params) f = true)
    (hq : wpAny (model PR w) A (call f vs) (IfV (model PR w) A E (envOf cn cs L a ccd) body orelse rest Q) E ⟨h, g, d, u, o⟩) : wpAny (model PR w) A (execs (.If (.Call (.Name fn p) es [] p') body orelse pos :: rest) (envOf cn cs L a ccd)) Q E ⟨h, g, d, t, o⟩ :=
  seq_c (if_c (true_c (callO F O hk ef ev hf (wpAny_mono hq (fun v s x => wpAny_mono x (fun b s y => by cases b <;> exact y) fun _ _ x => x) fun _ _ x => x)) rfl))
theorem ifCOC {fn : Str} {p p' : Pos} {es : List PySem.Expr} {f : Value} {vs : List Value} (F : Fr h₀ L h m) (O : OkH w h₀) (hk : cs.kind = .function) (ef : Pe (cxOC w A cn cs L a ccd g d o h₀ O hk h m F) (.Name fn p) t f t) (ev : Pes (cxOC w A cn cs L a ccd g d o h₀ O hk h m F) es t vs u) (hf : keepIn (hd.heap_39 w.params) f = true)
    (hq : wpAny (model PR w) A (call f vs) (IfV (model PR w) A E (envOfC cn cs L a ccd) body orelse rest Q) E ⟨h, g, d, u, o⟩) : wpAny (model PR w) A (execs (.If (.Call (.Name fn p) es [] p') body orelse pos :: rest) (envOfC cn cs L a ccd)) Q E ⟨h, g, d, t, o⟩ :=
  seq_c (if_c (true_c (callOC F O hk ef ev hf (wpAny_mono hq (fun v s x => wpAny_mono x (fun b s y => by cases b <;> exact y) fun _ _ x => x) fun _ _ x => x)) rfl))
end
inductive StrsE : List PySem.Expr → List Str → Prop
  | nil : StrsE [] []
  | cons (x : Str) (a : Nat) (b : Pos) {es : List PySem.Expr} {ys : List Str} : StrsE es ys → StrsE (.Constant (.str x) a b :: es) (x :: ys)
theorem spl_strs {M : Model} {E : Value → Shared → Prop} {pos : Pos} {es : List PySem.Expr} {A : Around} {env : Env} {h : Heap} {g : Array GenState} {d : Drawn} {o : OsState} {ys : List Str} (e : StrsE es ys) : ∀ {t : Nat} {Q : List Value → Shared → Prop},
    (∀ vs tk, StrsAre vs ys → Q vs ⟨h, g, d, tk, o⟩) → wpAny M A (spliced (backTo pos (starEach es env))) Q E ⟨h, g, d, t, o⟩ := by
  induction e with
  | nil => intro t Q k; exact args_nil (k [] t .nil)
  | cons x a b _ ih => intro t Q k; exact args_cons (Constant_str (ih fun vs tk hv => k _ _ (.cons x t hv))) (noStar_each rfl)
section
variable {A : Around} {E : Value → Shared → Prop} {cn : Str} {cs : Scope} {L a : Addr} {ccd : Value} {g : Array GenState} {d : Drawn} {o : OsState} {h₀ : Heap} {t u : Nat} {h : Heap} {m : Str → Option Value} {news : List (Addr × Obj)} {x y : Str} {v1 v2 : Value}
noncomputable def UnpK (M : Model) (A : Around) (E : Value → Shared → Prop) (env : Env) (x y : Str) (Q : Flow → Shared → Prop) (v : Value) (s : Shared) : Prop :=
  wpAny M A (unpackItems v 2 none) (fun items s₂ => wpAny M A (assignInOrder [bindName env y, bindName env x] items.reverse) (fun _ => Q .next) E s₂) E s
noncomputable def Asg2K (M : Model) (A : Around) (E : Value → Shared → Prop) (env : Env) (x y : Str) (Q : Flow → Shared → Prop) (vs : List Value) (s : Shared) : Prop := wpAny M A (newTuple vs) (UnpK M A E env x y Q) E s
theorem asg2_c {E : Value → Shared → Prop} {cn : Str} {cs : Scope} {a : Addr} {ccd : Value} {M : Model} {p1 p2 p3 tp pos : Pos} {es : List PySem.Expr} {x y : Str} {A : Around} {L : Addr} {s : Shared} {cl : List (Str × Addr)} {k k2 : Nat} {Q : Flow → Shared → Prop} (hx : (envX cn cs L a ccd cl).kindOf x = some .local) (hy : (envX cn cs L a ccd cl).kindOf y = some .local)
    (hs : swapsWithSole [.Tuple [.Name x p1, .Name y p2] k tp] (.Tuple es k2 p3) pos.line (envX cn cs L a ccd cl) = pure false) (hw : swappedStores [.Tuple [.Name x p1, .Name y p2] k tp] (.Tuple es k2 p3) (envX cn cs L a ccd cl) = pure (some [x, y]))
    (q : wpAny M A (spliced (backTo p3 (starEach es (envX cn cs L a ccd cl)))) (Asg2K M A E (envX cn cs L a ccd cl) x y Q) E s) : wpAny M A (exec (.Assign [.Tuple [.Name x p1, .Name y p2] k tp] (.Tuple es k2 p3) pos) (envX cn cs L a ccd cl)) Q E s :=
  Assign_Tuple_swapped (names := [x, y]) (tup_c q) hs hw
theorem unpK_o {q : Addr} {cl : List (Str × Addr)} {Q : Flow → Shared → Prop} (F : Fr h₀ L h m) (N : News h₀ L h news) (hT : IsTup h q (List.toArray [v1, v2])) (hh : A.handled = none) (hk : cs.kind = .function)
    (hx : (envX cn cs L a ccd cl).kindOf x = some .local) (hy : (envX cn cs L a ccd cl).kindOf y = some .local)
    (k : ∀ h' tk, Fr h₀ L h' (fun z => if z = x then some v1 else if z = y then some v2 else m z) → News h₀ L h' news → Q .next ⟨h', g, d, tk, o⟩) : UnpK (model PR w) A E (envX cn cs L a ccd cl) x y Q (.ref q) ⟨h, g, d, t, o⟩ :=
  unpackItemsN_ F N hT hh rfl fun _ F1 N1 => assignInOrder_cons (bindName_ (storeX_L F1 N1 (fun _ F2 N2 => assignInOrder_cons (bindName_ (storeX_L F2 N2 (fun h' F3 N3 => assignInOrder_nil (k h' _ F3 N3)) hk hx))) hk hy))
theorem asg2K_o {cl : List (Str × Addr)} {Q : Flow → Shared → Prop} (F : Fr h₀ L h m) (N : News h₀ L h news) (hh : A.handled = none) (hk : cs.kind = .function)
    (hx : (envX cn cs L a ccd cl).kindOf x = some .local) (hy : (envX cn cs L a ccd cl).kindOf y = some .local)
    (k : ∀ h' tk, Fr h₀ L h' (fun z => if z = x then some v1 else if z = y then some v2 else m z) → News h₀ L h' news → Q .next ⟨h', g, d, tk, o⟩) : Asg2K (model PR w) A E (envX cn cs L a ccd cl) x y Q [v1, v2] ⟨h, g, d, t, o⟩ :=
  newTuple_N F N (fun _ F1 N1 => unpK_o F1 (fun p hp => N1 p (.tail _ hp)) (N1.isTup (.head _)) hh hk hx hy k) (Nat.le_of_ble_eq_true rfl)
theorem asg2_O {E : Value → Shared → Prop} {cn : Str} {cs : Scope} {a : Addr} {ccd : Value} {M : Model} {p1 p2 p3 tp pos : Pos} {es : List PySem.Expr} {x y : Str} {A : Around} {L : Addr} {s : Shared} {k k2 : Nat} {Q : Flow → Shared → Prop} (hx : (envOf cn cs L a ccd).kindOf x = some .local) (hy : (envOf cn cs L a ccd).kindOf y = some .local)
    (hs : swapsWithSole [.Tuple [.Name x p1, .Name y p2] k tp] (.Tuple es k2 p3) pos.line (envOf cn cs L a ccd) = pure false) (hw : swappedStores [.Tuple [.Name x p1, .Name y p2] k tp] (.Tuple es k2 p3) (envOf cn cs L a ccd) = pure (some [x, y]))
    (q : wpAny M A (spliced (backTo p3 (starEach es (envOf cn cs L a ccd)))) (Asg2K M A E (envOf cn cs L a ccd) x y Q) E s) : wpAny M A (exec (.Assign [.Tuple [.Name x p1, .Name y p2] k tp] (.Tuple es k2 p3) pos) (envOf cn cs L a ccd)) Q E s := asg2_c (cl := []) hx hy hs hw q
theorem asg2K_O {Q : Flow → Shared → Prop} (F : Fr h₀ L h m) (N : News h₀ L h news) (hh : A.handled = none) (hk : cs.kind = .function) (hx : (envOf cn cs L a ccd).kindOf x = some .local) (hy : (envOf cn cs L a ccd).kindOf y = some .local)
    (k : ∀ h' tk, Fr h₀ L h' (fun z => if z = x then some v1 else if z = y then some v2 else m z) → News h₀ L h' news → Q .next ⟨h', g, d, tk, o⟩) : Asg2K (model PR w) A E (envOf cn cs L a ccd) x y Q [v1, v2] ⟨h, g, d, t, o⟩ := asg2K_o (cl := []) F N hh hk hx hy k
theorem inL_o {es : List PySem.Expr} {ys : List Str} {l : PySem.Expr} {p2 pos : Pos} {z : Str} {n : Tok} {whole : Sem Value} {Q : Bool → Shared → Prop} (F : Fr h₀ L h m) (N : News h₀ L h news) (O : OkH w h₀) (hk : cs.kind = .function)
    (ev : Pe (cxO w A cn cs L a ccd g d o h₀ O hk h m F) l t (.str z n) u) (hs : StrsE es ys) (hz : ys.length ≤ 64) (hm : behindInMarks .In (.List es p2) = false)
    (k : ∀ h' tk, Fr h₀ L h' m → News h₀ L h' news → Q (ys.any (· == z)) ⟨h', g, d, tk, o⟩) : wpAny (model PR w) A (isTrue (.Compare l [.In] [.List es p2] pos) (envOf cn cs L a ccd) whole) Q E ⟨h, g, d, t, o⟩ :=
  cmp_c (ev E _ (list_c (spl_strs hs fun vs tk hv => newList_N F N (fun h' F' N' => in_list_strs (N'.isList (.head _)) hv (wpAny_truthy_bool (k _ _ F' fun p hp => N' p (.tail _ hp)))) (Nat.le_trans (by rw [StrsAre.length hv]; exact hz) (by decide))))) hm
end
example : True := by
 k_with "mEV" => first | with_reducible exact Pe.str | with_reducible exact Pe.int | ((with_reducible refine' Pe.loc ?jv ?jx ?jd); (case jx => k_dflt apply Eq.refl (some _)); (case jv => k_dflt apply Eq.refl (some _)); (case jd => exact hDbg)) | ((with_reducible refine' Pe.glo ?jv ?jx ?jd); (case jx => k_dflt apply Eq.refl (some _)); (case jv => k_is); (case jd => exact hDbg)) | ((with_reducible refine' Pe.cel ?jl ?jN ?jm ?jc ?jx ?jd); (case jx => k_dflt apply Eq.refl (some _)); (case jl => k_dflt apply Eq.refl (some _)); (case jN => with_reducible assumption); (case jm => k_mem); (case jc => k_extra "a"); (case jd => exact hDbg)) | ((with_reducible refine' Pe.s0 ?je ?jT); (case je => k_extra "mEV"); (case jT => with_reducible assumption)) | ((with_reducible refine' Pe.s1 ?je ?jT); (case je => k_extra "mEV"); (case jT => with_reducible assumption)) | ((with_reducible refine' Pe.s2 ?je ?jT); (case je => k_extra "mEV"); (case jT => with_reducible assumption)) | with_reducible exact Pe.bool
 k_with "mEVS" => first | with_reducible exact Pes.nil | ((with_reducible refine' Pes.cons ?je ?jr ?js); (case js => exact rfl); (case je => k_extra "mEV"); (case jr => k_extra "mEVS"))
 k_with "mTR" => first | ((with_reducible refine' Pt.eqs ?je); (case je => k_extra "mEV")) | ((with_reducible refine' Pt.nes ?je); (case je => k_extra "mEV")) | ((with_reducible refine' Pt.op ?je); (case je => k_extra "mTRB")) | k_extra "mTR in"
 k_with "mTRB" => first | ((with_reducible refine' PtB.and ?je ?jr); (case je => k_extra "mTR"); (case jr => exact AndR.no (by k_extra "mK bool"))) | ((with_reducible refine' PtB.or ?je ?jr); (case je => k_extra "mTR"); (case jr => exact OrR.yes (by k_extra "mK bool")))
 k_with "mE evO" => first | ((with_reducible refine' evO ?jF ?jO ?jk ?je ?_); k_extra "mK3"; (case je => k_extra "mEV")) | ((with_reducible refine' evOC ?jF ?jO ?jk ?je ?_); k_extra "mK3"; (case je => k_extra "mEV"))
 k_with "mE trO" => first | ((with_reducible refine' trO ?jF ?jO ?jk ?je ?_); k_extra "mK3"; (case je => k_extra "mTR"))
 k_with "mE callO" => first | ((with_reducible refine' callO ?jF ?jO ?jk ?jf ?je ?jq ?_); k_extra "mK3"; (case jf => k_extra "mEV"); (case je => k_extra "mEVS"); (case jq => k_is)) | ((with_reducible refine' callOC ?jF ?jO ?jk ?jf ?je ?jq ?_); k_extra "mK3"; (case jf => k_extra "mEV"); (case je => k_extra "mEVS"); (case jq => k_is))
 k_with "mE cwO" => first | ((with_reducible refine' cwO1 ?jF ?jO ?jk ?je ?jq ?_); k_extra "mK3"; (case je => k_extra "mEVS"); (case jq => k_is)) | ((with_reducible refine' cwO0 ?jF ?jO ?jk ?je ?jq ?_); k_extra "mK3"; (case je => k_extra "mEVS"); (case jq => k_is)) | ((with_reducible refine' cwOC1 ?jF ?jO ?jk ?je ?jq ?_); k_extra "mK3"; (case je => k_extra "mEVS"); (case jq => k_is)) | ((with_reducible refine' cwOC0 ?jF ?jO ?jk ?je ?jq ?_); k_extra "mK3"; (case je => k_extra "mEVS"); (case jq => k_is))
 k_with "mE meth" => first | ((with_reducible refine' cwOB ?jF ?jO ?jk ?je ?_); k_extra "mK3"; (case je => k_extra "mEVS")) | ((with_reducible refine' cw_b2 ?_ ?js); (case js => k_dflt exact Eq.refl true)) | with_reducible refine callWith_method0 ?_
 k_with "meval Subscript" => first | k_dflt k_extra "mE evO" | refine sub_c ?_
 k_with "mexec Assign" => ((with_reducible refine (?_ : wpAny _ _ (exec (Stmt.Assign [PySem.Expr.Tuple [PySem.Expr.Name _ _, PySem.Expr.Name _ _] _ _] (PySem.Expr.Tuple _ _ _) _) _) _ _ _)); first | ((with_reducible refine' asg2_O ?jx ?jy ?js ?jw ?_); (case jx => k_dflt apply Eq.refl (some _)); (case jy => k_dflt apply Eq.refl (some _)); (case js => k_dflt exact rfl); (case jw => k_dflt exact rfl)))
 k_with "mE asg2" => first | ((with_reducible refine' asg2K_O ?jF ?jN ?jh ?jk ?jx ?jy ?_); (case jF => k_dflt k_extra "a"); (case jN => k_dflt k_extra "a"); (case jh => exact Rm.hd (by assumption)); (case jk => eq_refl); (case jx => k_dflt apply Eq.refl (some _)); (case jy => k_dflt apply Eq.refl (some _)))
 k_with "mAsg2K" => (k_dflt k_extra "mE asg2"; intro _ _ _ _; k_extra "msw")
 k_with "mE inL" => ((with_reducible refine (?_ : wpAny _ _ (isTrue (PySem.Expr.Compare _ [CmpOp.In] [PySem.Expr.List _ _] _) _ _) _ _ _)); k_dflt (refine' inL_o ?jF ?jN ?jO ?jk ?je ?js ?jz ?jm ?_; k_extra "mFN"; (case jO => k_extra "a"); (case jk => eq_refl); (case je => k_extra "mEV"); (case js => first | exact .cons _ _ _ (.cons _ _ _ .nil) | exact .cons _ _ _ (.cons _ _ _ (.cons _ _ _ (.cons _ _ _ (.cons _ _ _ .nil))))); (case jz => decide); (case jm => exact rfl)); intro _ _ _ _; k_extra "msw")
 k_with "misTrue Compare" => first | k_dflt k_extra "mE trO" | k_extra "mE inL" | ((with_reducible refine' cmp_c ?_ ?jm); (case jm => k_dflt exact Eq.refl false))
 k_with "misTrue BoolOp" => first | k_dflt k_extra "mE trO" | with_reducible refine isTrue_and_nil ?_ | with_reducible refine isTrue_or_nil ?_ | with_reducible refine and_c ?_ | with_reducible refine or_c ?_
 k_with "misTrue Name" => k_dflt k_extra "mE trO"
 k_with "meval Call Name" => first | k_dflt k_extra "mE callO" | with_reducible refine call_n ?_
 k_with "mcallWith ref" => ((fail_if_success plain_pass); k_dflt k_extra "mE cwO")
 k_with "mIfD" => first | with_reducible refine ifD_t (by k_dflt k_extra "mK bool") ?_ | with_reducible refine ifD_n (by k_dflt k_extra "mK bool") ?_ | with_reducible refine ifD_f (by k_dflt k_extra "mK bool") ?_
 k_with "mE ifS" => (first | ((with_reducible refine' ifSO ?jF ?jO ?jk ?je ?_); k_extra "mK3"; (case je => k_extra "mTR")) | ((with_reducible refine' ifSOC ?jF ?jO ?jk ?je ?_); k_extra "mK3"; (case je => k_extra "mTR"))); k_extra "mIfD"
 k_with "mE ifC" => first | ((with_reducible refine' ifCO ?jF ?jO ?jk ?jf ?je ?jq ?_); k_extra "mK3"; (case jf => k_extra "mEV"); (case je => k_extra "mEVS"); (case jq => k_is)) | ((with_reducible refine' ifCOC ?jF ?jO ?jk ?jf ?je ?jq ?_); k_extra "mK3"; (case jf => k_extra "mEV"); (case je => k_extra "mEVS"); (case jq => k_is))
 k_with "mIfV" => first | refine ifV_t (by k_extra "mK bool") ?_ | refine ifV_n (by k_extra "mK bool") ?_ | refine ifV_f (by k_extra "mK bool") ?_
 k_with "mexecs cons If" => ((fail_if_success plain_pass); k_dflt (first | k_extra "mE ifS" | k_extra "mE ifC"))
 k_with "misTrue Call" => with_reducible refine true_call ?_
 exact trivial
example : Sep := by w_top off; first | walk1 | trivial
example : True := by
 k_with "mexec For Name Name cons nil" => k_extra "mE for"
 k_with "mcall builtin:list.append" => (k_here; (with_reducible refine (?_ : wpAny _ _ (call (Value.builtin _) [Value.ref _, _]) _ _ _)); k_dflt (refine' append_L ?jk1 ?jk2 ?jk3 ?_ ?jz; (case jk1 => k_asm); (case jk2 => k_asm); (case jk3 => k_updF); (case jz => k_extra "mao"); k_whole); intro _ _ N'; (try dsimp only at N'); revert N'; intro _; k_extra "msw")
 exact trivial
noncomputable def put1 (acc : List Str) (y : Str) : List Str := if acc.any (· == y) then acc else acc ++ [y]
noncomputable def putAll (xs ys : List Str) : List Str := ys.foldl put1 xs
theorem StrsAre.snoc {vs : List Value} {xs : List Str} (h : StrsAre vs xs) (y : Str) (t : Tok) : StrsAre (vs ++ [.str y t]) (xs ++ [y]) := by
  induction h with
  | nil => exact .cons y t .nil
  | cons z u _ ih => exact .cons z u ih
theorem put1_pos {y : Str} {acc : List Str} (h : acc.any (· == y) = true) : put1 acc y = acc := by unfold put1; rw [if_pos h]
theorem put1_neg {y : Str} {acc : List Str} (h : acc.any (· == y) = false) : put1 acc y = acc ++ [y] := by unfold put1; rw [if_neg (by rw [h]; exact Bool.false_ne_true)]
theorem put1_len (acc : List Str) (y : Str) : (put1 acc y).length ≤ acc.length + 1 := by
  unfold put1; split <;> simp
theorem putAll_len (xs ys : List Str) : (putAll xs ys).length ≤ xs.length + ys.length := by
  unfold putAll
  induction ys generalizing xs with
  | nil => simp
  | cons y r ih => have := ih (put1 xs y); have := put1_len xs y; simp only [List.foldl_cons, List.length_cons]; k_extra "mE lia"
theorem put_once_c {A : Around} {s : Shared} {u l : Addr} {vs vl : List Value} {n nl : Nat} {xs ys : List Str} {g : Heap}
    (O : OkH w g) (hg : Le g s.heap) (hgu : g.get? u = none) (r : Rm A 1)
    (hu : s.heap.get? u = some (listOf vs.toArray n)) (hs : StrsAre vs xs)
    (hl : s.heap.get? l = some (listOf vl.toArray nl)) (hsl : StrsAre vl ys) (hul : l ≠ u) (hz : xs.length + ys.length ≤ 2^20) :
    Calls w A s 61 [.ref u, .ref l] (at1 u) (fun v h' => v = .none ∧ ∃ vs' n', h'.get? u = some (listOf vs'.toArray n') ∧ StrsAre vs' (putAll xs ys)) := by
  refine' enter [((Str.ofString "some"), .ref u), ((Str.ofString "names"), .ref l)] (O.keeps hg) r ?k6 ?k7 ?k9 ?kB ?_ ?c1 ?c2 ?c3 ?c4 ?c5; k_extra "eN"
  have O' := O.keeps (le_hide hg hgu)
  have N := News.hide1 F hu hL'
  replace F := Fr.hide u F
  k_extra "qB"; obtain ⟨X, p, lo, me, mg, mb, T⟩ := O'; k_extra "qC"
  have hl' : (s.heap.hide u).get? l = some (listOf vl.toArray nl) := (Heap.hide_ne _ hul).trans hl
  k_steps
  rename Fr _ _ _ _ => F
  refine iterList [] (fun i nx => ∃ vs' n', nx = [(u, listOf vs'.toArray n')] ∧ StrsAre vs' (putAll xs (ys.take i))) rfl r.hd ?_ (F.keep _ _ hl') (fun _ _ _ => .inl hl') F N ?_ ?_ ?_
  · intro e
    exact absurd (Heap.lt_size (hl.trans rfl)) (by rw [e, hL']; exact Nat.lt_irrefl _)
  · exact ⟨vs, n, rfl, by simpa [putAll] using hs⟩
  · intro i v q nx h tk I o hv hI hne gR5 F1 N1; k_extra "qD"; refine ex2_2 gR5 ?_; clear gR5; intro vs' n' eK; subst eK; intro hs'
    refine ex2_2 (StrsAre.item hsl i v (by simpa using hv)) ?_; intro y t eK; subst eK; intro hy
    have huI : @Ne Nat u I := hne _ (.head _)
    have hlen : vs'.length ≤ 2 ^ 24 := by
      have h1 := StrsAre.length hs'
      have h2 := putAll_len xs (ys.take i)
      have h3 : (ys.take i).length ≤ ys.length := length_take_le_self _ _
      k_extra "mE lia"
    have hnext : putAll xs (ys.take (i + 1)) = put1 (putAll xs (ys.take i)) y := by
      unfold putAll; rw [List.take_add_one, hy]; simp
    first | rw [hnext] at hGk | rw [hnext]
    clear F N
    k_steps
    all_goals (try dsimp only [TurnPost])
    · refine turn_end [(u, listOf vs'.toArray n')] (by assumption) (by assumption) (by k_mem) (fun p hp => .tail _ hp) hne ⟨Agree.set (Agree.over _) rfl, vs', n', rfl, ?_⟩
      rw [put1_pos (by assumption)]; exact hs'
    · refine turn_end [(u, listOf (List.toArray (vs' ++ [.str y t])) (n' + 1))] (by assumption) (by assumption) (by k_mem) (fun p hp => .tail _ hp) (fun p hp => by rw [List.mem_singleton] at hp; rw [hp]; exact huI) ⟨Agree.set (Agree.over _) rfl, _, _, rfl, ?_⟩
      rw [put1_neg (by assumption)]; exact StrsAre.snoc hs' y t
  · intro q nx h tk gR6 F1 N1; k_extra "qD"; refine ex2_2 gR6 ?_; clear gR6; intro vs' n' eK; subst eK; intro hs'
    k_steps
    refine post_end1 S F1 ⟨rfl, vs', n', (N1 _ (.head _)).1, ?_⟩
    have e : ys.take vl.toArray.size = ys := by rw [List.size_toArray, StrsAre.length hsl, List.take_length]
    rwa [e] at hs'
example : Sep := by w_top off; first | walk1 | trivial
inductive Tr where
  | sym (x : Str)
  | one
  | ex (h : Str) (ps : List Tr)
mutual
noncomputable def TreeAt (h : Heap) : Tr → Value → Prop
  | .sym x, v => ∃ a t1 t2, v = .ref a ∧ IsTup h a (List.toArray [.str (Str.ofString "sym") t1, .str x t2])
  | .one, v => ∃ a t1 t2, v = .ref a ∧ IsTup h a (List.toArray [.str (Str.ofString "int") t1, .int 1 t2])
  | .ex hd ps, v => ∃ a t1 t2 b vs, v = .ref a ∧ IsTup h a (List.toArray [.str (Str.ofString "expr") t1, .str hd t2, .ref b]) ∧ IsTup h b vs.toArray ∧ TreesAt h ps vs
noncomputable def TreesAt (h : Heap) : List Tr → List Value → Prop
  | [], vs => vs = []
  | p :: ps, vs => ∃ v r, vs = v :: r ∧ TreeAt h p v ∧ TreesAt h ps r
end
theorem TreeAt.e1 {x : Str} {h : Heap} {v : Value} : TreeAt h (.sym x) v = ∃ a t1 t2, v = .ref a ∧ IsTup h a (List.toArray [.str (Str.ofString "sym") t1, .str x t2]) := rfl
theorem TreeAt.e2 {h : Heap} {v : Value} : TreeAt h .one v = ∃ a t1 t2, v = .ref a ∧ IsTup h a (List.toArray [.str (Str.ofString "int") t1, .int 1 t2]) := rfl
theorem TreeAt.e3 {hd : Str} {h : Heap} {ps : List Tr} {v : Value} : TreeAt h (.ex hd ps) v = ∃ a t1 t2 b vs, v = .ref a ∧ IsTup h a (List.toArray [.str (Str.ofString "expr") t1, .str hd t2, .ref b]) ∧ IsTup h b vs.toArray ∧ TreesAt h ps vs := rfl
theorem TreesAt.e1 {h : Heap} {vs : List Value} : TreesAt h [] vs = (vs = []) := rfl
theorem TreesAt.e2 {h : Heap} {p : Tr} {ps : List Tr} {vs : List Value} : TreesAt h (p :: ps) vs = ∃ v r, vs = v :: r ∧ TreeAt h p v ∧ TreesAt h ps r := rfl
theorem TreeAt.sym_k {x : Str} {h : Heap} {v : Value} (e : TreeAt h (.sym x) v) {P : Prop} (k : ∀ a t1 t2, v = .ref a → IsTup h a (List.toArray [.str (Str.ofString "sym") t1, .str x t2]) → P) : P := by
  simp only [TreeAt.e1, TreeAt.e2, TreeAt.e3] at e; obtain ⟨a, t1, t2, e1, e2⟩ := e; exact k a t1 t2 e1 e2
theorem TreeAt.one_k {h : Heap} {v : Value} (e : TreeAt h .one v) {P : Prop} (k : ∀ a t1 t2, v = .ref a → IsTup h a (List.toArray [.str (Str.ofString "int") t1, .int 1 t2]) → P) : P := by
  simp only [TreeAt.e1, TreeAt.e2, TreeAt.e3] at e; obtain ⟨a, t1, t2, e1, e2⟩ := e; exact k a t1 t2 e1 e2
theorem TreeAt.ex_k {hd : Str} {h : Heap} {ps : List Tr} {v : Value} (e : TreeAt h (.ex hd ps) v) {P : Prop} (k : ∀ a t1 t2 b vs, v = .ref a → IsTup h a (List.toArray [.str (Str.ofString "expr") t1, .str hd t2, .ref b]) → IsTup h b vs.toArray → TreesAt h ps vs → P) : P := by
  simp only [TreeAt.e1, TreeAt.e2, TreeAt.e3] at e; obtain ⟨a, t1, t2, b, vs, e1, e2, e3, e4⟩ := e; exact k a t1 t2 b vs e1 e2 e3 e4
theorem TreesAt.nil_k {h : Heap} {vs : List Value} (e : TreesAt h [] vs) : vs = [] := by simpa only [TreesAt.e1, TreesAt.e2] using e
theorem TreesAt.cons_k {h : Heap} {p : Tr} {ps : List Tr} {vs : List Value} (e : TreesAt h (p :: ps) vs) {P : Prop} (k : ∀ v r, vs = v :: r → TreeAt h p v → TreesAt h ps r → P) : P := by
  simp only [TreesAt.e1, TreesAt.e2] at e; obtain ⟨v, r, e1, e2, e3⟩ := e; exact k v r e1 e2 e3
theorem TreeAt.e1_k {hd : Str} {h : Heap} {p : Tr} {v : Value} (e : TreeAt h (.ex hd [p]) v) {P : Prop} (k : ∀ a t1 t2 b v1, v = .ref a → IsTup h a (List.toArray [.str (Str.ofString "expr") t1, .str hd t2, .ref b]) → IsTup h b (List.toArray [v1]) → TreeAt h p v1 → P) : P :=
  TreeAt.ex_k e fun a t1 t2 b vs e0 hT hB h0 => TreesAt.cons_k h0 fun v1 r e1 h1 h2 => by
    have e3 := TreesAt.nil_k h2; subst e3 e1
    exact k a t1 t2 b v1  e0 hT hB h1 
theorem TreeAt.e1R {hd : Str} {h : Heap} {p : Tr} {a : Addr} (e : TreeAt h (.ex hd [p]) (.ref a)) {P : Prop} (k : ∀ t1 t2 b v1, IsTup h a (List.toArray [.str (Str.ofString "expr") t1, .str hd t2, .ref b]) → IsTup h b (List.toArray [v1]) → TreeAt h p v1 → P) : P := TreeAt.e1_k e fun a' t1 t2 b v1 e0 => by cases e0; exact k t1 t2 b v1
theorem TreeAt.e1s_k {hd x : Str} {h : Heap} {v : Value} (e : TreeAt h (.ex hd [.sym x]) v) {P : Prop} (k : ∀ a t1 t2 b c t3 t4, v = .ref a → IsTup h a (List.toArray [.str (Str.ofString "expr") t1, .str hd t2, .ref b]) → IsTup h b (List.toArray [.ref c]) → IsTup h c (List.toArray [.str (Str.ofString "sym") t3, .str x t4]) → P) : P :=
  TreeAt.ex_k e fun a t1 t2 b vs e0 hT hB h0 => TreesAt.cons_k h0 fun v1 r e1 h1 h2 => by
    have e3 := TreesAt.nil_k h2; subst e3 e1
    exact TreeAt.sym_k h1 fun c t3 t4 e4 hC => by subst e4; exact k a t1 t2 b c t3 t4  e0 hT hB hC 
theorem TreeAt.e1sR {hd x : Str} {h : Heap} {a : Addr} (e : TreeAt h (.ex hd [.sym x]) (.ref a)) {P : Prop} (k : ∀ t1 t2 b c t3 t4, IsTup h a (List.toArray [.str (Str.ofString "expr") t1, .str hd t2, .ref b]) → IsTup h b (List.toArray [.ref c]) → IsTup h c (List.toArray [.str (Str.ofString "sym") t3, .str x t4]) → P) : P := TreeAt.e1s_k e fun a' t1 t2 b c t3 t4 e0 => by cases e0; exact k t1 t2 b c t3 t4
theorem TreeAt.e2_k {hd : Str} {h : Heap} {p q : Tr} {v : Value} (e : TreeAt h (.ex hd [p, q]) v) {P : Prop} (k : ∀ a t1 t2 b v1 v2, v = .ref a → IsTup h a (List.toArray [.str (Str.ofString "expr") t1, .str hd t2, .ref b]) → IsTup h b (List.toArray [v1, v2]) → TreeAt h p v1 → TreeAt h q v2 → P) : P :=
  TreeAt.ex_k e fun a t1 t2 b vs e0 hT hB h0 => TreesAt.cons_k h0 fun v1 r e1 h1 h2 => TreesAt.cons_k h2 fun v2 r2 e2 h3 h4 => by
    have e3 := TreesAt.nil_k h4; subst e3 e2 e1
    exact k a t1 t2 b v1 v2 e0 hT hB h1 h3
theorem TreeAt.e2R {hd : Str} {h : Heap} {p q : Tr} {a : Addr} (e : TreeAt h (.ex hd [p, q]) (.ref a)) {P : Prop} (k : ∀ t1 t2 b v1 v2, IsTup h a (List.toArray [.str (Str.ofString "expr") t1, .str hd t2, .ref b]) → IsTup h b (List.toArray [v1, v2]) → TreeAt h p v1 → TreeAt h q v2 → P) : P := TreeAt.e2_k e fun a' t1 t2 b v1 v2 e0 => by cases e0; exact k t1 t2 b v1 v2
theorem TreeAt.e2s_k {hd x : Str} {h : Heap} {q : Tr} {v : Value} (e : TreeAt h (.ex hd [.sym x, q]) v) {P : Prop} (k : ∀ a t1 t2 b c t3 t4 v2, v = .ref a → IsTup h a (List.toArray [.str (Str.ofString "expr") t1, .str hd t2, .ref b]) → IsTup h b (List.toArray [.ref c, v2]) → IsTup h c (List.toArray [.str (Str.ofString "sym") t3, .str x t4]) → TreeAt h q v2 → P) : P :=
  TreeAt.ex_k e fun a t1 t2 b vs e0 hT hB h0 => TreesAt.cons_k h0 fun v1 r e1 h1 h2 => TreesAt.cons_k h2 fun v2 r2 e2 h3 h4 => by
    have e3 := TreesAt.nil_k h4; subst e3 e2 e1
    exact TreeAt.sym_k h1 fun c t3 t4 e4 hC => by subst e4; exact k a t1 t2 b c t3 t4 v2 e0 hT hB hC h3
theorem TreeAt.e2sR {hd x : Str} {h : Heap} {q : Tr} {a : Addr} (e : TreeAt h (.ex hd [.sym x, q]) (.ref a)) {P : Prop} (k : ∀ t1 t2 b c t3 t4 v2, IsTup h a (List.toArray [.str (Str.ofString "expr") t1, .str hd t2, .ref b]) → IsTup h b (List.toArray [.ref c, v2]) → IsTup h c (List.toArray [.str (Str.ofString "sym") t3, .str x t4]) → TreeAt h q v2 → P) : P := TreeAt.e2s_k e fun a' t1 t2 b c t3 t4 v2 e0 => by cases e0; exact k t1 t2 b c t3 t4 v2
mutual
theorem TreeAt.keeps {h h' : Heap} (k : Le h h') : ∀ (t : Tr) {v : Value}, TreeAt h t v → TreeAt h' t v
  | .sym x, v, e => by
    simp only [TreeAt.e1, TreeAt.e2, TreeAt.e3] at e ⊢
    refine ex3_2 e ?_; clear e; intro a t1 t2 e T; exact ⟨a, t1, t2, e, T.keeps k⟩
  | .one, v, e => by
    simp only [TreeAt.e1, TreeAt.e2, TreeAt.e3] at e ⊢
    refine ex3_2 e ?_; clear e; intro a t1 t2 e T; exact ⟨a, t1, t2, e, T.keeps k⟩
  | .ex hd ps, v, e => by
    simp only [TreeAt.e1, TreeAt.e2, TreeAt.e3] at e ⊢
    refine ex5_4 e ?_; clear e; intro a t1 t2 b vs e T U r; exact ⟨a, t1, t2, b, vs, e, T.keeps k, U.keeps k, TreesAt.keeps k ps r⟩
theorem TreesAt.keeps {h h' : Heap} (k : Le h h') : ∀ (ts : List Tr) {vs : List Value}, TreesAt h ts vs → TreesAt h' ts vs
  | [], vs, e => by simpa only [TreesAt.e1, TreesAt.e2] using e
  | p :: ps, vs, e => by
    simp only [TreesAt.e1, TreesAt.e2] at e ⊢
    refine ex2_3 e ?_; clear e; intro v r e x y; exact ⟨v, r, e, TreeAt.keeps k p x, TreesAt.keeps k ps y⟩
end
noncomputable abbrev Gives (v : Value) : Value → Heap → Prop := fun r _ => r = v
theorem useV {E : Value → Shared → Prop} {A : Around} {s : Shared} {f : Addr} {args : List Value} {v : Value} {Q : Value → Shared → Prop} {h₀ : Heap} {L : Addr} {m : Str → Option Value} {news : List (Addr × Obj)}
    (c : Calls w A s f args nil (Gives v)) (F : Fr h₀ L s.heap m) (N : News h₀ L s.heap news)
    (k : ∀ h' tk, Fr h₀ L h' m → News h₀ L h' news → Q v { s with heap := h', toks := tk }) : wpAny (model PR w) A (call (.ref f) args) Q E s :=
  use0 c F N fun _ h' tk e _ F' N' => by rw [show _ = v from e]; exact k h' tk F' N'
section
variable {A : Around} {s : Shared} {a b : Addr} {t1 t2 t3 : Tok} {kd hd hd' : Str} {v2 : Value}
theorem is_expr_c {hd hd' : Str} {A : Around} {s : Shared} {a b : Addr} {t1 t2 t3 : Tok} (O : OkH w s.heap) (r : Rm A 1) (hT : IsTup s.heap a (List.toArray [.str (Str.ofString "expr") t1, .str hd t2, .ref b])) :
    Calls w A s 28 [.ref a, .str hd' t3] nil (Gives (.bool (hd == hd'))) := by
  refine' enter [((Str.ofString "tree"), .ref a), ((Str.ofString "head"), .str hd' t3)] O r ?k6 ?k7 ?k9 ?kB ?_ ?c1 ?c2 ?c3 ?c4 ?c5; k_extra "eN"
  have N : News s.heap L' s₁.heap [] := News.nil
  have X := OkH.X O; have T := OkH.top O
  k_steps
  exact post_end S (by assumption) rfl
theorem is_expr_n {kd hd' : Str} {A : Around} {s : Shared} {a : Addr} {t1 t3 : Tok} {v2 : Value} (O : OkH w s.heap) (r : Rm A 1) (hT : IsTup s.heap a (List.toArray [.str kd t1, v2])) (hk : (kd == Str.ofString "expr") = false) :
    Calls w A s 28 [.ref a, .str hd' t3] nil (Gives (.bool false)) := by
  refine' enter [((Str.ofString "tree"), .ref a), ((Str.ofString "head"), .str hd' t3)] O r ?k6 ?k7 ?k9 ?kB ?_ ?c1 ?c2 ?c3 ?c4 ?c5; k_extra "eN"
  have N : News s.heap L' s₁.heap [] := News.nil
  have X := OkH.X O; have T := OkH.top O
  k_steps
  all_goals first | (exact absurd (‹(kd == Str.ofString "expr") = true›.symm.trans hk) (by decide)) | (exact post_end S (by assumption) (congrArg Value.bool hk)) | (exact post_end S (by assumption) rfl)
theorem head_of_c {hd : Str} {A : Around} {s : Shared} {a b : Addr} {t1 t2 : Tok} (O : OkH w s.heap) (r : Rm A 1) (hT : IsTup s.heap a (List.toArray [.str (Str.ofString "expr") t1, .str hd t2, .ref b])) :
    Calls w A s 35 [.ref a] nil (Gives (.str hd t2)) := by
  refine' enter [((Str.ofString "tree"), .ref a)] O r ?k6 ?k7 ?k9 ?kB ?_ ?c1 ?c2 ?c3 ?c4 ?c5; k_extra "eN"
  have N : News s.heap L' s₁.heap [] := News.nil
  have X := OkH.X O; have T := OkH.top O
  k_steps
  exact post_end S (by assumption) rfl
theorem head_of_n {kd : Str} {A : Around} {s : Shared} {a : Addr} {t1 : Tok} {v2 : Value} (O : OkH w s.heap) (r : Rm A 1) (hT : IsTup s.heap a (List.toArray [.str kd t1, v2])) (hk : (kd == Str.ofString "expr") = false) :
    Calls w A s 35 [.ref a] nil (fun r _ => ∃ t, r = .str (Str.ofString "") t) := by
  refine' enter [((Str.ofString "tree"), .ref a)] O r ?k6 ?k7 ?k9 ?kB ?_ ?c1 ?c2 ?c3 ?c4 ?c5; k_extra "eN"
  have N : News s.heap L' s₁.heap [] := News.nil
  have X := OkH.X O; have T := OkH.top O
  k_steps
  all_goals first | (exact absurd (‹(kd == Str.ofString "expr") = true›.symm.trans hk) (by decide)) | (exact post_end S (by assumption) ⟨_, rfl⟩)
theorem parts_of_c {hd : Str} {A : Around} {s : Shared} {a b : Addr} {t1 t2 : Tok} (O : OkH w s.heap) (r : Rm A 1) (hT : IsTup s.heap a (List.toArray [.str (Str.ofString "expr") t1, .str hd t2, .ref b])) :
    Calls w A s 42 [.ref a] nil (Gives (.ref b)) := by
  refine' enter [((Str.ofString "tree"), .ref a)] O r ?k6 ?k7 ?k9 ?kB ?_ ?c1 ?c2 ?c3 ?c4 ?c5; k_extra "eN"
  have N : News s.heap L' s₁.heap [] := News.nil
  have X := OkH.X O; have T := OkH.top O
  k_steps
  exact post_end S (by assumption) rfl
theorem parts_of_n (O : OkH w s.heap) (r : Rm A 1) (hT : IsTup s.heap a (List.toArray [.str kd t1, v2])) (hk : (kd == Str.ofString "expr") = false) :
    Calls w A s 42 [.ref a] nil (fun r h' => ∃ b, r = .ref b ∧ IsTup h' b (List.toArray [])) := by
  refine' enter [((Str.ofString "tree"), .ref a)] O r ?k6 ?k7 ?k9 ?kB ?_ ?c1 ?c2 ?c3 ?c4 ?c5; k_extra "eN"
  have N : News s.heap L' s₁.heap [] := News.nil
  have X := OkH.X O; have T := OkH.top O
  k_steps
  all_goals first | (exact absurd (‹(kd == Str.ofString "expr") = true›.symm.trans hk) (by decide)) | (exact post_end S (by assumption) ⟨_, rfl, News.isTup (by assumption) (.head _)⟩)
theorem is_sym_c {kd : Str} {A : Around} {s : Shared} {a : Addr} {t1 : Tok} {v2 : Value} (O : OkH w s.heap) (r : Rm A 1) (hT : IsTup s.heap a (List.toArray [.str kd t1, v2])) :
    Calls w A s 49 [.ref a] nil (Gives (.bool (kd == Str.ofString "sym"))) := by
  refine' enter [((Str.ofString "tree"), .ref a)] O r ?k6 ?k7 ?k9 ?kB ?_ ?c1 ?c2 ?c3 ?c4 ?c5; k_extra "eN"
  have N : News s.heap L' s₁.heap [] := News.nil
  have X := OkH.X O; have T := OkH.top O
  k_steps
  exact post_end S (by assumption) rfl
theorem is_sym_e {hd : Str} {A : Around} {s : Shared} {a b : Addr} {t1 t2 : Tok} (O : OkH w s.heap) (r : Rm A 1) (hT : IsTup s.heap a (List.toArray [.str (Str.ofString "expr") t1, .str hd t2, .ref b])) :
    Calls w A s 49 [.ref a] nil (Gives (.bool false)) := by
  refine' enter [((Str.ofString "tree"), .ref a)] O r ?k6 ?k7 ?k9 ?kB ?_ ?c1 ?c2 ?c3 ?c4 ?c5; k_extra "eN"
  have N : News s.heap L' s₁.heap [] := News.nil
  have X := OkH.X O; have T := OkH.top O
  k_steps
  exact post_end S (by assumption) rfl
end
section
variable {A : Around} {s : Shared} {a b : Addr} {t1 t2 t3 : Tok} {kd hd hd' : Str} {v2 : Value} {Q E : Value → Shared → Prop} {h₀ : Heap} {L : Addr} {m : Str → Option Value} {news : List (Addr × Obj)}
theorem is_expr_u {E : Value → Shared → Prop} {hd hd' : Str} {A : Around} {s : Shared} {a b : Addr} {t1 t2 t3 : Tok} {Q : Value → Shared → Prop} {h₀ : Heap} {L : Addr} {m : Str → Option Value} {news : List (Addr × Obj)} (F : Fr h₀ L s.heap m) (N : News h₀ L s.heap news) (O : OkH w h₀) (r : Rm A 1) (hT : IsTup h₀ a (List.toArray [.str (Str.ofString "expr") t1, .str hd t2, .ref b]))
    (k : ∀ h' tk, Fr h₀ L h' m → News h₀ L h' news → Q (.bool (hd == hd')) { s with heap := h', toks := tk }) : wpAny (model PR w) A (call (.ref 28) [.ref a, .str hd' t3]) Q E s :=
  useV (is_expr_c (O.keeps F.keep) r (hT.keeps F.keep)) F N k
theorem is_expr_v {E : Value → Shared → Prop} {kd hd' : Str} {A : Around} {s : Shared} {a : Addr} {t1 t3 : Tok} {v2 : Value} {Q : Value → Shared → Prop} {h₀ : Heap} {L : Addr} {m : Str → Option Value} {news : List (Addr × Obj)} (F : Fr h₀ L s.heap m) (N : News h₀ L s.heap news) (O : OkH w h₀) (r : Rm A 1) (hT : IsTup h₀ a (List.toArray [.str kd t1, v2])) (hk : (kd == Str.ofString "expr") = false)
    (k : ∀ h' tk, Fr h₀ L h' m → News h₀ L h' news → Q (.bool false) { s with heap := h', toks := tk }) : wpAny (model PR w) A (call (.ref 28) [.ref a, .str hd' t3]) Q E s :=
  useV (is_expr_n (O.keeps F.keep) r (hT.keeps F.keep) hk) F N k
theorem head_of_u {E : Value → Shared → Prop} {hd : Str} {A : Around} {s : Shared} {a b : Addr} {t1 t2 : Tok} {Q : Value → Shared → Prop} {h₀ : Heap} {L : Addr} {m : Str → Option Value} {news : List (Addr × Obj)} (F : Fr h₀ L s.heap m) (N : News h₀ L s.heap news) (O : OkH w h₀) (r : Rm A 1) (hT : IsTup h₀ a (List.toArray [.str (Str.ofString "expr") t1, .str hd t2, .ref b]))
    (k : ∀ h' tk, Fr h₀ L h' m → News h₀ L h' news → Q (.str hd t2) { s with heap := h', toks := tk }) : wpAny (model PR w) A (call (.ref 35) [.ref a]) Q E s :=
  useV (head_of_c (O.keeps F.keep) r (hT.keeps F.keep)) F N k
theorem head_of_v {E : Value → Shared → Prop} {kd : Str} {A : Around} {s : Shared} {a : Addr} {t1 : Tok} {v2 : Value} {Q : Value → Shared → Prop} {h₀ : Heap} {L : Addr} {m : Str → Option Value} {news : List (Addr × Obj)} (F : Fr h₀ L s.heap m) (N : News h₀ L s.heap news) (O : OkH w h₀) (r : Rm A 1) (hT : IsTup h₀ a (List.toArray [.str kd t1, v2])) (hk : (kd == Str.ofString "expr") = false)
    (k : ∀ t h' tk, Fr h₀ L h' m → News h₀ L h' news → Q (.str (Str.ofString "") t) { s with heap := h', toks := tk }) : wpAny (model PR w) A (call (.ref 35) [.ref a]) Q E s :=
  use0 (head_of_n (O.keeps F.keep) r (hT.keeps F.keep) hk) F N fun _ h' tk ⟨t, e⟩ _ F' N' => by rw [e]; exact k t h' tk F' N'
theorem parts_of_u {E : Value → Shared → Prop} {hd : Str} {A : Around} {s : Shared} {a b : Addr} {t1 t2 : Tok} {Q : Value → Shared → Prop} {h₀ : Heap} {L : Addr} {m : Str → Option Value} {news : List (Addr × Obj)} (F : Fr h₀ L s.heap m) (N : News h₀ L s.heap news) (O : OkH w h₀) (r : Rm A 1) (hT : IsTup h₀ a (List.toArray [.str (Str.ofString "expr") t1, .str hd t2, .ref b]))
    (k : ∀ h' tk, Fr h₀ L h' m → News h₀ L h' news → Q (.ref b) { s with heap := h', toks := tk }) : wpAny (model PR w) A (call (.ref 42) [.ref a]) Q E s :=
  useV (parts_of_c (O.keeps F.keep) r (hT.keeps F.keep)) F N k
theorem parts_of_v (F : Fr h₀ L s.heap m) (N : News h₀ L s.heap news) (O : OkH w h₀) (r : Rm A 1) (hT : IsTup h₀ a (List.toArray [.str kd t1, v2])) (hk : (kd == Str.ofString "expr") = false)
    (k : ∀ b h' tk, Fr h₀ L h' m → News h₀ L h' news → Q (.ref b) { s with heap := h', toks := tk }) : wpAny (model PR w) A (call (.ref 42) [.ref a]) Q E s :=
  use0 (parts_of_n (O.keeps F.keep) r (hT.keeps F.keep) hk) F N fun _ h' tk ⟨b, e, _⟩ _ F' N' => by rw [e]; exact k b h' tk F' N'
theorem is_sym_u {E : Value → Shared → Prop} {kd : Str} {A : Around} {s : Shared} {a : Addr} {t1 : Tok} {v2 : Value} {Q : Value → Shared → Prop} {h₀ : Heap} {L : Addr} {m : Str → Option Value} {news : List (Addr × Obj)} (F : Fr h₀ L s.heap m) (N : News h₀ L s.heap news) (O : OkH w h₀) (r : Rm A 1) (hT : IsTup h₀ a (List.toArray [.str kd t1, v2]))
    (k : ∀ h' tk, Fr h₀ L h' m → News h₀ L h' news → Q (.bool (kd == Str.ofString "sym")) { s with heap := h', toks := tk }) : wpAny (model PR w) A (call (.ref 49) [.ref a]) Q E s :=
  useV (is_sym_c (O.keeps F.keep) r (hT.keeps F.keep)) F N k
theorem is_sym_v {E : Value → Shared → Prop} {hd : Str} {A : Around} {s : Shared} {a b : Addr} {t1 t2 : Tok} {Q : Value → Shared → Prop} {h₀ : Heap} {L : Addr} {m : Str → Option Value} {news : List (Addr × Obj)} (F : Fr h₀ L s.heap m) (N : News h₀ L s.heap news) (O : OkH w h₀) (r : Rm A 1) (hT : IsTup h₀ a (List.toArray [.str (Str.ofString "expr") t1, .str hd t2, .ref b]))
    (k : ∀ h' tk, Fr h₀ L h' m → News h₀ L h' news → Q (.bool false) { s with heap := h', toks := tk }) : wpAny (model PR w) A (call (.ref 49) [.ref a]) Q E s :=
  useV (is_sym_e (O.keeps F.keep) r (hT.keeps F.keep)) F N k
end
example : True := by
 k_with "mcall ref" => ((with_reducible refine (?_ : wpAny _ _ (call (.ref 28) _) _ _ _)); (refine' is_expr_u ?jf ?jn ?jo ?jr ?jx0 ?_; k_extra "mP4"; k_extra "mX1"); intro _ _ _ _; k_extra "msw")
 k_with "mcall ref" => ((with_reducible refine (?_ : wpAny _ _ (call (.ref 28) _) _ _ _)); (refine' is_expr_v ?jf ?jn ?jo ?jr ?jx0 ?jx1 ?_; k_extra "mP4"; k_extra "mX1"; (case jx1 => decide)); intro _ _ _ _; k_extra "msw")
 k_with "mcall ref" => ((with_reducible refine (?_ : wpAny _ _ (call (.ref 35) _) _ _ _)); (refine' head_of_u ?jf ?jn ?jo ?jr ?jx0 ?_; k_extra "mP4"; k_extra "mX1"); intro _ _ _ _; k_extra "msw")
 k_with "mcall ref" => ((with_reducible refine (?_ : wpAny _ _ (call (.ref 35) _) _ _ _)); (refine' head_of_v ?jf ?jn ?jo ?jr ?jx0 ?jx1 ?_; k_extra "mP4"; k_extra "mX1"; (case jx1 => decide)); intro _ _ _ _ _; k_extra "msw")
 k_with "mcall ref" => ((with_reducible refine (?_ : wpAny _ _ (call (.ref 42) _) _ _ _)); (refine' parts_of_u ?jf ?jn ?jo ?jr ?jx0 ?_; k_extra "mP4"; k_extra "mX1"); intro _ _ _ _; k_extra "msw")
 k_with "mcall ref" => ((with_reducible refine (?_ : wpAny _ _ (call (.ref 42) _) _ _ _)); (refine' parts_of_v ?jf ?jn ?jo ?jr ?jx0 ?jx1 ?_; k_extra "mP4"; k_extra "mX1"; (case jx1 => decide)); intro _ _ _ _ _; k_extra "msw")
 k_with "mcall ref" => ((with_reducible refine (?_ : wpAny _ _ (call (.ref 49) _) _ _ _)); (refine' is_sym_u ?jf ?jn ?jo ?jr ?jx0 ?_; k_extra "mP4"; k_extra "mX1"); intro _ _ _ _; k_extra "msw")
 k_with "mcall ref" => ((with_reducible refine (?_ : wpAny _ _ (call (.ref 49) _) _ _ _)); (refine' is_sym_v ?jf ?jn ?jo ?jr ?jx0 ?_; k_extra "mP4"; k_extra "mX1"); intro _ _ _ _; k_extra "msw")
 exact trivial
example : Sep := by w_top off; first | walk1 | trivial
section
variable {A : Around} {s : Shared} {a b c d e : Addr} {t1 t2 t3 t4 t5 t6 : Tok} {x : Str} {vs : List Value}
theorem place_names_c {x : Str} {A : Around} {s : Shared} {a : Addr} {t1 t2 : Tok} (O : OkH w s.heap) (r : Rm A 2) (hT : IsTup s.heap a (List.toArray [.str (Str.ofString "sym") t1, .str x t2])) :
    Calls w A s 68 [.ref a] nil (Fresh s [x]) := by
  refine' enter [((Str.ofString "place"), .ref a)] O r ?k6 ?k7 ?k9 ?kB ?_ ?c1 ?c2 ?c3 ?c4 ?c5; k_extra "eN"
  have N : News s.heap L' s₁.heap [] := News.nil
  have X := OkH.X O; have T := OkH.top O
  k_steps
  rename News _ _ _ _ => N1
  exact post_end S (by assumption) ⟨_, _, _, rfl, (N1 _ (.head _)).2.2, (N1 _ (.head _)).1, .cons _ _ .nil⟩
theorem function_head_c {hd hh : Str} {A : Around} {s : Shared} {a b c d : Addr} {t1 t2 t3 t4 : Tok} {v1 v2 : Value} (hp : (hd = Str.ofString "function" ∧ hh = Str.ofString "call") ∨ (hd = Str.ofString "->" ∧ hh = Str.ofString "tuple")) (O : OkH w s.heap) (r : Rm A 2)
    (hT : IsTup s.heap a (List.toArray [.str (Str.ofString "expr") t1, .str hd t2, .ref b])) (hB : IsTup s.heap b (List.toArray [.ref c, v2]))
    (hC : IsTup s.heap c (List.toArray [.str (Str.ofString "expr") t3, .str hh t4, .ref d])) :
    Calls w A s 75 [.ref a] nil (Gives (.ref c)) := by
  rcases hp with ⟨rfl, rfl⟩ | ⟨rfl, rfl⟩
  all_goals (
    refine' enter [((Str.ofString "tree"), .ref a)] O r ?k6 ?k7 ?k9 ?kB ?_ ?c1 ?c2 ?c3 ?c4 ?c5; k_extra "eN"
    have N : News s.heap L' s₁.heap [] := News.nil
    have X := OkH.X O; have T := OkH.top O
    k_steps
    refine while_none ?_
    k_steps
    exact post_end S (by assumption) rfl)
end
section
variable {A : Around} {s : Shared} {a b c d e : Addr} {t1 t2 t3 t4 t5 t6 : Tok} {x : Str} {vs : List Value} {Q E : Value → Shared → Prop} {h₀ : Heap} {L : Addr} {m : Str → Option Value} {news : List (Addr × Obj)}
theorem place_names_u (F : Fr h₀ L s.heap m) (N : News h₀ L s.heap news) (O : OkH w h₀) (r : Rm A 2) (hT : IsTup h₀ a (List.toArray [.str (Str.ofString "sym") t1, .str x t2]))
    (k : ∀ l vs n h' tk, StrsAre vs [x] → NeAll l news → Fr h₀ L h' m → News h₀ L h' ((l, listOf vs.toArray n) :: news) → Q (.ref l) { s with heap := h', toks := tk }) : wpAny (model PR w) A (call (.ref 68) [.ref a]) Q E s :=
  useL (place_names_c (O.keeps F.keep) r (hT.keeps F.keep)) F N k
theorem function_head_u {v2 : Value} (F : Fr h₀ L s.heap m) (N : News h₀ L s.heap news) (O : OkH w h₀) (r : Rm A 2)
    (hT : IsTup h₀ a (List.toArray [.str (Str.ofString "expr") t1, .str (Str.ofString "function") t2, .ref b])) (hB : IsTup h₀ b (List.toArray [.ref c, v2]))
    (hC : IsTup h₀ c (List.toArray [.str (Str.ofString "expr") t3, .str (Str.ofString "call") t4, .ref d]))
    (k : ∀ h' tk, Fr h₀ L h' m → News h₀ L h' news → Q (.ref c) { s with heap := h', toks := tk }) : wpAny (model PR w) A (call (.ref 75) [.ref a]) Q E s :=
  useV (function_head_c (v1 := v2) (.inl ⟨rfl, rfl⟩) (O.keeps F.keep) r (hT.keeps F.keep) (hB.keeps F.keep) (hC.keeps F.keep)) F N k
theorem function_head_v {E : Value → Shared → Prop} {A : Around} {s : Shared} {a b c d : Addr} {t1 t2 t3 t4 : Tok} {Q : Value → Shared → Prop} {h₀ : Heap} {L : Addr} {m : Str → Option Value} {news : List (Addr × Obj)} {v2 : Value} (F : Fr h₀ L s.heap m) (N : News h₀ L s.heap news) (O : OkH w h₀) (r : Rm A 2)
    (hT : IsTup h₀ a (List.toArray [.str (Str.ofString "expr") t1, .str (Str.ofString "->") t2, .ref b])) (hB : IsTup h₀ b (List.toArray [.ref c, v2]))
    (hC : IsTup h₀ c (List.toArray [.str (Str.ofString "expr") t3, .str (Str.ofString "tuple") t4, .ref d]))
    (k : ∀ h' tk, Fr h₀ L h' m → News h₀ L h' news → Q (.ref c) { s with heap := h', toks := tk }) : wpAny (model PR w) A (call (.ref 75) [.ref a]) Q E s :=
  useV (function_head_c (v1 := v2) (.inr ⟨rfl, rfl⟩) (O.keeps F.keep) r (hT.keeps F.keep) (hB.keeps F.keep) (hC.keeps F.keep)) F N k
end
example : True := by
 k_with "mcall ref" => ((with_reducible refine (?_ : wpAny _ _ (call (.ref 68) _) _ _ _)); (refine' place_names_u ?jf ?jn ?jo ?jr ?jx0 ?_; k_extra "mP4"; k_extra "mX1"); intro _ _ _ _ _ _ _ _ _; k_extra "msw")
 k_with "mcall ref" => ((with_reducible refine (?_ : wpAny _ _ (call (.ref 75) _) _ _ _)); (refine' function_head_u ?jf ?jn ?jo ?jr ?jx0 ?jx1 ?jx2 ?_; k_extra "mP4"; k_extra "mX3"); intro _ _ _ _; k_extra "msw")
 k_with "mcall ref" => ((with_reducible refine (?_ : wpAny _ _ (call (.ref 75) _) _ _ _)); (refine' function_head_v ?jf ?jn ?jo ?jr ?jx0 ?jx1 ?jx2 ?_; k_extra "mP4"; k_extra "mX3"); intro _ _ _ _; k_extra "msw")
 exact trivial
section
variable {A : Around} {s : Shared} {a b c d e : Addr} {t1 t2 t3 t4 t5 t6 : Tok} {x : Str} {vs : List Value}
theorem own_name_f {v2 : Value} {as : List Value} (O : OkH w s.heap) (r : Rm A 3)
    (hT : IsTup s.heap a (List.toArray [.str (Str.ofString "expr") t1, .str (Str.ofString "function") t2, .ref b])) (hB : IsTup s.heap b (List.toArray [.ref c, v2]))
    (hC : IsTup s.heap c (List.toArray [.str (Str.ofString "expr") t3, .str (Str.ofString "call") t4, .ref d])) (hD : IsTup s.heap d (List.toArray (.ref e :: as)))
    (hE : IsTup s.heap e (List.toArray [.str (Str.ofString "sym") t5, .str x t6])) :
    Calls w A s 82 [.ref a] nil (Gives (.str x t6)) := by
  refine' enter [((Str.ofString "tree"), .ref a)] O r ?k6 ?k7 ?k9 ?kB ?_ ?c1 ?c2 ?c3 ?c4 ?c5; k_extra "eN"
  have N : News s.heap L' s₁.heap [] := News.nil
  have X := OkH.X O; have T := OkH.top O
  k_steps
  exact post_end S (by assumption) rfl
theorem own_name_a {A : Around} {s : Shared} {a b : Addr} {t1 t2 : Tok} (O : OkH w s.heap) (r : Rm A 3)
    (hT : IsTup s.heap a (List.toArray [.str (Str.ofString "expr") t1, .str (Str.ofString "->") t2, .ref b])) :
    Calls w A s 82 [.ref a] nil (fun r _ => ∃ t, r = .str (Str.ofString "") t) := by
  refine' enter [((Str.ofString "tree"), .ref a)] O r ?k6 ?k7 ?k9 ?kB ?_ ?c1 ?c2 ?c3 ?c4 ?c5; k_extra "eN"
  have N : News s.heap L' s₁.heap [] := News.nil
  have X := OkH.X O; have T := OkH.top O
  k_steps
  exact post_end S (by assumption) ⟨_, rfl⟩
end
example : Sep := by w_top off; first | walk1 | trivial
noncomputable abbrev Ar := Str × Option Str
inductive T where
  | sym (x : Str)
  | one
  | set (x : Str) (v : T)
  | up (x : Str) (v : T)
  | loc (x : Str)
  | locs (x : Str) (v : T)
  | dot (x : Str)
  | quo (x : Str)
  | fn (z : Str) (as : List Ar) (b : T)
  | arr (as : List Ar) (b : T)
  | blk (a b : T)
  | ite (a b : T)
  | whl (a b : T)
  | lt (x : Str) (a b : T)
  | fr (x : Str) (a b : T)
  | cmp (a : T) (x : Str) (b : T)
noncomputable def Ar.tr (a : Ar) : Tr := match a.2 with
  | none => .sym a.1
  | some y => .ex (Str.ofString "kw") [.sym a.1, .sym y]
noncomputable def T.tr : T → Tr
  | .sym x => .sym x
  | .one => .one
  | .set x v => .ex (Str.ofString "=") [.sym x, v.tr]
  | .up x v => .ex (Str.ofString "+=") [.sym x, v.tr]
  | .loc x => .ex (Str.ofString "local") [.sym x]
  | .locs x v => .ex (Str.ofString "local") [.ex (Str.ofString "=") [.sym x, v.tr]]
  | .dot x => .ex (Str.ofString ".") [.sym x, .sym (Str.ofString "v")]
  | .quo x => .ex (Str.ofString "quote") [.sym x]
  | .fn z as b => .ex (Str.ofString "function") [.ex (Str.ofString "call") (.sym z :: as.map Ar.tr), b.tr]
  | .arr as b => .ex (Str.ofString "->") [.ex (Str.ofString "tuple") (as.map Ar.tr), b.tr]
  | .blk a b => .ex (Str.ofString "block") [a.tr, b.tr]
  | .ite a b => .ex (Str.ofString "if") [a.tr, b.tr]
  | .whl a b => .ex (Str.ofString "while") [a.tr, b.tr]
  | .lt x a b => .ex (Str.ofString "let") [.ex (Str.ofString "block") [.ex (Str.ofString "=") [.sym x, a.tr]], b.tr]
  | .fr x a b => .ex (Str.ofString "for") [.ex (Str.ofString "in") [.sym x, a.tr], b.tr]
  | .cmp a x b => .ex (Str.ofString "comprehension") [a.tr, .ex (Str.ofString "in") [.sym x, b.tr]]
theorem T.tr_e : (∀ (x : Str), (T.sym x).tr = (.sym x : Tr)) ∧ ((T.one).tr = (.one : Tr)) ∧ (∀ (x : Str) (v : T), (T.set x v).tr = (.ex (Str.ofString "=") [.sym x, v.tr] : Tr)) ∧ (∀ (x : Str) (v : T), (T.up x v).tr = (.ex (Str.ofString "+=") [.sym x, v.tr] : Tr)) ∧ (∀ (x : Str), (T.loc x).tr = (.ex (Str.ofString "local") [.sym x] : Tr)) ∧ (∀ (x : Str) (v : T), (T.locs x v).tr = (.ex (Str.ofString "local") [.ex (Str.ofString "=") [.sym x, v.tr]] : Tr)) ∧ (∀ (x : Str), (T.dot x).tr = (.ex (Str.ofString ".") [.sym x, .sym (Str.ofString "v")] : Tr)) ∧ (∀ (x : Str), (T.quo x).tr = (.ex (Str.ofString "quote") [.sym x] : Tr)) ∧ (∀ (z : Str) (as : List Ar) (b : T), (T.fn z as b).tr = (.ex (Str.ofString "function") [.ex (Str.ofString "call") (.sym z :: as.map Ar.tr), b.tr] : Tr)) ∧ (∀ (as : List Ar) (b : T), (T.arr as b).tr = (.ex (Str.ofString "->") [.ex (Str.ofString "tuple") (as.map Ar.tr), b.tr] : Tr)) ∧ (∀ (a : T) (b : T), (T.blk a b).tr = (.ex (Str.ofString "block") [a.tr, b.tr] : Tr)) ∧ (∀ (a : T) (b : T), (T.ite a b).tr = (.ex (Str.ofString "if") [a.tr, b.tr] : Tr)) ∧ (∀ (a : T) (b : T), (T.whl a b).tr = (.ex (Str.ofString "while") [a.tr, b.tr] : Tr)) ∧ (∀ (x : Str) (a : T) (b : T), (T.lt x a b).tr = (.ex (Str.ofString "let") [.ex (Str.ofString "block") [.ex (Str.ofString "=") [.sym x, a.tr]], b.tr] : Tr)) ∧ (∀ (x : Str) (a : T) (b : T), (T.fr x a b).tr = (.ex (Str.ofString "for") [.ex (Str.ofString "in") [.sym x, a.tr], b.tr] : Tr)) ∧ (∀ (a : T) (x : Str) (b : T), (T.cmp a x b).tr = (.ex (Str.ofString "comprehension") [a.tr, .ex (Str.ofString "in") [.sym x, b.tr]] : Tr)) :=
  ⟨fun _ => rfl, rfl, fun _ _ => rfl, fun _ _ => rfl, fun _ => rfl, fun _ _ => rfl, fun _ => rfl, fun _ => rfl, fun _ _ _ => rfl, fun _ _ => rfl, fun _ _ => rfl, fun _ _ => rfl, fun _ _ => rfl, fun _ _ _ => rfl, fun _ _ _ => rfl, fun _ _ _ => rfl⟩
noncomputable def T.ht : T → Nat
  | .sym _ => 0
  | .one => 0
  | .set _ v => v.ht + 1
  | .up _ v => v.ht + 1
  | .loc _ => 1
  | .locs _ v => v.ht + 2
  | .dot _ => 1
  | .quo _ => 1
  | .fn _ _ b => b.ht + 1
  | .arr _ b => b.ht + 1
  | .blk a b => max a.ht b.ht + 1
  | .ite a b => max a.ht b.ht + 1
  | .whl a b => max a.ht b.ht + 1
  | .lt _ a b => max a.ht b.ht + 3
  | .fr _ a b => max a.ht b.ht + 2
  | .cmp a _ b => max a.ht b.ht + 2
theorem T.ht_e : (∀ (w0 : Str), (T.sym w0).ht = (0 : Nat)) ∧ ((T.one).ht = (0 : Nat)) ∧ (∀ (w0 : Str) (v : T), (T.set w0 v).ht = (v.ht + 1 : Nat)) ∧ (∀ (w0 : Str) (v : T), (T.up w0 v).ht = (v.ht + 1 : Nat)) ∧ (∀ (w0 : Str), (T.loc w0).ht = (1 : Nat)) ∧ (∀ (w0 : Str) (v : T), (T.locs w0 v).ht = (v.ht + 2 : Nat)) ∧ (∀ (w0 : Str), (T.dot w0).ht = (1 : Nat)) ∧ (∀ (w0 : Str), (T.quo w0).ht = (1 : Nat)) ∧ (∀ (w0 : Str) (w1 : List Ar) (b : T), (T.fn w0 w1 b).ht = (b.ht + 1 : Nat)) ∧ (∀ (w0 : List Ar) (b : T), (T.arr w0 b).ht = (b.ht + 1 : Nat)) ∧ (∀ (a : T) (b : T), (T.blk a b).ht = (max a.ht b.ht + 1 : Nat)) ∧ (∀ (a : T) (b : T), (T.ite a b).ht = (max a.ht b.ht + 1 : Nat)) ∧ (∀ (a : T) (b : T), (T.whl a b).ht = (max a.ht b.ht + 1 : Nat)) ∧ (∀ (w0 : Str) (a : T) (b : T), (T.lt w0 a b).ht = (max a.ht b.ht + 3 : Nat)) ∧ (∀ (w0 : Str) (a : T) (b : T), (T.fr w0 a b).ht = (max a.ht b.ht + 2 : Nat)) ∧ (∀ (a : T) (w1 : Str) (b : T), (T.cmp a w1 b).ht = (max a.ht b.ht + 2 : Nat)) :=
  ⟨fun _ => rfl, rfl, fun _ _ => rfl, fun _ _ => rfl, fun _ => rfl, fun _ _ => rfl, fun _ => rfl, fun _ => rfl, fun _ _ _ => rfl, fun _ _ => rfl, fun _ _ => rfl, fun _ _ => rfl, fun _ _ => rfl, fun _ _ _ => rfl, fun _ _ _ => rfl, fun _ _ _ => rfl⟩
noncomputable def T.sz : T → Nat
  | .sym _ => 1
  | .one => 1
  | .set _ v => v.sz + 2
  | .up _ v => v.sz + 2
  | .loc _ => 2
  | .locs _ v => v.sz + 3
  | .dot _ => 3
  | .quo _ => 2
  | .fn _ as b => b.sz + 3 * as.length + 4
  | .arr as b => b.sz + 3 * as.length + 4
  | .blk a b => a.sz + b.sz + 1
  | .ite a b => a.sz + b.sz + 1
  | .whl a b => a.sz + b.sz + 1
  | .lt _ a b => a.sz + b.sz + 4
  | .fr _ a b => a.sz + b.sz + 3
  | .cmp a _ b => a.sz + b.sz + 3
theorem T.sz_e : (∀ (w0 : Str), (T.sym w0).sz = (1 : Nat)) ∧ ((T.one).sz = (1 : Nat)) ∧ (∀ (w0 : Str) (v : T), (T.set w0 v).sz = (v.sz + 2 : Nat)) ∧ (∀ (w0 : Str) (v : T), (T.up w0 v).sz = (v.sz + 2 : Nat)) ∧ (∀ (w0 : Str), (T.loc w0).sz = (2 : Nat)) ∧ (∀ (w0 : Str) (v : T), (T.locs w0 v).sz = (v.sz + 3 : Nat)) ∧ (∀ (w0 : Str), (T.dot w0).sz = (3 : Nat)) ∧ (∀ (w0 : Str), (T.quo w0).sz = (2 : Nat)) ∧ (∀ (w0 : Str) (as : List Ar) (b : T), (T.fn w0 as b).sz = (b.sz + 3 * as.length + 4 : Nat)) ∧ (∀ (as : List Ar) (b : T), (T.arr as b).sz = (b.sz + 3 * as.length + 4 : Nat)) ∧ (∀ (a : T) (b : T), (T.blk a b).sz = (a.sz + b.sz + 1 : Nat)) ∧ (∀ (a : T) (b : T), (T.ite a b).sz = (a.sz + b.sz + 1 : Nat)) ∧ (∀ (a : T) (b : T), (T.whl a b).sz = (a.sz + b.sz + 1 : Nat)) ∧ (∀ (w0 : Str) (a : T) (b : T), (T.lt w0 a b).sz = (a.sz + b.sz + 4 : Nat)) ∧ (∀ (w0 : Str) (a : T) (b : T), (T.fr w0 a b).sz = (a.sz + b.sz + 3 : Nat)) ∧ (∀ (a : T) (w1 : Str) (b : T), (T.cmp a w1 b).sz = (a.sz + b.sz + 3 : Nat)) :=
  ⟨fun _ => rfl, rfl, fun _ _ => rfl, fun _ _ => rfl, fun _ => rfl, fun _ _ => rfl, fun _ => rfl, fun _ => rfl, fun _ _ _ => rfl, fun _ _ => rfl, fun _ _ => rfl, fun _ _ => rfl, fun _ _ => rfl, fun _ _ _ => rfl, fun _ _ _ => rfl, fun _ _ _ => rfl⟩
noncomputable def joinAll (xss : List (List Str)) : List Str := xss.foldl putAll []
noncomputable def wout (xs ys : List Str) : List Str := xs.filter fun x => !(ys.any (· == x))
noncomputable def T.locals : T → List Str
  | .sym x0 => []
  | .one => []
  | .set _ v => v.locals
  | .up _ v => v.locals
  | .loc x => [x]
  | .locs x v => x :: v.locals
  | .dot x0 => []
  | .quo x0 => []
  | .fn x0 x1 x2 => []
  | .arr x0 x1 => []
  | .blk a b => a.locals ++ b.locals
  | .ite a b => a.locals ++ b.locals
  | .whl a _ => a.locals
  | .lt x0 x1 x2 => []
  | .fr _ a _ => a.locals
  | .cmp x0 x1 x2 => []
theorem T.locals_e : (∀ (x0 : Str), (T.sym x0).locals = ([] : List Str)) ∧ ((T.one).locals = ([] : List Str)) ∧ (∀ (w0 : Str) (v : T), (T.set w0 v).locals = (v.locals : List Str)) ∧ (∀ (w0 : Str) (v : T), (T.up w0 v).locals = (v.locals : List Str)) ∧ (∀ (x : Str), (T.loc x).locals = ([x] : List Str)) ∧ (∀ (x : Str) (v : T), (T.locs x v).locals = (x :: v.locals : List Str)) ∧ (∀ (x0 : Str), (T.dot x0).locals = ([] : List Str)) ∧ (∀ (x0 : Str), (T.quo x0).locals = ([] : List Str)) ∧ (∀ (x0 : Str) (x1 : List Ar) (x2 : T), (T.fn x0 x1 x2).locals = ([] : List Str)) ∧ (∀ (x0 : List Ar) (x1 : T), (T.arr x0 x1).locals = ([] : List Str)) ∧ (∀ (a : T) (b : T), (T.blk a b).locals = (a.locals ++ b.locals : List Str)) ∧ (∀ (a : T) (b : T), (T.ite a b).locals = (a.locals ++ b.locals : List Str)) ∧ (∀ (a : T) (w1 : T), (T.whl a w1).locals = (a.locals : List Str)) ∧ (∀ (x0 : Str) (x1 : T) (x2 : T), (T.lt x0 x1 x2).locals = ([] : List Str)) ∧ (∀ (w0 : Str) (a : T) (w2 : T), (T.fr w0 a w2).locals = (a.locals : List Str)) ∧ (∀ (x0 : T) (x1 : Str) (x2 : T), (T.cmp x0 x1 x2).locals = ([] : List Str)) :=
  ⟨fun _ => rfl, rfl, fun _ _ => rfl, fun _ _ => rfl, fun _ => rfl, fun _ _ => rfl, fun _ => rfl, fun _ => rfl, fun _ _ _ => rfl, fun _ _ => rfl, fun _ _ => rfl, fun _ _ => rfl, fun _ _ => rfl, fun _ _ _ => rfl, fun _ _ _ => rfl, fun _ _ _ => rfl⟩
noncomputable def scUses (us : List Str) (b : T) (own : List Str) : List Str := wout us (own ++ putAll [] b.locals)
noncomputable def funUses (us : List Str) (as : List Ar) (b : T) : List Str :=
  wout (joinAll [putAll [] (as.filterMap (·.2)), scUses us b []]) (putAll [] (as.map (·.1)) ++ [])
noncomputable def T.used : T → List Str
  | .sym x => [x]
  | .one => []
  | .set x v => joinAll [[x], v.used]
  | .up x v => joinAll [[x], v.used]
  | .loc x => joinAll [[x]]
  | .locs x v => joinAll [joinAll [[x], v.used]]
  | .dot x => joinAll [[x]]
  | .quo _ => []
  | .fn z as b => joinAll [[z], funUses b.used as b]
  | .arr as b => joinAll [[], funUses b.used as b]
  | .blk a b => joinAll [a.used, b.used]
  | .ite a b => joinAll [a.used, b.used]
  | .whl a b => joinAll [a.used, scUses b.used b []]
  | .lt x a b => joinAll [putAll [] (wout a.used []), scUses b.used b (putAll [] [x])]
  | .fr x a b => joinAll [a.used, scUses b.used b [x]]
  | .cmp a x b => joinAll [putAll [] (wout b.used []), scUses a.used a (putAll [] [x])]
theorem T.used_e : (∀ (x : Str), (T.sym x).used = ([x] : List Str)) ∧ ((T.one).used = ([] : List Str)) ∧ (∀ (x : Str) (v : T), (T.set x v).used = (joinAll [[x], v.used] : List Str)) ∧ (∀ (x : Str) (v : T), (T.up x v).used = (joinAll [[x], v.used] : List Str)) ∧ (∀ (x : Str), (T.loc x).used = (joinAll [[x]] : List Str)) ∧ (∀ (x : Str) (v : T), (T.locs x v).used = (joinAll [joinAll [[x], v.used]] : List Str)) ∧ (∀ (x : Str), (T.dot x).used = (joinAll [[x]] : List Str)) ∧ (∀ (w0 : Str), (T.quo w0).used = ([] : List Str)) ∧ (∀ (z : Str) (as : List Ar) (b : T), (T.fn z as b).used = (joinAll [[z], funUses b.used as b] : List Str)) ∧ (∀ (as : List Ar) (b : T), (T.arr as b).used = (joinAll [[], funUses b.used as b] : List Str)) ∧ (∀ (a : T) (b : T), (T.blk a b).used = (joinAll [a.used, b.used] : List Str)) ∧ (∀ (a : T) (b : T), (T.ite a b).used = (joinAll [a.used, b.used] : List Str)) ∧ (∀ (a : T) (b : T), (T.whl a b).used = (joinAll [a.used, scUses b.used b []] : List Str)) ∧ (∀ (x : Str) (a : T) (b : T), (T.lt x a b).used = (joinAll [putAll [] (wout a.used []), scUses b.used b (putAll [] [x])] : List Str)) ∧ (∀ (x : Str) (a : T) (b : T), (T.fr x a b).used = (joinAll [a.used, scUses b.used b [x]] : List Str)) ∧ (∀ (a : T) (x : Str) (b : T), (T.cmp a x b).used = (joinAll [putAll [] (wout b.used []), scUses a.used a (putAll [] [x])] : List Str)) :=
  ⟨fun _ => rfl, rfl, fun _ _ => rfl, fun _ _ => rfl, fun _ => rfl, fun _ _ => rfl, fun _ => rfl, fun _ => rfl, fun _ _ _ => rfl, fun _ _ => rfl, fun _ _ => rfl, fun _ _ => rfl, fun _ _ => rfl, fun _ _ _ => rfl, fun _ _ _ => rfl, fun _ _ _ => rfl⟩
theorem joinFold_len (xss : List (List Str)) : ∀ acc : List Str, (xss.foldl putAll acc).length ≤ acc.length + (xss.map List.length).sum := by
  induction xss with
  | nil => intro acc; simp
  | cons x r ih => intro acc; have h1 := ih (putAll acc x); have h2 := putAll_len acc x; simp only [List.foldl_cons, List.map_cons, List.sum_cons]; k_extra "mE lia"
theorem joinAll_len (xss : List (List Str)) : (joinAll xss).length ≤ (xss.map List.length).sum := by
  have := joinFold_len xss []; simpa [joinAll] using this
theorem wout_len (xs ys : List Str) : (wout xs ys).length ≤ xs.length := List.length_filter_le _ _
theorem T.locals_len (t : T) : t.locals.length ≤ t.sz := by
  induction t <;> simp only [T.locals_e, T.sz_e, List.length_nil, List.length_cons, List.length_append] <;> k_extra "mE lia"
theorem scUses_len (us : List Str) (b : T) (own : List Str) : (scUses us b own).length ≤ us.length := wout_len _ _
theorem funUses_len (us : List Str) (as : List Ar) (b : T) : (funUses us as b).length ≤ us.length + as.length := by
  unfold funUses
  have h1 := wout_len (joinAll [putAll [] (as.filterMap (·.2)), scUses us b []]) (putAll [] (as.map (·.1)) ++ [])
  have h2 := joinAll_len [putAll [] (as.filterMap (·.2)), scUses us b []]
  have h3 := putAll_len [] (as.filterMap (·.2))
  have h4 := scUses_len us b []
  have h5 : (as.filterMap (·.2)).length ≤ as.length := List.length_filterMap_le _ _
  simp only [List.map_cons, List.map_nil, List.sum_cons, List.sum_nil, List.length_nil] at h2 h3
  k_extra "mE lia"
theorem T.used_len (t : T) : t.used.length ≤ t.sz := by
  induction t with
  | sym x => simp [T.used_e, T.sz_e]
  | one => simp [T.used_e, T.sz_e]
  | quo x => simp [T.used_e, T.sz_e]
  | set x v ih => have := joinAll_len [[x], v.used]; simp only [T.used_e, T.sz_e, List.map_cons, List.map_nil, List.sum_cons, List.sum_nil, List.length_cons, List.length_nil] at this ⊢; k_extra "mE lia"
  | up x v ih => have := joinAll_len [[x], v.used]; simp only [T.used_e, T.sz_e, List.map_cons, List.map_nil, List.sum_cons, List.sum_nil, List.length_cons, List.length_nil] at this ⊢; k_extra "mE lia"
  | loc x => have := joinAll_len [[x]]; simp only [T.used_e, T.sz_e, List.map_cons, List.map_nil, List.sum_cons, List.sum_nil, List.length_cons, List.length_nil] at this ⊢; k_extra "mE lia"
  | dot x => have := joinAll_len [[x]]; simp only [T.used_e, T.sz_e, List.map_cons, List.map_nil, List.sum_cons, List.sum_nil, List.length_cons, List.length_nil] at this ⊢; k_extra "mE lia"
  | locs x v ih =>
    have h1 := joinAll_len [[x], v.used]; have h2 := joinAll_len [joinAll [[x], v.used]]
    simp only [T.used_e, T.sz_e, List.map_cons, List.map_nil, List.sum_cons, List.sum_nil, List.length_cons, List.length_nil] at h1 h2 ⊢; k_extra "mE lia"
  | fn z as b ih =>
    have h1 := funUses_len b.used as b; have h2 := joinAll_len [[z], funUses b.used as b]
    simp only [T.used_e, T.sz_e, List.map_cons, List.map_nil, List.sum_cons, List.sum_nil, List.length_cons, List.length_nil] at h1 h2 ⊢; k_extra "mE lia"
  | arr as b ih =>
    have h1 := funUses_len b.used as b; have h2 := joinAll_len [[], funUses b.used as b]
    simp only [T.used_e, T.sz_e, List.map_cons, List.map_nil, List.sum_cons, List.sum_nil, List.length_cons, List.length_nil] at h1 h2 ⊢; k_extra "mE lia"
  | blk a b iha ihb => have := joinAll_len [a.used, b.used]; simp only [T.used_e, T.sz_e, List.map_cons, List.map_nil, List.sum_cons, List.sum_nil] at this ⊢; k_extra "mE lia"
  | ite a b iha ihb => have := joinAll_len [a.used, b.used]; simp only [T.used_e, T.sz_e, List.map_cons, List.map_nil, List.sum_cons, List.sum_nil] at this ⊢; k_extra "mE lia"
  | whl a b iha ihb =>
    have h1 := scUses_len b.used b []; have := joinAll_len [a.used, scUses b.used b []]
    simp only [T.used_e, T.sz_e, List.map_cons, List.map_nil, List.sum_cons, List.sum_nil] at this ⊢; k_extra "mE lia"
  | lt x a b iha ihb =>
    have h1 := scUses_len b.used b (putAll [] [x]); have h2 := wout_len a.used []; have h3 := putAll_len [] (wout a.used []); have := joinAll_len [putAll [] (wout a.used []), scUses b.used b (putAll [] [x])]
    simp only [T.used_e, T.sz_e, List.map_cons, List.map_nil, List.sum_cons, List.sum_nil, List.length_nil] at this h3 ⊢; k_extra "mE lia"
  | fr x a b iha ihb =>
    have h1 := scUses_len b.used b [x]; have := joinAll_len [a.used, scUses b.used b [x]]
    simp only [T.used_e, T.sz_e, List.map_cons, List.map_nil, List.sum_cons, List.sum_nil] at this ⊢; k_extra "mE lia"
  | cmp a x b iha ihb =>
    have h1 := scUses_len a.used a (putAll [] [x]); have h2 := wout_len b.used []; have h3 := putAll_len [] (wout b.used []); have := joinAll_len [putAll [] (wout b.used []), scUses a.used a (putAll [] [x])]
    simp only [T.used_e, T.sz_e, List.map_cons, List.map_nil, List.sum_cons, List.sum_nil, List.length_nil] at this h3 ⊢; k_extra "mE lia"
example : Sep := by w_top off; first | walk1 | trivial
noncomputable def Step (ws : List Addr) (s s' : Shared) : Prop := Same s s' ∧ ∀ b o, b ∉ ws → s.heap.get? b = some o → s'.heap.get? b = some o
theorem le_hideAll {h h' : Heap} {l : List Addr} (k : ∀ b o, b ∉ l → h.get? b = some o → h'.get? b = some o) : Le (hideAll h l) (hideAll h' l) := fun b o e => by
  have hb : b ∉ l := fun hm => by rw [hideAll_none l hm] at e; cases e
  exact hideAll_get l (k b o hb (of_hideAll l e)) hb
noncomputable abbrev Tests (prog : Program) (w : World) (A : Around) (cenv : Env) (ifs : List Expr) (Q : Bool → Shared → Prop) (s : Shared) : Prop :=
  wpAny (model prog w) A (forIn ifs true fun c r => if r = true then do let ok ← isTrue c cenv (eval c cenv); pure (ForInStep.yield ok) else pure (ForInStep.yield r)) Q (fun _ _ => False) s
theorem tests_nil {prog : Program} {A : Around} {cenv : Env} {Q : Bool → Shared → Prop} {s : Shared} (h : Q true s) : Tests prog w A cenv [] Q s := by
  unfold Tests; rw [List.forIn_nil]; exact wpAny_pure h
theorem tests_one {prog : Program} {c : Expr} {A : Around} {cenv : Env} {Q : Bool → Shared → Prop} {s : Shared} (h : wpAny (model prog w) A (isTrue c cenv (eval c cenv)) Q (fun _ _ => False) s) : Tests prog w A cenv [c] Q s := by
  unfold Tests
  rw [List.forIn_cons, if_pos rfl]
  refine wpAny_bind (wpAny_bind (wpAny_mono h (fun b s' hb => wpAny_pure ?_) fun _ _ x => x))
  dsimp only; rw [List.forIn_nil]; exact wpAny_pure hb
section
variable {prog : Program} {A : Around}
theorem comp_loop {prog : Program} {elt iter : Expr} {px : Pos} {ifs : List Expr} {scope : Scope} {pos : Pos} {x : Str} {A : Around} {s : Shared} {I C D : Addr} {fp ws : List Addr} {n : Nat} {P : Nat → Value → Prop} {St : Nat → Heap → Prop} {cenv : Env} {m0 : Str → Option Value} {R : Result → Shared → Prop}
    (V : Nat → List Value → Heap → Prop) (Mt : Nat → List Value → Heap → Prop)
    (hV : ∀ i ys g g', V i ys g → Le g g' → V i ys g')
    (hM : ∀ i ys h h', Mt i ys h → (∀ b ∈ ws, ∀ o, h.get? b = some o → h'.get? b = some o) → Mt i ys h')
    (hMw : ∀ i ys h, Mt i ys h → ∀ b ∈ ws, ∃ o, h.get? b = some o) (hSt : ∀ i h, St i h → ∃ o, h.get? I = some o)
    (W : Walks prog w A I fp [I] n P St) (hC : cenv.locals = C)
    (hfp : ∀ b ∈ fp, b ≠ C ∧ b ≠ D ∧ b ∉ ws) (hDC : D ≠ C) (hCw : C ∉ ws) (hDw : D ∉ ws)
    (hx : cenv.kindOf x = some .local) (hp : (cenv.scope.kind == .class || (cenv.scope.kind == .module && cenv.locals != cenv.globals)) = false)
    (st0 : St 0 s.heap) (hD : s.heap.PlainList D #[]) (hn : s.heap.Ns C m0)
    (v0 : V 0 [] (hideAll s.heap (C :: D :: I :: ws))) (m0' : Mt 0 [] s.heap) (hsz : n ≤ 2 ^ 20)
    (turn : ∀ i v s₃ m ys, i < n → P i v → ys.length ≤ i → Same s s₃ → (∀ b o, b ≠ C → b ≠ D → b ≠ I → b ∉ ws → s.heap.get? b = some o → s₃.heap.get? b = some o) → s₃.heap.Ns C m → m x = some v → (∀ b, s₃.heap.get? b = none → b ∉ C :: D :: I :: ws) →
      V i ys (hideAll s₃.heap (C :: D :: I :: ws)) → Mt i ys s₃.heap →
      Tests prog w A cenv ifs (fun ok s₄ => if ok = true then wpAny (model prog w) A (eval elt cenv) (fun y s₅ => Step ws s₃ s₅ ∧ V (i + 1) (ys ++ [y]) (hideAll s₅.heap (C :: D :: I :: ws)) ∧ Mt (i + 1) (ys ++ [y]) s₅.heap) (fun _ _ => False) s₄
        else Step ws s₃ s₄ ∧ V (i + 1) ys (hideAll s₄.heap (C :: D :: I :: ws)) ∧ Mt (i + 1) ys s₄.heap) s₃)
    (hR : ∀ s' m ys, Same s s' → s'.heap.Ns C m → s'.heap.PlainList D ys.toArray → V n ys (hideAll s'.heap (C :: D :: I :: ws)) → Mt n ys s'.heap → ys.length ≤ n →
      (∀ b o, b ≠ C → b ≠ D → b ≠ I → b ∉ ws → s.heap.get? b = some o → s'.heap.get? b = some o) → R (.ok .next) s') :
    codeAny (model prog w) A (.compLoop (.ListComp elt [⟨.Name x px, iter, ifs, 0⟩] scope pos) 0 (.ref I) (.ref D) cenv) R s := by
  subst hC
  have hIf : I ∈ fp := W.sub _ (.head _)
  refine ex0_3 (hfp I hIf) ?_; intro hIC hID hIw
  refine codeAny_compLoop_tests
    (fun k s' => ∃ m ys i, Same s s' ∧ St i s'.heap ∧ s'.heap.PlainList D ys.toArray ∧ s'.heap.Ns cenv.locals m ∧ V i ys (hideAll s'.heap (cenv.locals :: D :: I :: ws)) ∧ Mt i ys s'.heap ∧ ys.length ≤ i ∧ i ≤ n ∧ k = n + 1 - i ∧
      ∀ b o, b ≠ cenv.locals → b ≠ D → b ≠ I → b ∉ ws → s.heap.get? b = some o → s'.heap.get? b = some o) ?_ (n + 1)
    ⟨m0, [], 0, Same.refl s, st0, hD, hn, v0, m0', Nat.le_refl _, Nat.zero_le _, rfl, fun _ _ _ _ _ _ e => e⟩
  intro k s' gR7; refine ex3_10 gR7 ?_; clear gR7; intro m' ys i hS hst hL hns hv hm hlen hi eK; subst eK; intro hk
  by_cases hlt : i < n
  · refine W.item i _ _ _ hlt hst fun v h₁ tk₁ hP hst₁ hk₁ => ?_
    have hk₁' : ∀ b o, b ≠ I → s'.heap.get? b = some o → h₁.get? b = some o := fun b o hb e => hk₁ b o (by simpa using hb) e
    refine wpAny_assign_Name (wpAny_storeName_local hx (hns.at' fun o e => hk₁' _ o (Ne.symm hIC) e) (fun h₂ hn₂ hs₂ => ?_) hp)
    have up₂ : ∀ b o, b ≠ cenv.locals → b ≠ I → s'.heap.get? b = some o → h₂.get? b = some o := fun b o hbC hbI e => hs₂.extBut b o hbC (hk₁' b o hbI e)
    have hst₂ : St (i + 1) h₂ := W.frame _ _ _ hst₁ fun b hb o e => hs₂.extBut b o (hfp b hb).1 e
    have hv₂ := hV _ _ _ _ hv (le_hideAll (h' := h₂) (l := cenv.locals :: D :: I :: ws) fun b o hb e => up₂ b o (fun q => hb (q ▸ .head _)) (fun q => hb (q ▸ .tail _ (.tail _ (.head _)))) e)
    have hm₂ := hM _ _ _ h₂ hm fun b hb o e => up₂ b o (fun q => hCw (q ▸ hb)) (fun q => hIw (q ▸ hb)) e
    have hL₂ : h₂.PlainList D ys.toArray := hL.at fun o e => up₂ D o hDC (Ne.symm hID) e
    have hfr : ∀ b, h₂.get? b = none → b ∉ cenv.locals :: D :: I :: ws := fun b hb hm' => by
      rcases List.mem_cons.mp hm' with q | hm'
      · refine ex3_2 hn₂ ?_; clear hn₂; intro _ _ _ e _; rw [q, e] at hb; cases hb
      · rcases List.mem_cons.mp hm' with q | hm'
        · refine ex1_1 hL₂ ?_; clear hL₂; intro _ e; rw [q, e] at hb; cases hb
        · rcases List.mem_cons.mp hm' with q | hm'
          · refine ex1_1 (hSt _ _ hst₂) ?_; intro _ e; rw [q, e] at hb; cases hb
          · refine ex1_1 (hMw _ _ _ hm₂ b hm') ?_; intro _ e; rw [e] at hb; cases hb
    refine wpAny_mono (turn i v { s' with heap := h₂, toks := tk₁ + 1 } _ ys hlt hP hlen hS (fun b o h1 h2 h3 h4 e => up₂ b o h1 h3 (hk b o h1 h2 h3 h4 e)) hn₂ (by simp) hfr hv₂ hm₂) (fun ok s₄ h₄ => ?_) fun _ _ x => x.elim
    have fin : ∀ (s₅ : Shared) (zs : List Value), Step ws { s' with heap := h₂, toks := tk₁ + 1 } s₅ → V (i + 1) zs (hideAll s₅.heap (cenv.locals :: D :: I :: ws)) → Mt (i + 1) zs s₅.heap →
        Same s s₅ ∧ St (i + 1) s₅.heap ∧ s₅.heap.Ns cenv.locals (fun y => if y = x then some v else m' y) ∧ ∀ b o, b ≠ cenv.locals → b ≠ D → b ≠ I → b ∉ ws → s.heap.get? b = some o → s₅.heap.get? b = some o := fun s₅ zs hst₅ _ _ =>
      ⟨Same.trans hS hst₅.1, W.frame _ _ _ hst₂ fun b hb o e => hst₅.2 b o (hfp b hb).2.2 e, hn₂.at' fun o e => hst₅.2 _ o hCw e,
        fun b o h1 h2 h3 h4 e => hst₅.2 b o h4 (up₂ b o h1 h3 (hk b o h1 h2 h3 h4 e))⟩
    cases ok with
    | false =>
      simp only [Bool.false_eq_true, if_false] at h₄ ⊢
      refine ex0_3 h₄ ?_; clear h₄; intro hst₄ hv₄ hm₄
      refine ex0_4 (fin _ _ hst₄ hv₄ hm₄) ?_; intro a1 a2 a3 a4
      exact ⟨n + 1 - (i + 1), Nat.sub_lt_sub_left (Nat.lt_succ_of_lt hlt) (Nat.lt_succ_self i), _, ys, i + 1, a1, a2, hL₂.at fun o e => hst₄.2 D o hDw e, a3, hv₄, hm₄, by k_extra "mE lia", hlt, rfl, a4⟩
    | true =>
      simp only [if_true] at h₄ ⊢
      refine wpAny_mono h₄ (fun y s₅ h₅ => ?_) fun _ _ x => x.elim
      refine ex0_3 h₅ ?_; clear h₅; intro hst₅ hv₅ hm₅
      refine ex0_4 (fin _ _ hst₅ hv₅ hm₅) ?_; intro a1 a2 a3 a4
      have hL₅ : s₅.heap.PlainList D ys.toArray := hL₂.at fun o e => hst₅.2 D o hDw e
      refine wpAny_list_append_plain (hsz := by rw [sizeLine_eq, List.size_toArray]; k_extra "mE lia") hL₅ fun h₆ hl₆ hs₆ => ?_
      refine ⟨n + 1 - (i + 1), Nat.sub_lt_sub_left (Nat.lt_succ_of_lt hlt) (Nat.lt_succ_self i), _, ys ++ [y], i + 1, a1, W.frame _ _ _ a2 fun b hb o e => hs₆.extBut b o (hfp b hb).2.1 e, by simpa using hl₆, a3.sameBut hs₆ (Ne.symm hDC),
        hV _ _ _ _ hv₅ (le_hideAll fun b o hb e => hs₆.extBut b o (fun q => hb (q ▸ .tail _ (.head _))) e), hM _ _ _ _ hm₅ fun b hb o e => hs₆.extBut b o (fun q => hDw (q ▸ hb)) e, by rw [List.length_append]; simp; k_extra "mE lia", hlt, rfl,
        fun b o h1 h2 h3 h4 e => hs₆.extBut b o h2 (a4 b o h1 h2 h3 h4 e)⟩
  · have hin : i = n := by k_extra "mE lia"
    subst hin
    refine W.done _ _ _ hst fun h₁ tk₁ hk₁ => ?_
    have hk₁' : ∀ b o, b ≠ I → s'.heap.get? b = some o → h₁.get? b = some o := fun b o hb e => hk₁ b o (by simpa using hb) e
    exact hR { s' with heap := h₁, toks := tk₁ } m' ys hS (hns.at' fun o e => hk₁' _ o (Ne.symm hIC) e) (hL.at fun o e => hk₁' _ o (Ne.symm hID) e)
      (hV _ _ _ _ hv (le_hideAll fun b o hb e => hk₁' b o (fun q => hb (q ▸ .tail _ (.tail _ (.head _)))) e)) (hM _ _ _ _ hm fun b hb o e => hk₁' b o (fun q => hIw (q ▸ hb)) e) hlen
      fun b o h1 h2 h3 h4 e => hk₁' b o h3 (hk b o h1 h2 h3 h4 e)
end
theorem enterC {params : Arguments} {body : List Stmt} {scope : Scope} {name qual : Str} {A : Around} {s : Shared} {dV kV doc pm cdv ct oc : Value} {an od : Option Addr} {osl : Array (Option Value)} {f : Addr} {pos : List Value} (binds : List (Str × Value))
    {W : Addr → Prop} {R : Value → Heap → Prop}
    (O : OkH w s.heap) {k : Nat} (r : Rm A (k + 1))
    (ho : (hd.heap_39 w.params).lookup f = some ⟨oc, od, .func (fnOf name qual params body scope dV kV doc pm an cdv ct), osl⟩) (hcd : codeIn (hd.heap_39 w.params) cdv qual = true)
    (hbind : BindsTo s (fnOf name qual params body scope dV kV doc pm an cdv ct) ⟨pos, []⟩ binds)
    (hkind : (binds.all fun y => scope.names.lookup y.1 == some .local || scope.names.lookup y.1 == some .cell) = true)
    (hnd : ((cellsFrom 0 scope.names []).map (·.1)).Nodup)
    (h : ∀ L' s₁ cells, L' = s.heap.objs.size → Fr s.heap L' s₁.heap (bindL (envOfC qual scope L' f cdv).kindOf binds fun _ => none) → News s.heap L' s₁.heap cells →
      CellsAre (bindC (envOfC qual scope L' f cdv).kindOf binds fun _ => none) (cellsFrom (L' + 1) scope.names []) cells → Same s s₁ → Rm (A.deeper (envOfC qual scope L' f cdv)) k →
      (envOfC qual scope L' f cdv).kindOf (Str.ofString "__debug__") = none → wpAny (model PR w) (A.deeper (envOfC qual scope L' f cdv)) (execs body (envOfC qual scope L' f cdv)) (Fin (Post s W R)) (fun _ _ => False) s₁)
    (hco : scope.isCoroutine = false) (hgen : scope.isGenerator = false) (hk : scope.kind = .function) (hdb : scope.names.lookup (Str.ofString "__debug__") = none) : Calls w A s f pos W R := by
  obtain ⟨X, p, l, me, mg, mb, T⟩ := O
  refine wpAny_call (codeAny_call_function r.room (X _ _ ho) rfl hco hgen rfl (codeRec_of X hcd) (hbind _ _ _ _ ?_))
  refine wpAny_newFunctionEnv_cells hk (kindsX hkind _) fun env' he s' x => ?_
  subst he
  refine ⟨T.nolimit.keeps x.toInCall.keep, codeAny_func ?_⟩
  refine ex2_2 (x.done) ?_; intro h₁ tk eK; subst eK; intro _
  have hk₁ := x.toInCall.keep
  refine ex1_2 (Cl.news (h₀ := s.heap) (Nat.le_refl _) fun n c hm => ⟨x.cell n c (lookup_of_mem_nodup (cellsFrom_names scope.names 0 (s.heap.objs.size + 1) [] [] rfl ▸ hnd) hm), x.above n c hm⟩) ?_; intro cells NC Y
  exact wpAny_mono (h s.heap.objs.size { s with heap := h₁, toks := tk } cells rfl ⟨x.toInCall.ns, hk₁, Nat.le_refl _⟩ NC Y ⟨rfl, rfl, rfl⟩ (r.deeper _) hdb) (fun _ _ x => x) (fun _ _ x => x.elim)
section
variable {M : Model} {A : Around} {E : Value → Shared → Prop} {s : Shared} {K : Frag} {h₀ : Heap} {C c : Addr} {o : Obj} {m mg mb : Str → Option Value} {sc : Scope} {env : Env} {cl : List (Str × Addr)} {p : Program} {loose : List Str} {x : Str} {pos : Pos} {v : Value} {Q : Value → Shared → Prop}
theorem nameC_L (F : Fr h₀ C s.heap m) (hv : m x = some v) (h : Q v s) (hk : (compEnvC sc cl C env).scope.kind = .function) (hx : (compEnvC sc cl C env).kindOf x = some .local) (hd : (x == ("__debug__" : Str)) = false) :
    wpAny M A (eval (.Name x pos) (compEnvC sc cl C env)) Q E s := wpAny_Name (wpAny_loadName_local hk hx F.ns hv h) hd
theorem nameC_C (F : Fr h₀ C s.heap m) (hc : cl.lookup x = some c) (ho : h₀.get? c = some o) (hd : o.data = .cell (some v)) (h : Q v s) (hk : (compEnvC sc cl C env).scope.kind = .function) (hx : (compEnvC sc cl C env).kindOf x = some .cell) (hb : (x == ("__debug__" : Str)) = false) :
    wpAny M A (eval (.Name x pos) (compEnvC sc cl C env)) Q E s := wpAny_Name (wpAny_loadName_cell hk hx hc ⟨o, F.keep _ _ ho, hd⟩ h) hb
theorem nameC_K (F : Fr h₀ C s.heap m) (X : K.In h₀) (T : TopRead p loose mg mb h₀) (e : nsIn K mainGlobals x = some (some v)) (h : Q v s) (hg : env.globals = mainGlobals)
    (hk : (compEnvC sc cl C env).scope.kind = .function) (hx : (compEnvC sc cl C env).kindOf x = some .globalImplicit) (hd : (x == ("__debug__" : Str)) = false) :
    wpAny M A (eval (.Name x pos) (compEnvC sc cl C env)) Q E s :=
  Name_function_global hk hx (loadGlobal_global (env := compEnvC sc cl C env) (show s.heap.Ns env.globals mg from hg ▸ T.g.keeps F.keep) (mg_of X T.g e) h) hd
end
theorem commute_but {h h₂ h₃ : Heap} {L C : Addr} {o : Obj} (hC : h.get? C = some o) (s₂ : Heap.SameBut L h h₂) (s₃ : Heap.SameBut C h₂ h₃) : ∃ h', Heap.SameBut C h h' ∧ Heap.SameBut L h' h₃ := by
  cases q : h₃.get? C with
  | some o₃ =>
    have hf : o₃.isFreed = false := (Heap.get?_some_iff.mp q).2
    refine ⟨h.update C (fun _ => o₃), Heap.SameBut.update _ _ _, ?_, fun b hb => ?_⟩
    · rw [s₃.1, s₂.1]; exact ((Heap.SameBut.update h C fun _ => o₃).1).symm
    · by_cases hbC : b = C
      · rw [hbC, q]; exact (Heap.get?_update_self (fun _ => o₃) hC hf).symm
      · rw [s₃.2 b hbC, s₂.2 b hb]; exact ((Heap.SameBut.update h C fun _ => o₃).2 b hbC).symm
  | none =>
    refine ⟨h.hide C, ⟨Heap.hide_size _ _, fun b hb => Heap.hide_ne _ hb⟩, ?_, fun b hb => ?_⟩
    · rw [s₃.1, s₂.1, Heap.hide_size]
    · by_cases hbC : b = C
      · rw [hbC, q, Heap.hide_self]
      · rw [s₃.2 b hbC, s₂.2 b hb, Heap.hide_ne _ hbC]
section
variable {prog : Program} {A : Around} {env : Env} {elt iter : Expr} {x y : Str} {px py : Pos} {ifs : List Expr} {scope : Scope} {pos spos : Pos} {cl : List (Str × Addr)}
noncomputable def CompAt (prog : Program) (w : World) (A : Around) (env : Env) (elt iter : Expr) (x : Str) (px : Pos) (ifs : List Expr) (scope : Scope) (pos : Pos) (cl : List (Str × Addr)) (Q : Addr → Shared → Prop) (xv : Value) (s : Shared) : Prop :=
  ∀ RR : Value → Addr → Result → Shared → Prop, (∀ D C s' m, D ≠ C → s.heap.get? C = none → s'.heap.Ns C m → (∀ h', Heap.SameBut C s'.heap h' → Q D { s' with heap := h' }) → RR (.ref D) C (.ok .next) s') →
    wpAny (model prog w) A (pyIter xv) (fun it s₂ => wpAny (model prog w) A (newList []) (fun acc s₃ => wpAny (model prog w) A (newFunctionEnv scope env.globals cl [] env.qual none .none (some env)) (fun cenv s₄ =>
      codeAny (model prog w) A (.compStart (.ListComp elt [⟨.Name x px, iter, ifs, 0⟩] scope pos) 0 it acc { cenv with scope := relabel scope env }) (RR acc cenv.locals) s₄) (fun _ _ => False) s₃) (fun _ _ => False) s₂) (fun _ _ => False) s
theorem ListComp_stop {E : Value → Shared → Prop} {s : Shared} {Q : Value → Shared → Prop} (hs : ∀ x, foldedSetIterable iter env x = pure x) (hclos : closureFor scope env = pure cl)
    (hkind : scope.kind = .function) (hnames : ∀ x ∈ scope.names, x.2 = .local → scope.names.lookup x.1 = some .local)
    (h : wpAny (model prog w) A (eval iter env) (fun xv s₁ => CompAt prog w A env elt iter x px ifs scope pos cl (fun D s' => Q (.ref D) s') xv s₁) (fun _ _ => False) s) :
    wpAny (model prog w) A (eval (.ListComp elt [⟨.Name x px, iter, ifs, 0⟩] scope pos) env) Q E s := by
  rw [eval_ListComp]
  refine wpAny_mono (Q := Q) (wpAny_comprehension_free (E := fun _ _ => False) (use := none) rfl hs hclos hkind hnames (wpAny_mono h (fun xv s₁ h₁ => ?_) fun _ _ x => x)) (fun _ _ x => x) fun _ _ x => x.elim
  exact h₁ (compPost (model prog w) A (fun _ _ => False) none Q) fun D C s' m _ _ hn hq => ⟨m, hn, hq⟩
theorem AssignComp_stop {E : Value → Shared → Prop} {s : Shared} {Q : Flow → Shared → Prop} (hs : ∀ x, foldedSetIterable iter env x = pure x) (hclos : closureFor scope env = pure cl)
    (hkind : scope.kind = .function) (hnames : ∀ x ∈ scope.names, x.2 = .local → scope.names.lookup x.1 = some .local)
    (hsw : swapsWith (.ListComp elt [⟨.Name x px, iter, ifs, 0⟩] scope pos) (some (.Name y py)) spos.line env = pure true)
    (hy : env.kindOf y = some .local) (hp : (env.scope.kind == .class || (env.scope.kind == .module && env.locals != env.globals)) = false)
    (h : wpAny (model prog w) A (eval iter env) (fun xv s₁ => CompAt prog w A env elt iter x px ifs scope pos cl (fun D s' => ∃ m₁, s'.heap.Ns env.locals m₁ ∧ s₁.heap.get? env.locals ≠ none ∧
      ∀ h₂, h₂.Ns env.locals (fun z => if z = y then some (.ref D) else m₁ z) → Heap.SameBut env.locals s'.heap h₂ → ∀ tk, Q .next { s' with heap := h₂, toks := tk }) xv s₁) (fun _ _ => False) s) :
    wpAny (model prog w) A (exec (.Assign [.Name y py] (.ListComp elt [⟨.Name x px, iter, ifs, 0⟩] scope pos) spos) env) Q E s := by
  rw [exec_Assign_Name_used _ _ _ _ hsw]
  refine wpAny_bind (wpAny_standAt (wpAny_bind ?_))
  show wpAny _ A (do let _ ← comprehension (.ListComp elt [⟨.Name x px, iter, ifs, 0⟩] scope pos) scope env _ (newList []) false (eval iter env) (some (assign (.Name y py) env))) _ _ s
  refine wpAny_bind (wpAny_mono (wpAny_comprehension_free (E := fun _ _ => False) (use := some (assign (.Name y py) env)) (Q := fun _ s' => Q .next s') rfl hs hclos hkind hnames
    (wpAny_mono h (fun xv s₁ h₁ => ?_) fun _ _ x => x)) (fun _ s' hq => wpAny_pure (wpAny_pure hq)) fun _ _ e => e.elim)
  refine h₁ (compPost (model prog w) A (fun _ _ => False) (some (assign (.Name y py) env)) (fun _ s' => Q .next s')) fun D C s' m hDC hC hn hq => ?_
  obtain ⟨m₁, hL, hold, -⟩ := hq s'.heap (Heap.SameBut.refl _ _)
  have hLC : env.locals ≠ C := fun e => hold (e ▸ hC)
  show wpAny _ A (assign (.Name y py) env (.ref D)) _ _ _
  refine wpAny_assign_Name (wpAny_storeName_local hy hL (fun h₂ hn₂ hs₂ => ?_) hp)
  refine ⟨m, hn.sameBut hs₂ (Ne.symm hLC), fun h₃ hs₃ => ?_⟩
  refine ex3_2 hn ?_; clear hn; intro oC _ _ hoC _
  refine ex1_2 (commute_but hoC hs₂ hs₃) ?_; intro h' a b
  refine ex1_3 (hq h' a) ?_; intro m₂ hL₂ _ hQ
  have e : m₂ = m₁ := by
    refine ex3_4 hL₂ ?_; clear hL₂; intro o1 es1 _ g1 d1 _ f1
    refine ex3_4 hL ?_; clear hL; intro o2 es2 _ g2 d2 _ f2
    rw [show h'.get? env.locals = s'.heap.get? env.locals from a.2 _ hLC, g2] at g1
    cases g1; rw [d2] at d1; cases d1
    exact funext fun z => (f1 z).symm.trans (f2 z)
  exact hQ h₃ (e ▸ hn₂.sameBut hs₃ hLC) b _
theorem comp_block {s s₂ : Shared} {I : Addr} {fp : List Addr} {n : Nat} {P : Nat → Value → Prop} {St : Nat → Heap → Prop} (ws : List Addr) (V : Nat → List Value → Heap → Prop) (Mt : Nat → List Value → Heap → Prop)
    (hV : ∀ i ys g g', V i ys g → Le g g' → V i ys g')
    (hM : ∀ i ys h h', Mt i ys h → (∀ b ∈ ws, ∀ o, h.get? b = some o → h'.get? b = some o) → Mt i ys h')
    (hMw : ∀ i ys h, Mt i ys h → ∀ b ∈ ws, ∃ o, h.get? b = some o) (hSt : ∀ i h, St i h → ∃ o, h.get? I = some o)
    (W : Walks prog w A I fp [I] n P St) (hS2 : ∃ h₂, s₂ = { s with heap := h₂ } ∧ Le s.heap h₂ ∧ s.heap.objs.size ≤ h₂.objs.size) (hI : s.heap.get? I = none) (hfp : ∀ b ∈ fp, (∃ o, s₂.heap.get? b = some o) ∧ b ∉ ws) (hws : ∀ b ∈ ws, ∃ o, s.heap.get? b = some o)
    (hcell : ∀ y ∈ scope.names, y.2 ≠ .cell) (hkind : scope.kind = .function) (hx : scope.names.lookup x = some .local) (st0 : St 0 s₂.heap) (hsz : n ≤ 2 ^ 20)
    (v0 : V 0 [] (hideAll s.heap ws)) (m0 : Mt 0 [] s.heap) {Q : Addr → Shared → Prop}
    (turn : ∀ i v s₃ C (m : Str → Option Value) ys hid, i < n → P i v → ys.length ≤ i → Same s s₃ → Fr (hideAll s.heap ws) C s₃.heap (fun y => if y = x then some v else m y) → (∀ b, s₃.heap.get? b = none → b ∉ hid) → (∀ b ∈ ws, b ∈ hid) →
      V i ys (hideAll s₃.heap hid) → Mt i ys s₃.heap →
      Tests prog w A (compEnvC scope cl C env) ifs (fun ok s₄ => if ok = true then wpAny (model prog w) A (eval elt (compEnvC scope cl C env)) (fun y s₅ => Step ws s₃ s₅ ∧ V (i + 1) (ys ++ [y]) (hideAll s₅.heap hid) ∧ Mt (i + 1) (ys ++ [y]) s₅.heap) (fun _ _ => False) s₄
        else Step ws s₃ s₄ ∧ V (i + 1) ys (hideAll s₄.heap hid) ∧ Mt (i + 1) ys s₄.heap) s₃)
    (hQ : ∀ D s' ys, Same s s' → s.heap.get? D = none → s'.heap.PlainList D ys.toArray → V n ys (hideAll s'.heap (D :: ws)) → Mt n ys s'.heap → ys.length ≤ n →
      (∀ b o, b ∉ ws → s.heap.get? b = some o → s'.heap.get? b = some o) → Q D s')
    (RR : Value → Addr → Result → Shared → Prop) (hRR : ∀ D C s' m, D ≠ C → s.heap.get? C = none → s'.heap.Ns C m → (∀ h', Heap.SameBut C s'.heap h' → Q D { s' with heap := h' }) → RR (.ref D) C (.ok .next) s') :
    wpAny (model prog w) A (newList []) (fun acc s₃ => wpAny (model prog w) A (newFunctionEnv scope env.globals cl [] env.qual none .none (some env)) (fun cenv s₄ =>
      codeAny (model prog w) A (.compStart (.ListComp elt [⟨.Name x px, iter, ifs, 0⟩] scope pos) 0 (.ref I) acc { cenv with scope := relabel scope env }) (RR acc cenv.locals) s₄) (fun _ _ => False) s₃) (fun _ _ => False) s₂ := by
  refine ex1_3 hS2 ?_; clear hS2; intro h2 eK; subst eK; intro hpush hsize
  refine wpAny_newObj_type (wpAny_newFunctionEnv hcell (by intro y hy; simp at hy) (fun h₁ hns₁ hsb₁ => ?_) hkind)
  dsimp only at hns₁ hsb₁ ⊢
  generalize hH2 : h2.push { cls := .type "list", dict := none, data := .seq ([] : List Value).toArray } = H2 at hns₁ hsb₁ ⊢
  have hC : H2.objs.size = h2.objs.size + 1 := by rw [← hH2, Heap.size_push]
  have old2 : ∀ b o, h2.get? b = some o → h₁.get? b = some o ∧ b ≠ H2.objs.size ∧ b ≠ h2.objs.size := fun b o e => by
    have := Heap.lt_size e
    have h1 : b ≠ H2.objs.size := by rw [hC]; exact Nat.ne_of_lt (Nat.lt_succ_of_lt this)
    exact ⟨hsb₁.extBut b o h1 (Heap.get?_push_of_some _ (hH2 ▸ Heap.get?_push_of_some _ e)), h1, Nat.ne_of_lt this⟩
  have old : ∀ b o, s.heap.get? b = some o → h₁.get? b = some o ∧ b ≠ H2.objs.size ∧ b ≠ h2.objs.size ∧ b ≠ I := fun b o e => by
    refine ex0_3 (old2 b o (hpush b o e)) ?_; intro a1 a2 a3
    exact ⟨a1, a2, a3, fun q => by rw [q, hI] at e; cases e⟩
  have hDC : h2.objs.size ≠ H2.objs.size := by rw [hC]; exact Nat.ne_of_lt (Nat.lt_succ_self _)
  have hacc : h₁.PlainList h2.objs.size #[] := ⟨_, hsb₁.extBut _ _ hDC (Heap.get?_push_of_some _ (hH2 ▸ Heap.get?_push_size _ rfl))⟩
  have hCn : s.heap.get? H2.objs.size = none := by
    cases q : s.heap.get? H2.objs.size with
    | none => rfl
    | some o => exact absurd rfl (old _ _ q).2.1
  have hDn : s.heap.get? h2.objs.size = none := by
    cases q : s.heap.get? h2.objs.size with
    | none => rfl
    | some o => exact absurd rfl (old _ _ q).2.2.1
  have wsOff : ∀ b ∈ ws, b ≠ H2.objs.size ∧ b ≠ h2.objs.size ∧ b ≠ I := fun b hb => let ⟨o, e⟩ := hws b hb; (old b o e).2
  have hsub : ∀ b o, (hideAll s.heap ws).get? b = some o → s.heap.get? b = some o ∧ b ∉ ws := fun b o e => ⟨of_hideAll ws e, fun hm => by rw [hideAll_none ws hm] at e; cases e⟩
  have loop : ∀ s₃ : Shared, s₃ = { s with heap := h₁, toks := s.toks + ([] : List (Str × Value)).length } →
      codeAny (model prog w) A (.compLoop (.ListComp elt [⟨.Name x px, iter, ifs, 0⟩] scope pos) 0 (.ref I) (.ref h2.objs.size) (compEnvC scope cl H2.objs.size env)) (RR (.ref h2.objs.size) H2.objs.size) s₃ := by
    rintro s₃ rfl
    refine comp_loop (C := H2.objs.size) (D := h2.objs.size) (ws := ws) V Mt hV hM hMw hSt W rfl (fun b hb => ?_) hDC (fun hm => (wsOff _ hm).1 rfl) (fun hm => (wsOff _ hm).2.1 rfl) (lookup_relabel_local hx) (by simp [compEnvC, relabel, hkind])
      (W.frame _ _ _ st0 fun b hb o e => (old2 b o e).1) hacc hns₁ (hV _ _ _ _ v0 fun b o e => ?_) (hM _ _ _ _ m0 fun b hb o e => (old b o e).1) hsz ?_ ?_
    · refine ex0_2 (hfp b hb) ?_; intro gN8 hw; refine ex1_1 gN8 ?_; clear gN8; intro o e
      exact ⟨(old2 b o e).2.1, (old2 b o e).2.2, hw⟩
    · refine ex0_2 (hsub b o e) ?_; intro e' hbw
      refine ex0_4 (old b o e') ?_; intro a1 a2 a3 a4
      exact hideAll_get _ a1 fun hm => by
        rcases List.mem_cons.mp hm with q | hm
        · exact a2 q
        · rcases List.mem_cons.mp hm with q | hm
          · exact a3 q
          · rcases List.mem_cons.mp hm with q | hm
            · exact a4 q
            · exact hbw hm
    · intro i v s₃ m ys hi hP hlen hS hk hn hmx hfr hv hm
      have e : m = fun y => if y = x then some v else m y := funext fun z => by by_cases q : z = x <;> simp [q, hmx]
      refine turn i v s₃ H2.objs.size m ys (H2.objs.size :: h2.objs.size :: I :: ws) hi hP hlen (Same.trans ⟨rfl, rfl, rfl⟩ hS) ⟨e ▸ hn, fun b o e => ?_, ?_⟩ hfr (fun b hb => .tail _ (.tail _ (.tail _ hb))) hv hm
      · refine ex0_2 (hsub b o e) ?_; intro e' hbw
        refine ex0_4 (old b o e') ?_; intro a1 a2 a3 a4
        exact hk b o a2 a3 a4 hbw a1
      · rw [hideAll_size, hC]; exact Nat.le_succ_of_le hsize
    · intro s' m ys hS hn hL hv hm hlen hk
      refine hRR _ _ s' m hDC hCn hn fun h' hs' => ?_
      have up : ∀ b o, b ≠ H2.objs.size → s'.heap.get? b = some o → h'.get? b = some o := fun b o hb e => hs'.extBut b o hb e
      refine hQ _ { s' with heap := h' } ys (Same.trans ⟨rfl, rfl, rfl⟩ hS) hDn (hL.at fun o e => up _ o hDC e) (hV _ _ _ _ hv fun b o e => ?_) (hM _ _ _ _ hm fun b hb o e => up b o (wsOff b hb).1 e) hlen fun b o hb e => ?_
      · have hb : b ∉ H2.objs.size :: h2.objs.size :: I :: ws := fun hm => by rw [hideAll_none _ hm] at e; cases e
        refine hideAll_get _ (up b o (fun q => hb (q ▸ .head _)) (of_hideAll _ e)) fun hm' => hb ?_
        rcases List.mem_cons.mp hm' with q | hm'
        · exact q ▸ .tail _ (.head _)
        · exact .tail _ (.tail _ (.tail _ hm'))
      · refine ex0_4 (old b o e) ?_; intro a1 a2 a3 a4
        exact up b o a2 (hk b o a2 a3 a4 hb a1)
  exact codeAny_compStart_list (loop _ rfl) (W.self 0 _ _ _ (W.frame _ _ _ st0 fun b hb o e => (old2 b o e).1) (loop _ rfl))
end
example : Sep := by w_top off; first | walk1 | trivial
section
variable {prog : Program} {A : Around} {env : Env} {elt iter : Expr} {x : Str} {px : Pos} {ifs : List Expr} {scope : Scope} {pos : Pos} {cl : List (Str × Addr)} {s : Shared} {l : Addr} {vs : Array Value} {Q : Addr → Shared → Prop}
noncomputable def CKeep (ws : List Addr) (s₃ s₅ : Shared) (V : Prop) : Prop := Step ws s₃ s₅ ∧ V
theorem comp_src0 {I : Addr} {fp : List Addr} {n : Nat} {P : Nat → Value → Prop} {St : Nat → Heap → Prop} {s₂ : Shared} (V : Nat → List Value → Heap → Prop)
    (hV : ∀ i ys g g', V i ys g → Le g g' → V i ys g') (hSt : ∀ i h, St i h → ∃ o, h.get? I = some o)
    (W : Walks prog w A I fp [I] n P St) (hS2 : ∃ h₂, s₂ = { s with heap := h₂ } ∧ Le s.heap h₂ ∧ s.heap.objs.size ≤ h₂.objs.size) (hI : s.heap.get? I = none) (hfp : ∀ b ∈ fp, ∃ o, s₂.heap.get? b = some o)
    (hcell : ∀ y ∈ scope.names, y.2 ≠ .cell) (hkind : scope.kind = .function) (hx : scope.names.lookup x = some .local) (st0 : St 0 s₂.heap) (hsz : n ≤ 2 ^ 20) (v0 : V 0 [] s.heap)
    (turn : ∀ i v s₃ C (m : Str → Option Value) ys hid, i < n → P i v → ys.length ≤ i → Same s s₃ → Fr s.heap C s₃.heap (fun y => if y = x then some v else m y) → (∀ b, s₃.heap.get? b = none → b ∉ hid) → V i ys (hideAll s₃.heap hid) →
      Tests prog w A (compEnvC scope cl C env) ifs (fun ok s₄ => if ok = true then wpAny (model prog w) A (eval elt (compEnvC scope cl C env)) (fun y s₅ => CKeep [] s₃ s₅ (V (i + 1) (ys ++ [y]) (hideAll s₅.heap hid))) (fun _ _ => False) s₄
        else CKeep [] s₃ s₄ (V (i + 1) ys (hideAll s₄.heap hid))) s₃)
    (hQ : ∀ D s' ys, Same s s' → s.heap.get? D = none → s'.heap.PlainList D ys.toArray → V n ys (hideAll s'.heap [D]) → ys.length ≤ n → Le s.heap s'.heap → Q D s')
    (RR : Value → Addr → Result → Shared → Prop) (hRR : ∀ D C s' m, D ≠ C → s.heap.get? C = none → s'.heap.Ns C m → (∀ h', Heap.SameBut C s'.heap h' → Q D { s' with heap := h' }) → RR (.ref D) C (.ok .next) s') :
    wpAny (model prog w) A (newList []) (fun acc s₃ => wpAny (model prog w) A (newFunctionEnv scope env.globals cl [] env.qual none .none (some env)) (fun cenv s₄ =>
      codeAny (model prog w) A (.compStart (.ListComp elt [⟨.Name x px, iter, ifs, 0⟩] scope pos) 0 (.ref I) acc { cenv with scope := relabel scope env }) (RR acc cenv.locals) s₄) (fun _ _ => False) s₃) (fun _ _ => False) s₂ := by
  refine comp_block [] V (fun _ _ _ => True) hV (fun _ _ _ _ _ _ => trivial) (fun _ _ _ _ b hb => nomatch hb) hSt W hS2 hI (fun b hb => ⟨hfp b hb, fun h => nomatch h⟩) (fun b hb => nomatch hb) hcell hkind hx st0 hsz v0 trivial ?_
    (fun D s' ys a b c d _ f g => hQ D s' ys a b c d f fun q o e => g q o (fun h => nomatch h) e) RR hRR
  intro i v s₃ C m ys hid hi hP hlen hS F hfr _ hv _
  refine wpAny_mono (turn i v s₃ C m ys hid hi hP hlen hS F hfr hv) (fun ok s₄ h => ?_) fun _ _ x => x
  cases ok with
  | false => simp only [Bool.false_eq_true, if_false] at h ⊢; exact ⟨h.1, h.2, trivial⟩
  | true => simp only [if_true] at h ⊢; exact wpAny_mono h (fun y s₅ h => ⟨h.1, h.2, trivial⟩) fun _ _ x => x
theorem comp_list0 {n₀ : Nat} (V : Nat → List Value → Heap → Prop) (hV : ∀ i ys g g', V i ys g → Le g g' → V i ys g') (hh : A.handled = none) (hl : s.heap.get? l = some (listOf vs n₀))
    (hcell : ∀ y ∈ scope.names, y.2 ≠ .cell) (hkind : scope.kind = .function) (hx : scope.names.lookup x = some .local) (hsz : vs.size ≤ 2 ^ 20) (v0 : V 0 [] s.heap)
    (turn : ∀ i v s₃ C (m : Str → Option Value) ys hid, vs[i]? = some v → ys.length ≤ i → Same s s₃ → Fr s.heap C s₃.heap (fun y => if y = x then some v else m y) → (∀ b, s₃.heap.get? b = none → b ∉ hid) → V i ys (hideAll s₃.heap hid) →
      Tests prog w A (compEnvC scope cl C env) ifs (fun ok s₄ => if ok = true then wpAny (model prog w) A (eval elt (compEnvC scope cl C env)) (fun y s₅ => CKeep [] s₃ s₅ (V (i + 1) (ys ++ [y]) (hideAll s₅.heap hid))) (fun _ _ => False) s₄
        else CKeep [] s₃ s₄ (V (i + 1) ys (hideAll s₄.heap hid))) s₃)
    (hQ : ∀ D s' ys, Same s s' → s.heap.get? D = none → s'.heap.PlainList D ys.toArray → V vs.size ys (hideAll s'.heap [D]) → ys.length ≤ vs.size → Le s.heap s'.heap → Q D s') :
    CompAt prog w A env elt iter x px ifs scope pos cl Q (.ref l) s := by
  intro RR hRR
  have hls : s.heap.IsList l vs := ⟨_, hl, rfl, n₀, rfl⟩
  have hne : l ≠ s.heap.objs.size := Nat.ne_of_lt (Heap.lt_size hl)
  refine wpAny_pyIter_list hls ?_
  refine comp_src0 V hV (fun i h st => ?_) (Walks.list (prog := prog) hh s.heap.objs.size l hne vs) ⟨_, rfl, fun b o e => Heap.get?_push_of_some _ e, by rw [Heap.size_push]; exact Nat.le_succ _⟩ (Heap.get?_none_of_le (Nat.le_refl _)) (fun b hb => ?_)
    hcell hkind hx ⟨⟨_, Heap.get?_push_size _ rfl, rfl, rfl⟩, hls.at fun o e => Heap.get?_push_of_some _ e⟩ hsz v0 (fun i v s₃ C m ys hid _ hP => turn i v s₃ C m ys hid hP) hQ RR hRR
  · refine ex0_2 st ?_; clear st; intro gN9 _; refine ex1_2 gN9 ?_; clear gN9; intro o ho _; exact ⟨o, ho⟩
  · rcases List.mem_cons.mp hb with rfl | hb
    · exact ⟨_, Heap.get?_push_size _ rfl⟩
    · rw [List.mem_singleton.mp hb]; exact ⟨_, Heap.get?_push_of_some _ hl⟩
theorem comp_tup0 (V : Nat → List Value → Heap → Prop) (hV : ∀ i ys g g', V i ys g → Le g g' → V i ys g') (hh : A.handled = none) (hl : IsTup s.heap l vs)
    (hcell : ∀ y ∈ scope.names, y.2 ≠ .cell) (hkind : scope.kind = .function) (hx : scope.names.lookup x = some .local) (hsz : vs.size ≤ 2 ^ 20) (v0 : V 0 [] s.heap)
    (turn : ∀ i v s₃ C (m : Str → Option Value) ys hid, vs[i]? = some v → ys.length ≤ i → Same s s₃ → Fr s.heap C s₃.heap (fun y => if y = x then some v else m y) → (∀ b, s₃.heap.get? b = none → b ∉ hid) → V i ys (hideAll s₃.heap hid) →
      Tests prog w A (compEnvC scope cl C env) ifs (fun ok s₄ => if ok = true then wpAny (model prog w) A (eval elt (compEnvC scope cl C env)) (fun y s₅ => CKeep [] s₃ s₅ (V (i + 1) (ys ++ [y]) (hideAll s₅.heap hid))) (fun _ _ => False) s₄
        else CKeep [] s₃ s₄ (V (i + 1) ys (hideAll s₄.heap hid))) s₃)
    (hQ : ∀ D s' ys, Same s s' → s.heap.get? D = none → s'.heap.PlainList D ys.toArray → V vs.size ys (hideAll s'.heap [D]) → ys.length ≤ vs.size → Le s.heap s'.heap → Q D s') :
    CompAt prog w A env elt iter x px ifs scope pos cl Q (.ref l) s := by
  intro RR hRR
  have hne : l ≠ s.heap.objs.size := Nat.ne_of_lt hl.lt
  refine wpAny_pyIter_tuple hl ?_
  refine comp_src0 V hV (fun i h st => ?_) (Walks.tuple (prog := prog) hh s.heap.objs.size l hne vs) ⟨_, rfl, fun b o e => Heap.get?_push_of_some _ e, by rw [Heap.size_push]; exact Nat.le_succ _⟩ (Heap.get?_none_of_le (Nat.le_refl _)) (fun b hb => ?_)
    hcell hkind hx ⟨⟨_, Heap.get?_push_size _ rfl, rfl, rfl⟩, hl.push _⟩ hsz v0 (fun i v s₃ C m ys hid _ hP => turn i v s₃ C m ys hid hP) hQ RR hRR
  · refine ex0_2 st ?_; clear st; intro gN10 _; refine ex1_2 gN10 ?_; clear gN10; intro o ho _; exact ⟨o, ho⟩
  · rcases List.mem_cons.mp hb with rfl | hb
    · exact ⟨_, Heap.get?_push_size _ rfl⟩
    · obtain ⟨o, ho, _⟩ := hl; rw [List.mem_singleton.mp hb]; exact ⟨_, Heap.get?_push_of_some _ ho⟩
end
example : True := by
 k_with "meval ListComp" => k_dflt (refine' ListComp_stop ?ja ?jb ?jc ?jd ?_; (case ja => exact fun _ => rfl); (case jb => first | exact closureFor_none (by decide) | exact rfl); (case jc => exact rfl); (case jd => decide))
 k_with "mexec Assign cons ListComp" => k_dflt (refine' AssignComp_stop ?ja ?jb ?jc ?jd ?je ?jf ?jg ?_; (case ja => exact fun _ => rfl); (case jb => first | exact closureFor_none (by decide) | exact rfl); (case jc => exact rfl); (case jd => decide); (case je => exact rfl); (case jf => exact rfl); (case jg => exact rfl))
 k_with "mE nameC" => first | ((with_reducible refine' nameC_L ?jF ?jv ?_ ?ja ?jb ?jd); (case jF => k_extra "a"); (case jb => k_dflt exact rfl); (case jv => k_dflt exact rfl); (case ja => k_dflt eq_refl); (case jd => k_dflt decide)) | ((with_reducible refine' nameC_C ?jF ?jc ?jo ?jq ?_ ?ja ?jb ?jd); (case jF => k_extra "a"); (case jb => k_dflt exact rfl); (case jc => k_dflt exact rfl); (case jo => k_extra "a"); (case jq => k_extra "a"); (case ja => k_dflt eq_refl); (case jd => k_dflt decide)) | ((with_reducible refine' nameC_K ?jF ?jX ?jT ?je ?_ ?jg ?ja ?jb ?jd); (case jF => k_extra "a"); (case jb => k_dflt exact rfl); (case jX => k_extra "a"); (case jT => exact topRead_of (by assumption)); (case ja => k_dflt eq_refl); (case jd => k_dflt decide); (case je => k_is); (case jg => k_dflt exact rfl))
 exact trivial
theorem StrsAre.append {a b : List Value} {xs ys : List Str} (h : StrsAre a xs) (h' : StrsAre b ys) : StrsAre (a ++ b) (xs ++ ys) := by
  induction h with
  | nil => exact h'
  | cons z u _ ih => exact .cons z u ih
theorem wout_next {y : Str} {xs ys : List Str} {i : Nat} (h : xs[i]? = some y) : wout (xs.take (i + 1)) ys = wout (xs.take i) ys ++ (if ys.any (· == y) then [] else [y]) := by
  unfold wout
  rw [List.take_add_one, h, List.filter_append]
  congr 1
  cases q : ys.any (· == y) <;> simp [q]
theorem without_c {A : Around} {s : Shared} {a b : Addr} {va vb : List Value} {na nb : Nat} {xs ys : List Str} (O : OkH w s.heap) (r : Rm A 1)
    (ha : s.heap.get? a = some (listOf va.toArray na)) (hsa : StrsAre va xs) (hb : s.heap.get? b = some (listOf vb.toArray nb)) (hsb : StrsAre vb ys) (hz : xs.length ≤ 2 ^ 20) :
    Calls w A s 143 [.ref a, .ref b] nil (Fresh s (wout xs ys)) := by
  refine' enterC [((Str.ofString "names"), .ref a), ((Str.ofString "others"), .ref b)] O r ?k6 ?k7 ?k9 ?kB ?kD ?_ ?c1 ?c2 ?c3 ?c5; k_extra "eC"
  have X := OkH.X O; have T := OkH.top O
  refine ex1_2 (Y.one) ?_; intro oc eK; subst eK; intro hoc
  have hoc' : oc.data = .cell (some (.ref b)) := hoc
  k_steps
  refine comp_list0 (fun i ys' _ => StrsAre ys' (wout (xs.take i) ys)) (fun _ _ _ _ h _ => h) r.hd (F.keep _ _ ha) (by decide) rfl rfl (by rw [List.size_toArray, StrsAre.length hsa]; exact hz) .nil ?_ ?_
  · intro i v s₃ C m zs hid hv hlen hS F3 hfr hV
    refine ex2_2 (StrsAre.item hsa i v (by simpa using hv)) ?_; intro y t eK; subst eK; intro hy
    refine tests_one ?_
    have hc : s₁.heap.get? (L' + 1) = some oc := (N _ (.head _)).1
    have O3 := O.keeps F.keep
    k_extra "qB"; obtain ⟨X3, p3, lo3, me3, mg3, mb3, T3⟩ := O3; k_extra "qC"
    have hb3 : s₁.heap.IsList b vb.toArray := ⟨_, F.keep _ _ hb, rfl, nb, rfl⟩
    clear F N X T
    k_steps
    · rename_i e
      refine ⟨⟨⟨rfl, rfl, rfl⟩, fun _ _ _ e => e⟩, ?_⟩
      show StrsAre zs _
      rw [wout_next hy, if_pos (by first | exact e | simpa using e)]
      rw [List.append_nil]; exact hV
    · rename_i e
      refine ⟨⟨⟨rfl, rfl, rfl⟩, fun _ _ _ e => e⟩, ?_⟩
      rw [wout_next hy, if_neg (by rw [show ys.any (· == y) = false from (by first | exact e | simpa using e)]; exact Bool.false_ne_true)]
      exact StrsAre.append hV (.cons y t .nil)
  · intro D s' zs hS' hD hL hV hlen hle
    refine ex1_1 hL ?_; clear hL; intro n hL
    (first | refine hGk _ _ ?_ | refine seqK_r (hGk _ _ ?_) | refine seqK_r (seqK_r (hGk _ _ ?_)) | skip)
    refine post_end (Same.trans S hS') ⟨F.ns.keeps hle, fun b o e => hle _ _ (F.keep _ _ e), F.above⟩ ⟨D, zs, n, rfl, ?_, hL, ?_⟩
    · cases q : s.heap.get? D with
      | none => rfl
      | some o => rw [F.keep _ _ q] at hD; cases hD
    · have e : xs.take va.toArray.size = xs := by rw [List.size_toArray, StrsAre.length hsa, List.take_length]
      rwa [e] at hV
example : Sep := by w_top off; first | walk1 | trivial
section
variable {A : Around} {s : Shared} {u l : Addr} {vs vl : List Value} {n nl : Nat} {xs ys : List Str} {Q E : Value → Shared → Prop} {h₀ : Heap} {L : Addr} {m : Str → Option Value} {news : List (Addr × Obj)} {g : Obj → List (Addr × Obj)}
theorem ne_news {u l : Addr} {h₀ : Heap} {L : Addr} {news : List (Addr × Obj)} {h : Heap} {o o' : Obj} (N : News h₀ L h news) (hm : (u, o) ∈ news) (hl : h₀.get? l = some o') : l ≠ u := fun e => by
  have := (N _ hm).2.2; rw [← show l = u from e, hl] at this; cases this
theorem UpdF.mem {u : Addr} {news : List (Addr × Obj)} {g : Obj → List (Addr × Obj)} {o : Obj} (U : UpdF u o news g) : (u, o) ∈ news := by
  refine ex2_2 (U.split) ?_; intro pre post e _; rw [e]; exact List.mem_append_right _ (.head _)
theorem put_once_u {E : Value → Shared → Prop} {A : Around} {s : Shared} {u l : Addr} {vs vl : List Value} {n nl : Nat} {xs ys : List Str} {Q : Value → Shared → Prop} {h₀ : Heap} {L : Addr} {m : Str → Option Value} {news : List (Addr × Obj)} {g : Obj → List (Addr × Obj)} (F : Fr h₀ L s.heap m) (N : News h₀ L s.heap news) (O : OkH w h₀) (r : Rm A 1) (U : UpdF u (listOf vs.toArray n) news g) (hs : StrsAre vs xs)
    (hl : s.heap.get? l = some (listOf vl.toArray nl)) (hsl : StrsAre vl ys) (hul : l ≠ u) (hz : xs.length + ys.length ≤ 2 ^ 20)
    (k : ∀ vs' n' h' tk, StrsAre vs' (putAll xs ys) → Fr h₀ L h' m → News h₀ L h' (g (listOf vs'.toArray n')) → Q .none { s with heap := h', toks := tk }) : wpAny (model PR w) A (call (.ref 61) [.ref u, .ref l]) Q E s := by
  have hu := N _ (UpdF.mem U)
  refine use1 (put_once_c O F.keep hu.2.2 r hu.1 hs hl hsl hul hz) F N U fun v h' tk hQ9 F' N' => ?_
  refine ex0_2 hQ9 ?_; clear hQ9; intro e gN11; refine ex2_2 gN11 ?_; clear gN11; intro vs' n' ho hs'
  rw [e]; exact k vs' n' h' tk hs' F' (N' _ ho)
inductive ListsAt (h : Heap) : List Value → List (List Str) → Prop
  | nil : ListsAt h [] []
  | cons {b : Addr} {vb : List Value} {n : Nat} {xs : List Str} {r : List Value} {rs : List (List Str)} : h.get? b = some (listOf vb.toArray n) → StrsAre vb xs → ListsAt h r rs → ListsAt h (.ref b :: r) (xs :: rs)
theorem ListsAt.keeps {h h' : Heap} {vs : List Value} {xss : List (List Str)} (x : ListsAt h vs xss) (k : Le h h') : ListsAt h' vs xss := by
  induction x with
  | nil => exact .nil
  | cons e hs _ ih => exact .cons (k _ _ e) hs ih
theorem ListsAt.snoc {h : Heap} {vs : List Value} {xss : List (List Str)} {b : Addr} {vb : List Value} {n : Nat} {xs : List Str} (x : ListsAt h vs xss) (e : h.get? b = some (listOf vb.toArray n)) (hs : StrsAre vb xs) : ListsAt h (vs ++ [.ref b]) (xss ++ [xs]) := by
  induction x with
  | nil => exact .cons e hs .nil
  | cons e' hs' _ ih => exact .cons e' hs' ih
theorem ListsAt.length {h : Heap} {vs : List Value} {xss : List (List Str)} (x : ListsAt h vs xss) : vs.length = xss.length := by
  induction x with
  | nil => rfl
  | cons _ _ _ ih => simp [ih]
theorem ListsAt.get {h : Heap} {vs : List Value} {xss : List (List Str)} (x : ListsAt h vs xss) : ∀ (i : Nat) (v : Value), vs[i]? = some v → ∃ b vb n xs, v = .ref b ∧ h.get? b = some (listOf vb.toArray n) ∧ StrsAre vb xs ∧ xss[i]? = some xs := by
  induction x with
  | nil => intro i v hv; simp at hv
  | cons e hs _ ih =>
    intro i v hv
    cases i with
    | zero => simp only [List.getElem?_cons_zero, Option.some.injEq] at hv; subst hv; exact ⟨_, _, _, _, rfl, e, hs, rfl⟩
    | succ i => simpa using ih i v (by simpa using hv)
end
example : True := by
 k_with "mcall ref" => ((with_reducible refine (?_ : wpAny _ _ (call (.ref 61) _) _ _ _)); k_dflt (refine' put_once_u ?jf ?jn ?jo ?jr ?ju ?js ?jl ?jt ?jq ?jz ?_; k_extra "mP4"; (case ju => k_updF); (case js => k_extra "man"); (case jl => k_extra "mgt"); (case jt => first | assumption | (repeat' constructor)); (case jq => first | k_ne | exact ne_news (by assumption) (by k_mem) (by assumption)); (case jz => first | assumption | k_extra "mE om" | (simp only [List.length_cons, List.length_nil]; k_extra "mE om") | k_extra "moc")); intro _ _ _ _ _ _ N'; (try dsimp only at N'); revert N'; intro _; k_extra "msw")
 exact trivial
theorem turn_end1 {st : List Str} {h₀ h' : Heap} {L f I : Addr} {o : Obj} {m₀ m' : Str → Option Value} {vs : List Value} {n tk : Nat} {xs : List Str} {s₁ : Shared} (F : Fr h₀ L h' m') (N : News h₀ L h' [(I, o), (f, listOf vs.toArray n)]) (hne : f ≠ I)
    (ag : Agree st m₀ m') (hs : StrsAre vs xs) : TurnEnd h₀ L (fun m nx => Agree st m₀ m ∧ ∃ vs' n', nx = [(f, listOf vs'.toArray n')] ∧ StrsAre vs' xs) (I, o) s₁ { s₁ with heap := h', toks := tk } :=
  turn_end [(f, listOf vs.toArray n)] F N (.head _) (fun p hp => .tail _ hp) (fun p hp => by rw [List.mem_singleton] at hp; rw [hp]; exact hne) ⟨ag, vs, n, rfl, hs⟩
theorem joined_c {A : Around} {s : Shared} {a : Addr} {va : List Value} {na : Nat} {xss : List (List Str)} (O : OkH w s.heap) (r : Rm A 2)
    (ha : s.heap.get? a = some (listOf va.toArray na)) (hsa : ListsAt s.heap va xss) (hz : (xss.map List.length).sum ≤ 2 ^ 20) :
    Calls w A s 150 [.ref a] nil (Fresh s (joinAll xss)) := by
  refine' enter [((Str.ofString "lists"), .ref a)] O r ?k6 ?k7 ?k9 ?kB ?_ ?c1 ?c2 ?c3 ?c4 ?c5; k_extra "eN"
  have N : News s.heap L' s₁.heap [] := News.nil
  have X := OkH.X O; have T := OkH.top O
  k_steps
  rename News _ _ _ _ => N1
  rename Fr _ _ _ _ => F1
  rename_i f h1 l1 h2
  have N2 := N1 _ (.head _)
  refine iterList [] (fun i nx => ∃ vs' n', nx = [(f, listOf vs'.toArray n')] ∧ StrsAre vs' ((xss.take i).foldl putAll [])) rfl r.hd ?_ (F1.keep _ _ ha) (fun _ _ _ => .inl ha) F1 N1 ⟨[], 0, rfl, .nil⟩ ?_ ?_
  · intro e; exact absurd (Heap.lt_size ha) (by rw [e, hL']; exact Nat.lt_irrefl _)
  · intro i v q nx h tk I o hv hI hne gR12 F2 N3; k_extra "qD"; refine ex2_2 gR12 ?_; clear gR12; intro vs' n' eK; subst eK; intro hs'
    refine ex4_4 (hsa.get i v (by simpa using hv)) ?_; intro b vb nb xs eK; subst eK; intro hb hsb hx
    have huI : @Ne Nat f I := hne _ (.head _)
    have hstep : (xss.take (i + 1)).foldl putAll [] = putAll ((xss.take i).foldl putAll []) xs := by rw [List.take_add_one, hx]; simp
    have hz' : ((xss.take i).foldl putAll []).length + xs.length ≤ 2 ^ 20 := by
      have h1 := joinFold_len (xss.take i) []
      have h2 : ((xss.take (i + 1)).map List.length).sum ≤ (xss.map List.length).sum := by
        conv => rhs; rw [← List.take_append_drop (i + 1) xss]
        rw [List.map_append, List.sum_append]; k_extra "mE lia"
      rw [List.take_add_one, hx] at h2
      simp only [Option.toList_some, List.map_append, List.sum_append, List.map_cons, List.map_nil, List.sum_cons, List.sum_nil, List.length_nil] at h1 h2
      k_extra "mE lia"
    first | rw [hstep] at hGk | rw [hstep]
    clear F1 N1 N2
    k_steps
    exact turn_end1 (by assumption) (by assumption) huI (Agree.set (Agree.over _) rfl) (by assumption)
  · intro q nx h tk gR13 F2 N3; k_extra "qD"; refine ex2_2 gR13 ?_; clear gR13; intro vs' n' eK; subst eK; intro hs'
    k_steps
    refine post_end S F2 ⟨f, vs', n', rfl, N2.2.2, (N3 _ (.head _)).1, ?_⟩
    have e : xss.take va.toArray.size = xss := by rw [List.size_toArray, hsa.length, List.take_length]
    rwa [e] at hs'
theorem end_list {s s₂ : Shared} {W : Addr → Prop} {L l : Addr} {m : Str → Option Value} {news : List (Addr × Obj)} {vs : List Value} {n : Nat} {xs : List Str} (S : Same s s₂) (F : Fr s.heap L s₂.heap m) (N : News s.heap L s₂.heap news) (hm : (l, listOf vs.toArray n) ∈ news) (hs : StrsAre vs xs) :
    Post s W (Fresh s xs) (.ref l) s₂ := post_end S F ⟨l, vs, n, rfl, (N _ hm).2.2, (N _ hm).1, hs⟩
example : Sep := by w_top off; first | walk1 | trivial
theorem ext_tup_meets (l : Addr) (items : Array Value) (n : Nat) (b : Addr) (items2 : Array Value) (n2 : Nat) (dd : Option Addr) (sl : Array (Option Value)) (hs0 : ¬(!items.isEmpty && Builtin.List.listTooLong (items.size + items2.size)) = true) (hs1 : items.size ≤ sizeLine) (hs2 : items.size + items2.size ≤ sizeLine + 1) :
    Meets (Builtin.«list.extend» ⟨[.ref l, .ref b], []⟩) (fun _ R s => s.heap.get? l = some { cls := .type "list", dict := none, data := .seq items n, slots := #[] } ∧ s.heap.get? b = some { cls := .type "tuple", dict := dd, data := .seq items2 n2, slots := sl } ∧ R (.ok (.ret Value.none)) { s with heap := s.heap.update l (Obj.mapSeq fun x => x ++ items2), toks := s.toks }) :=
  .of_wp fun prog w A R s h => by
    obtain ⟨hp, g, d, tk, os⟩ := s; obtain ⟨hl, hb, h⟩ := h; have f1 := AutoSeq1.idx_int; have f2 := AutoSeq1.sub_tuple_tuple; have f3 := AutoSeq1.sub_list_list; have f4 := AutoSeq1.sub_tuple_list; have f5 := AutoSeq1.sub_list_tuple;
    have hz' : (items ++ items2).size ≤ sizeLine + 1 := by rw [Array.size_append]; exact hs2
    wp_walk using (wpAny_updateSeq hl rfl (hz := hs1) (_hz' := hz')), wpAny_loadPart' hl, wpAny_loadPart' hb; exact ⟨_, rfl, h⟩
section
variable {prog : Program} {A : Around} {E : Value → Shared → Prop} {s : Shared} {h₀ : Heap} {D b L : Addr} {m : Str → Option Value} {news : List (Addr × Obj)} {g : Obj → List (Addr × Obj)} {vs ws : List Value} {n nb : Nat} {y : Value} {u : Tok} {Q : Value → Shared → Prop}
theorem mapSeq_listOf (f : Array Value → Array Value) (its : Array Value) (n : Nat) : ∃ n', Obj.mapSeq f (listOf its n) = listOf (f its) n' := ⟨_, rfl⟩
theorem upd_list {h₀ : Heap} {D L : Addr} {m : Str → Option Value} {news : List (Addr × Obj)} {g : Obj → List (Addr × Obj)} {n : Nat} {h : Heap} (f : Array Value → Array Value) {its : Array Value} (F : Fr h₀ L h m) (N : News h₀ L h news) (U : UpdF D (listOf its n) news g) :
    ∃ n', Fr h₀ L (h.update D (Obj.mapSeq f)) m ∧ News h₀ L (h.update D (Obj.mapSeq f)) (g (listOf (f its) n')) := by
  refine ex2_4 (U.split) ?_; intro pre post eK; subst eK; intro hg a c
  refine ex1_1 (mapSeq_listOf f its n) ?_; intro n' e
  have := news_upd F N a c e rfl
  exact ⟨n', this.1, hg _ ▸ this.2⟩
theorem pop_last_L {prog : Program} {E : Value → Shared → Prop} {A : Around} {s : Shared} {h₀ : Heap} {D L : Addr} {m : Str → Option Value} {news : List (Addr × Obj)} {g : Obj → List (Addr × Obj)} {vs : List Value} {n : Nat} {y : Value} {Q : Value → Shared → Prop} (F : Fr h₀ L s.heap m) (N : News h₀ L s.heap news) (U : UpdF D (listOf (List.toArray (vs ++ [y])) n) news g) (hz : vs.length < 2 ^ 23)
    (h : ∀ n' h', Fr h₀ L h' m → News h₀ L h' (g (listOf vs.toArray n')) → Q y { s with heap := h' }) : wpAny (model prog w) A (call (.builtin "list.pop") [.ref D]) Q E s := by
  have z := N _ (UpdF.mem U)
  have hk : (List.toArray (vs ++ [y])).size - 1 = vs.length := by rw [List.size_toArray, List.length_append]; rfl
  refine ex1_2 (upd_list (fun xs => xs.eraseIdxIfInBounds ((List.toArray (vs ++ [y])).size - 1)) F N U) ?_; intro n' F' N'
  refine call_meets PySem.F.slot_list_pop ⟨_, z.1, rfl⟩ PySem.F.entry_list_pop (PySem.F.args_list_pop_1 _) (PySem.MeetsSeq.list_pop_last D _ n y (by rw [hk]; simp) (by rw [sizeLine_eq, List.size_toArray, List.length_append, List.length_singleton]; k_extra "mE lia")) ⟨z.1, h n' _ F' ?_⟩
  have e : (List.toArray (vs ++ [y])).eraseIdxIfInBounds ((List.toArray (vs ++ [y])).size - 1) = List.toArray vs := by rw [hk, kl_erase, List.append_nil]
  rw [e] at N'; exact N'
theorem pop_first_L {prog : Program} {E : Value → Shared → Prop} {A : Around} {s : Shared} {h₀ : Heap} {D L : Addr} {m : Str → Option Value} {news : List (Addr × Obj)} {g : Obj → List (Addr × Obj)} {vs : List Value} {n : Nat} {u : Tok} {Q : Value → Shared → Prop} (F : Fr h₀ L s.heap m) (N : News h₀ L s.heap news) (U : UpdF D (listOf (List.toArray (y :: vs)) n) news g) (hz : vs.length < 2 ^ 23)
    (h : ∀ n' h', Fr h₀ L h' m → News h₀ L h' (g (listOf vs.toArray n')) → Q y { s with heap := h' }) : wpAny (model prog w) A (call (.builtin "list.pop") [.ref D, .int 0 u]) Q E s := by
  have z := N _ (UpdF.mem U)
  refine ex1_2 (upd_list (fun xs => xs.eraseIdxIfInBounds 0) F N U) ?_; intro n' F' N'
  refine call_meets PySem.F.slot_list_pop ⟨_, z.1, rfl⟩ PySem.F.entry_list_pop (PySem.F.args_list_pop_2 _ _) (PySem.MeetsSeq.list_pop_at D _ n 0 u 0 y (by decide) ?_ (by simp) (by rw [sizeLine_eq, List.size_toArray, List.length_cons]; k_extra "mE lia")) ⟨z.1, h n' _ F' ?_⟩
  · unfold seqIndex?
    have : ¬ ((0 : Int) < 0) := by k_extra "mE lia"
    simp only [if_neg this]
    rw [if_pos (by simp only [List.size_toArray, List.length_cons, Bool.and_eq_true, decide_eq_true_eq]; k_extra "mE lia")]
    rfl
  · have e := kl_erase [] vs y
    simp only [List.nil_append, List.length_nil] at e
    rw [e] at N'; exact N'
theorem insert_first_L {prog : Program} {E : Value → Shared → Prop} {A : Around} {s : Shared} {h₀ : Heap} {D L : Addr} {m : Str → Option Value} {news : List (Addr × Obj)} {g : Obj → List (Addr × Obj)} {vs : List Value} {n : Nat} {u : Tok} {Q : Value → Shared → Prop} (F : Fr h₀ L s.heap m) (N : News h₀ L s.heap news) (U : UpdF D (listOf vs.toArray n) news g) (hz : vs.length < 2 ^ 23)
    (h : ∀ n' h', Fr h₀ L h' m → News h₀ L h' (g (listOf (List.toArray (y :: vs)) n')) → Q .none { s with heap := h' }) : wpAny (model prog w) A (call (.builtin "list.insert") [.ref D, .int 0 u, y]) Q E s := by
  have z := N _ (UpdF.mem U)
  refine ex1_2 (upd_list (fun xs => have k := if (0 : Int) < 0 then ((0 : Int) + (xs.size : Int)).toNat else min (0 : Int).toNat xs.size; (xs.extract 0 k).push y ++ xs.extract k) F N U) ?_; intro n' F' N'
  refine call_meets PySem.F.slot_list_insert ⟨_, z.1, rfl⟩ PySem.F.entry_list_insert (PySem.F.args_list_insert_3 _ _ _) (PySem.AutoSeq1.list_insert_list_int_val_1 D _ n 0 u y (by decide) (by rw [sizeLine_eq, List.size_toArray]; k_extra "mE lia")) ⟨z.1, h n' _ F' ?_⟩
  have e : (have k := if (0 : Int) < 0 then ((0 : Int) + (vs.toArray.size : Int)).toNat else min (0 : Int).toNat vs.toArray.size; (vs.toArray.extract 0 k).push y ++ vs.toArray.extract k) = List.toArray (y :: vs) := by
    simp
  rw [e] at N'; exact N'
theorem long_no {a c : Nat} (h : a + c ≤ 2 ^ 24) (e : Bool) : ¬(!e && Builtin.List.listTooLong (a + c)) = true := by
  have h1 : Builtin.List.listTooLong (a + c) = false := by unfold Builtin.List.listTooLong; rw [sizeLine_eq]; simp; k_extra "mE lia"
  rw [h1, Bool.and_false]; exact Bool.false_ne_true
theorem extend_tup_L {prog : Program} {E : Value → Shared → Prop} {A : Around} {s : Shared} {h₀ : Heap} {D b L : Addr} {m : Str → Option Value} {news : List (Addr × Obj)} {g : Obj → List (Addr × Obj)} {vs ws : List Value} {n : Nat} {Q : Value → Shared → Prop} (F : Fr h₀ L s.heap m) (N : News h₀ L s.heap news) (U : UpdF D (listOf vs.toArray n) news g) (hb : IsTup s.heap b ws.toArray) (hz : vs.length + ws.length ≤ 2 ^ 23)
    (h : ∀ n' h', Fr h₀ L h' m → News h₀ L h' (g (listOf (List.toArray (vs ++ ws)) n')) → Q .none { s with heap := h' }) : wpAny (model prog w) A (call (.builtin "list.extend") [.ref D, .ref b]) Q E s := by
  have z := N _ (UpdF.mem U)
  obtain ⟨⟨c, dd, dt, sl⟩, ho, hc, n2, hd⟩ := hb
  simp only at hc hd
  subst hc hd
  refine ex1_2 (upd_list (fun xs => xs ++ List.toArray ws) F N U) ?_; intro n' F' N'
  refine call_meets PySem.F.slot_list_extend ⟨_, z.1, rfl⟩ PySem.F.entry_list_extend (PySem.F.args_list_extend_2 _ _) (ext_tup_meets D _ n b _ n2 dd sl (long_no (by simp only [List.size_toArray]; k_extra "mE lia") _) (by rw [sizeLine_eq, List.size_toArray]; k_extra "mE lia") (by rw [sizeLine_eq]; simp only [List.size_toArray]; k_extra "mE lia")) ⟨z.1, ho, h n' _ F' ?_⟩
  have e : List.toArray vs ++ List.toArray ws = List.toArray (vs ++ ws) := by simp
  rw [e] at N'; exact N'
theorem extend_list_L {prog : Program} {E : Value → Shared → Prop} {A : Around} {s : Shared} {h₀ : Heap} {D b L : Addr} {m : Str → Option Value} {news : List (Addr × Obj)} {g : Obj → List (Addr × Obj)} {vs ws : List Value} {n nb : Nat} {Q : Value → Shared → Prop} (F : Fr h₀ L s.heap m) (N : News h₀ L s.heap news) (U : UpdF D (listOf vs.toArray n) news g) (hb : s.heap.get? b = some (listOf ws.toArray nb)) (hz : vs.length + ws.length ≤ 2 ^ 23)
    (h : ∀ n' h', Fr h₀ L h' m → News h₀ L h' (g (listOf (List.toArray (vs ++ ws)) n')) → Q .none { s with heap := h' }) : wpAny (model prog w) A (call (.builtin "list.extend") [.ref D, .ref b]) Q E s := by
  have z := N _ (UpdF.mem U)
  refine ex1_2 (upd_list (fun xs => xs ++ List.toArray ws) F N U) ?_; intro n' F' N'
  refine call_meets PySem.F.slot_list_extend ⟨_, z.1, rfl⟩ PySem.F.entry_list_extend (PySem.F.args_list_extend_2 _ _) (PySem.AutoSeq1.list_extend_list_list_0 D _ n b _ nb (long_no (by simp only [List.size_toArray]; k_extra "mE lia") _) (by rw [sizeLine_eq, List.size_toArray]; k_extra "mE lia") (by rw [sizeLine_eq]; simp only [List.size_toArray]; k_extra "mE lia")) ⟨z.1, hb, h n' _ F' ?_⟩
  have e : List.toArray vs ++ List.toArray ws = List.toArray (vs ++ ws) := by simp
  rw [e] at N'; exact N'
theorem ne_nil_L {prog : Program} {E : Value → Shared → Prop} {A : Around} {s : Shared} {b : Addr} {vs : List Value} {n nb : Nat} {Q : Value → Shared → Prop} {l : Addr} (hl : s.heap.get? l = some (listOf vs.toArray n)) (hb : s.heap.get? b = some (listOf (List.toArray []) nb)) (hu : A.units < cLine)
    (h : Q (.bool (!vs.isEmpty)) s) : wpAny (model prog w) A (compareOp .NotEq (.ref l) (.ref b)) Q E s := by
  refine cmp_ofNotEq ?_
  cases vs with
  | nil => exact PySem.SeqAt.RcNeAt.lists ⟨_, hl, rfl, _, rfl⟩ ⟨_, hb, rfl, _, rfl⟩ rfl hu (e := fun _ => true) (fun j h1 _ => by simp at h1) _ _ _ _ (by simpa using h)
  | cons v r => exact PySem.SeqAt.RcNeAt.lists_lengths ⟨_, hl, rfl, _, rfl⟩ ⟨_, hb, rfl, _, rfl⟩ (by simp) hu _ _ _ _ h
end
example : Sep := by w_top off; first | walk1 | trivial
noncomputable abbrev tupObj (l : List Value) : Obj := { cls := .type "tuple", data := .seq l.toArray }
section
variable {prog : Program} {A : Around} {E : Value → Shared → Prop} {s : Shared} {h₀ : Heap} {L : Addr} {m : Str → Option Value} {news : List (Addr × Obj)}
theorem slicePart_of {prog : Program} {E : Value → Shared → Prop} {A : Around} {s : Shared} {v : Value} {o : Option Int} {Q : Option Int → Shared → Prop} (p : IsPart v o) (h : Q o s) : wpAny (model prog w) A (Builtin.Slice.slicePartIndex v) Q E s := by
  cases p with
  | none => exact slicePart_none h
  | int i t => exact slicePart_int h
theorem getItem_tup_sl {prog : Program} {E : Value → Shared → Prop} {a b : Int} {A : Around} {s : Shared} {t sl : Addr} {items : Array Value} {vl vu vk : Value} {lo hi st : Option Int} {res : List Value} {Q : Value → Shared → Prop} (ht : IsTup s.heap t items) (hs : s.heap.IsSliceOf sl vl vu vk) (pl : IsPart vl lo) (pu : IsPart vu hi) (pk : IsPart vk st)
    (h0 : (st.getD 1 == 0) = false) (hab : Builtin.Slice.sliceAdjust lo hi (st.getD 1) (items.size : Int) = (a, b)) (hno : (a == 0 && st.getD 1 == 1 && Builtin.Slice.slicePlaces a b (st.getD 1) == items.size) = false)
    (hres : (List.range (Builtin.Slice.slicePlaces a b (st.getD 1))).filterMap (fun (k : Nat) => items[(a + (k : Int) * st.getD 1).toNat]?) = res) (hz : res.length ≤ 2 ^ 20)
    (h : Q (.ref s.heap.objs.size) { s with heap := s.heap.push (tupObj res) }) : wpAny (model prog w) A (getItem (.ref t) (.ref sl)) Q E s := by
  have hok : sizeOk (.seq res.toArray) := by show res.toArray.size ≤ sizeLine; rw [sizeLine_eq, List.size_toArray]; k_extra "mE lia"
  obtain ⟨os, hos, hcs, hds⟩ := id hs
  have hTs : s.TypeIs (.ref sl) "slice" := ⟨os, hos, hcs⟩
  have happ : ∀ {Q : Int × Int × Nat → Shared → Prop}, Q (a, st.getD 1, Builtin.Slice.slicePlaces a b (st.getD 1)) s → wpAny (model prog w) A.in1 (Builtin.Slice.sliceApplied (.ref sl) (pure (items.size : Int))) Q E s := fun hq => by
    unfold Builtin.Slice.sliceApplied Builtin.Slice.sliceFields
    refine wpAny_bind (wpAny_bind (wpAny_field hos hds (x := vl) rfl (wpAny_bind (wpAny_field hos hds (x := vu) rfl (wpAny_bind (wpAny_field hos hds (x := vk) rfl (wpAny_pure ?_)))))))
    refine wpAny_bind (slicePart_of pk ?_)
    show wpAny _ _ (if (st.getD 1 == 0) = true then _ else _) _ _ s
    rw [if_neg (by rw [h0]; exact Bool.false_ne_true)]
    refine wpAny_bind (slicePart_of pl (wpAny_bind (slicePart_of pu (wpAny_bind (wpAny_pure ?_)))))
    show wpAny _ _ (match Builtin.Slice.sliceAdjust lo hi (st.getD 1) (items.size : Int) with | (x, y) => pure (x, st.getD 1, Builtin.Slice.slicePlaces x y (st.getD 1))) _ _ s
    rw [hab]
    exact wpAny_pure hq
  unfold getItem
  try with_reducible refine wpAny_holding ?_
  first | refine wpAny_bind (wpAny_pure ?_) | skip
  refine wpAny_bind (wpAny_sequenceKey ht.typeIs (by decide) ?_)
  refine wpAny_bind (wpAny_callSpecial?_slot (name := Str.ofString "__getitem__") ht.typeIs slot_tuple_getitem
    (wpAny_call_entry slot_tuple_getitem ht.typeIs entry_tuple_getitem ?_ (args_tuple_getitem _ _)))
  show wpAny _ _ (Builtin.Tuple.tupleItemsOf (.ref t) >>= _) _ _ s
  refine wpAny_bind (tupleItemsOf_ ht ?_)
  refine wpAny_bind (wpAny_typeOf hTs ?_)
  rw [if_pos (by decide)]
  refine wpAny_bind (wpAny_mono (happ (Q := fun x s' => x = (a, st.getD 1, Builtin.Slice.slicePlaces a b (st.getD 1)) ∧ s' = s) ⟨rfl, rfl⟩) (fun x s' hx => ?_) fun _ _ x => x)
  refine ex0_2 hx ?_; clear hx; intro eK; subst eK; intro eK; subst eK
  show wpAny _ _ (if (a == 0 && st.getD 1 == 1 && Builtin.Slice.slicePlaces a b (st.getD 1) == items.size) = true then _ else _) _ _ _
  rw [if_neg (by rw [hno]; exact Bool.false_ne_true), hres]
  first
    | exact wpAny_bind (m := Builtin.Tuple.tupleExact _) (wpAny_newObj_type (wpAny_pure ⟨_, rfl, wpAny_pure h⟩) hok)
    | exact wpAny_bind (m := Builtin.Tuple.tupleExact _) (wpAny_newObj_type (wpAny_bind (wpAny_pure (wpAny_pure ⟨_, rfl, wpAny_pure h⟩))) hok)
    | exact wpAny_bind (wpAny_bind (m := Builtin.Tuple.tupleExact _) (wpAny_newObj_type (wpAny_pure (wpAny_pure ⟨_, rfl, wpAny_pure h⟩)) hok))
    | exact wpAny_bind (wpAny_bind (m := Builtin.Tuple.tupleExact _) (wpAny_newObj_type (wpAny_pure ⟨_, rfl, wpAny_pure h⟩) hok))
inductive SlOk : Value → Value → Value → List Value → List Value → Prop
  | from1 (u : Tok) (x : Value) (l : List Value) : SlOk (.int 1 u) .none .none (x :: l) l
  | upto1 (u : Tok) (x y : Value) : SlOk .none (.int 1 u) .none [x, y] [x]
  | rev0 (u : Tok) : SlOk .none .none (.int (-1) u) [] []
  | rev1 (u : Tok) (x : Value) : SlOk .none .none (.int (-1) u) [x] [x]
  | rev2 (u : Tok) (x y : Value) : SlOk .none .none (.int (-1) u) [x, y] [y, x]
theorem getItem_sl {prog : Program} {E : Value → Shared → Prop} {A : Around} {s : Shared} {t sl : Addr} {l res : List Value} {vl vu vk : Value} {Q : Value → Shared → Prop} (ht : IsTup s.heap t l.toArray) (hs : s.heap.IsSliceOf sl vl vu vk) (k : SlOk vl vu vk l res) (hz : l.length ≤ 2 ^ 20)
    (h : Q (.ref s.heap.objs.size) { s with heap := s.heap.push (tupObj res) }) : wpAny (model prog w) A (getItem (.ref t) (.ref sl)) Q E s := by
  cases k with
  | from1 u x l =>
    exact getItem_tuple_from (a := 1) ht hs (Nat.le_refl _) (by simp) (by simpa using h) (by rw [sizeLine_eq, List.size_toArray]; k_extra "mE lia")
  | upto1 u x y => exact getItem_tup_sl ht hs .none (.int _ _) .none (by decide) (a := 0) (b := 1) (res := [x]) rfl rfl rfl (Nat.le_of_ble_eq_true rfl) h
  | rev0 u => exact getItem_tup_sl ht hs .none .none (.int _ _) (by decide) (a := -1) (b := -1) (res := []) rfl rfl rfl (Nat.le_of_ble_eq_true rfl) h
  | rev1 u x => exact getItem_tup_sl ht hs .none .none (.int _ _) (by decide) (a := 0) (b := -1) (res := [x]) rfl rfl rfl (Nat.le_of_ble_eq_true rfl) h
  | rev2 u x y => exact getItem_tup_sl ht hs .none .none (.int _ _) (by decide) (a := 1) (b := -1) (res := [y, x]) rfl rfl rfl (Nat.le_of_ble_eq_true rfl) h
theorem slice_T {prog : Program} {E : Value → Shared → Prop} {value slice : Expr} {A : Around} {s : Shared} {h₀ : Heap} {L : Addr} {m : Str → Option Value} {news : List (Addr × Obj)} {t : Addr} {l res : List Value} {vl vu vk : Value} {ops : List Value} {Q : Value → Shared → Prop} (F : Fr h₀ L s.heap m) (N : News h₀ L s.heap news) (ht : IsTup s.heap t l.toArray) (k : SlOk vl vu vk l res) (hz : l.length ≤ 2 ^ 20)
    (h : ∀ D h', Fr h₀ L h' m → News h₀ L h' ((D, tupObj res) :: news) → NeAll D news → Q (.ref D) { s with heap := h' })
    (hs : subscripted slice false (.ref t) (.ref s.heap.objs.size) = operate ops (getItem (.ref t) (.ref s.heap.objs.size))) :
    wpAny (model prog w) A (subscriptTail value slice (.ref t) (.ref s.heap.objs.size)) Q E { s with heap := s.heap.push { cls := .type "slice", data := .fields #[vl, vu, vk] } } := by
  have ht' : IsTup (s.heap.push { cls := .type "slice", data := .fields #[vl, vu, vk] }) t l.toArray := ht.keeps fun _ _ e => Heap.get?_push_of_some _ e
  refine tail_any (s := { s with heap := s.heap.push { cls := .type "slice", data := .fields #[vl, vu, vk] } }) ht'.typeIs slot_tuple_getitem.lookup (getItem_sl ht' (Heap.IsSliceOf.new ..) k hz ?_) hs
  have N1 := News.push (F.push { cls := .type "slice", data := .fields #[vl, vu, vk] }) (News.le N fun _ _ e => Heap.get?_push_of_some _ e) (tupObj res)
  exact h _ _ ((F.push _).push _) N1 (neAll_of fun p hp e => by
    have := Heap.lt_size (N p hp).1
    rw [e] at this
    exact absurd this (by show ¬ (s.heap.push _).objs.size < _; rw [Heap.size_push]; exact Nat.not_lt.mpr (Nat.le_succ _)))
end
example : Sep := by w_top off; first | walk1 | trivial
example : True := by
 k_with "mE slice" => ((with_reducible refine (?_ : wpAny _ _ (subscriptTail _ (PySem.Expr.Slice _ _ _ _) (Value.ref _) (Value.ref _)) _ _ _)); k_dflt (refine' slice_T ?jF ?jN ?jt ?jk ?jz ?_ ?jhs; k_extra "mFN"; (case jt => k_extra "mit"); (case jk => constructor); (case jz => first | exact Nat.le_of_ble_eq_true rfl | (simp only [List.length_cons]; k_extra "mE om") | k_extra "mE om"); (case jhs => with_unfolding_all rfl)); intro _ _ _ _ _; k_extra "msw")
 k_with "msubscriptTail Name Slice ref ref" => k_extra "mE slice"
 k_with "msubscriptTail Subscript" => k_extra "mE slice"
 k_with "msubscriptTail Call" => k_extra "mE slice"
 k_with "mcall builtin:list.pop" => (k_dflt (first | (refine' pop_first_L ?jF ?jN ?jU ?jz ?_; k_extra "mFN"; (case jU => k_updF); (case jz => k_extra "mao")) | (refine' pop_last_L ?jF ?jN ?jU ?jz ?_; k_extra "mFN"; (case jU => k_updF); (case jz => k_extra "mao"))); intro _ _ _ N'; (try dsimp only at N'); revert N'; intro _; k_extra "msw")
 k_with "mcall builtin:list.insert" => (k_dflt (refine' insert_first_L ?jF ?jN ?jU ?jz ?_; k_extra "mFN"; (case jU => k_updF); (case jz => k_extra "mao")); intro _ _ _ N'; (try dsimp only at N'); revert N'; intro _; k_extra "msw")
 k_with "mcall builtin:list.extend" => (k_dflt (first | (refine' extend_tup_L ?jF ?jN ?jU ?jb ?jz ?_; k_extra "mFN"; (case jU => k_updF); (case jb => k_extra "mit"); (case jz => first | assumption | k_extra "moc")) | (refine' extend_list_L ?jF ?jN ?jU ?jb ?jz ?_; k_extra "mFN"; (case jU => k_updF); (case jb => k_extra "mgt"); (case jz => first | assumption | k_extra "moc"))); intro _ _ _ N'; (try dsimp only at N'); revert N'; intro _; k_extra "msw")
 k_with "munpackItems ref" => (k_dflt (refine' unpackItemsN_ ?jF ?jN ?jt ?jh ?jn ?_; k_extra "mFN"; (case jt => k_extra "mit"); (case jh => exact Rm.hd (by assumption)); (case jn => exact rfl)); intro _ _ _; k_extra "msw")
 exact trivial
theorem Rm.units {A : Around} {n : Nat} (r : Rm A n) : A.units < cLine := by have := r.un; k_extra "mE lia"
section
variable {prog : Program} {A : Around} {E : Value → Shared → Prop} {s : Shared} {h₀ : Heap} {b l L : Addr} {news : List (Addr × Obj)} {vs : List Value} {n nb : Nat} {y : Value} {Q : Value → Shared → Prop}
theorem ne_nil_c {prog : Program} {E : Value → Shared → Prop} {A : Around} {s : Shared} {b l : Addr} {vs : List Value} {n nb : Nat} {Q : Value → Shared → Prop} {k : Nat} (r : Rm A k) (hl : s.heap.get? l = some (listOf (List.toArray (y :: vs)) n)) (hb : s.heap.get? b = some (listOf (List.toArray []) nb)) (h : Q (.bool true) s) : wpAny (model prog w) A (compareOp .NotEq (.ref l) (.ref b)) Q E s := ne_nil_L hl hb r.units h
theorem ne_nil_s {prog : Program} {E : Value → Shared → Prop} {A : Around} {s : Shared} {b l : Addr} {vs : List Value} {n nb : Nat} {y : Value} {Q : Value → Shared → Prop} {k : Nat} (r : Rm A k) (hl : s.heap.get? l = some (listOf (List.toArray (vs ++ [y])) n)) (hb : s.heap.get? b = some (listOf (List.toArray []) nb)) (h : Q (.bool true) s) : wpAny (model prog w) A (compareOp .NotEq (.ref l) (.ref b)) Q E s := ne_nil_L hl hb r.units (by cases vs <;> exact h)
theorem ne_nil_n {prog : Program} {E : Value → Shared → Prop} {A : Around} {s : Shared} {b l : Addr} {n nb : Nat} {Q : Value → Shared → Prop} {k : Nat} (r : Rm A k) (hl : s.heap.get? l = some (listOf (List.toArray []) n)) (hb : s.heap.get? b = some (listOf (List.toArray []) nb)) (h : Q (.bool false) s) : wpAny (model prog w) A (compareOp .NotEq (.ref l) (.ref b)) Q E s := ne_nil_L hl hb r.units h
end
example : True := by
 k_with "mcompareOp NotEq ref ref" => k_dflt (first | refine ne_nil_n (by assumption) (News.get (by assumption) (by k_mem)) (News.get (by assumption) (by k_mem)) ?_ | refine ne_nil_c (by assumption) (News.get (by assumption) (by k_mem)) (News.get (by assumption) (by k_mem)) ?_ | refine ne_nil_s (by assumption) (News.get (by assumption) (by k_mem)) (News.get (by assumption) (by k_mem)) ?_)
 exact trivial
section
variable {A : Around} {s : Shared} {a b c d e : Addr} {t1 t2 t3 t4 t5 t6 : Tok} {x : Str} {vs : List Value}
theorem where_names_c {A : Around} {s : Shared} {c d : Addr} {t3 t4 : Tok} (O : OkH w s.heap) (r : Rm A 2) (hC : IsTup s.heap c (List.toArray [.str (Str.ofString "expr") t3, .str (Str.ofString "call") t4, .ref d])) :
    Calls w A s 138 [.ref c] nil (Fresh s []) := by
  refine' enter [((Str.ofString "tree"), .ref c)] O r ?k6 ?k7 ?k9 ?kB ?_ ?c1 ?c2 ?c3 ?c4 ?c5; k_extra "eN"
  have N : News s.heap L' s₁.heap [] := News.nil
  have X := OkH.X O; have T := OkH.top O
  k_steps
  refine while_none ?_
  k_steps
  exact end_list S (by assumption) (by assumption) (by k_mem) .nil
noncomputable def kwSum (as : List Ar) : Nat := (as.map fun a => if a.2.isSome then 2 else 1).sum
noncomputable def ArgInv (h₀ : Heap) (L fd lf : Addr) (m₀ : Str → Option Value) (as : List Ar) (n : Nat) (s s₂ : Shared) : Prop :=
  ∃ q fs kf ls kl acc as', Same s s₂ ∧ Fr h₀ L s₂.heap (over [Str.ofString "here"] q m₀) ∧ News h₀ L s₂.heap [(lf, listOf ls.toArray kl), (fd, listOf fs.toArray kf)] ∧ StrsAre fs acc ∧ TreesAt h₀ (List.map Ar.tr as') ls ∧
    putAll acc (as'.map (·.1)) = putAll [] (as.map (·.1)) ∧ kwSum as' = n ∧ acc.length + as'.length ≤ 100
theorem ArgInv.intro {as as' : List Ar} {h₀ : Heap} {L fd lf : Addr} {m₀ m' : Str → Option Value} {s s₂ : Shared} {news : List (Addr × Obj)} {fs ls : List Value} {kf kl : Nat} {acc : List Str} (S : Same s s₂) (F : Fr h₀ L s₂.heap m') (ag : Agree [Str.ofString "here"] m₀ m') (N : News h₀ L s₂.heap news)
    (h1 : (lf, listOf ls.toArray kl) ∈ news) (h2 : (fd, listOf fs.toArray kf) ∈ news) (hfs : StrsAre fs acc) (hls : TreesAt h₀ (List.map Ar.tr as') ls) (hpa : putAll acc (as'.map (·.1)) = putAll [] (as.map (·.1))) (hz : acc.length + as'.length ≤ 100) : ArgInv h₀ L fd lf m₀ as (kwSum as') s s₂ :=
  exI7 m' fs kf ls kl acc as' ⟨S, by rw [← ag.eq]; exact F, fun p hp => by
    rcases List.mem_cons.mp hp with rfl | hp
    · exact N _ h1
    · rw [List.mem_singleton.mp hp]; exact N _ h2, hfs, hls, hpa, rfl, hz⟩
theorem TreesAt.length {h : Heap} : ∀ {ts : List Tr} {vs : List Value}, TreesAt h ts vs → vs.length = ts.length
  | [], vs, e => by simp only [TreesAt.e1, TreesAt.e2] at e; rw [e]; rfl
  | t :: ts, vs, e => by
    k_extra "qB"; refine TreesAt.cons_k e ?_; clear e; intro v r eK _ h; subst eK; k_extra "qC"
    simp [TreesAt.length h]
theorem argument_names_c {x : Str} {as : List Ar} {A : Around} {s : Shared} {c d : Addr} {t3 t4 t5 t6 : Tok} {ps : List Value} (O : OkH w s.heap) (r : Rm A 3) (hC : IsTup s.heap c (List.toArray [.str (Str.ofString "expr") t3, .str (Str.ofString "call") t4, .ref d]))
    (hD : IsTup s.heap d (List.toArray (.ref e :: ps))) (hE : IsTup s.heap e (List.toArray [.str (Str.ofString "sym") t5, .str x t6])) (hps : TreesAt s.heap (as.map Ar.tr) ps) (hz : as.length ≤ 100) :
    Calls w A s 131 [.ref c] nil (Fresh s (putAll [] (as.map (·.1)))) := by
  refine' enter [((Str.ofString "call"), .ref c)] O r ?k6 ?k7 ?k9 ?kB ?_ ?c1 ?c2 ?c3 ?c4 ?c5; k_extra "eN"
  have N : News s.heap L' s₁.heap [] := News.nil
  have hlen := TreesAt.length hps
  rw [List.length_map] at hlen
  have X := OkH.X O; have T := OkH.top O
  k_steps
  rename_i fd _ _ _ _ _ _ _ lf cn _ l1 _ _ _ _ _ _ F N
  refine while_rule (ArgInv s.heap L' fd lf (fun y => if y = Str.ofString "found" then some (.ref fd) else if y = Str.ofString "left" then some (.ref lf) else List.lookup y [(Str.ofString "call", Value.ref c)].reverse) as · s) (kwSum as) ?_ ?_
  · exact ArgInv.intro S F (Agree.refl _ _) N (by k_mem) (by k_mem) .nil hps rfl (by simpa using hz)
  · clear F N
    intro n s₂ gR14; k_extra "qD"; refine ex7_8 gR14 ?_; clear gR14; intro q fs kf ls kl acc as' S2 F N hfs hls hpa hn hz'
    have hne : @Ne Nat lf fd := by have := l1.2; k_extra "mE lia"
    rcases as' with _ | ⟨⟨x, (_ | y)⟩, as'⟩
    · simp only [List.map_nil, TreesAt.e1, TreesAt.e2] at hls
      subst hls
      k_steps
      exact end_list S2 (by assumption) (by assumption) (by k_mem) (show StrsAre fs _ by rw [← hpa]; exact hfs)
    · skip
      k_extra "qB"; refine TreesAt.cons_k hls ?_; clear hls; intro v rs eK gA1 hls; subst eK; (first | refine TreeAt.sym_k gA1 ?_ | refine TreeAt.one_k gA1 ?_); clear gA1; intro a1 u1 u2 eK hT1; subst eK; k_extra "qC"
      have hzz : acc.length + 1 ≤ 2 ^ 20 := by simp only [List.length_cons] at hz'; k_extra "mE lia"
      have hrs := TreesAt.length hls
      rw [List.length_map] at hrs
      have hzl : rs.length < 2 ^ 23 := by simp only [List.length_cons] at hz'; k_extra "mE lia"
      k_steps
      refine ⟨kwSum as', by rw [← hn]; simp [kwSum], ArgInv.intro S2 (by assumption) (Agree.set (Agree.over _) rfl) (by assumption) (by k_mem) (by k_mem) (by assumption) hls hpa ?_⟩
      have h9 := putAll_len acc [x]
      have h8 : acc.length + (as'.length + 1) ≤ 100 := hz'
      have h7 : (putAll acc [x]).length ≤ acc.length + 1 := h9
      show (putAll acc [x]).length + as'.length ≤ 100
      k_extra "mE lia"
    · skip
      k_extra "qB"; refine TreesAt.cons_k hls ?_; clear hls; intro v rs eK gA1 hls; subst eK; (first | (refine TreeAt.e2sR gA1 ?_; clear gA1; intro u1 u2 b1 a2 u3 u4 v3 hT1 hB1 hT2 gA2) | (refine TreeAt.e2s_k gA1 ?_; clear gA1; intro a1 u1 u2 b1 a2 u3 u4 v3 eK hT1 hB1 hT2 gA2; subst eK)); (first | refine TreeAt.sym_k gA2 ?_ | refine TreeAt.one_k gA2 ?_); clear gA2; intro a3 u5 u6 eK hT3; subst eK; k_extra "qC"
      have hrs := TreesAt.length hls
      rw [List.length_map] at hrs
      have hzl : rs.length < 2 ^ 23 := by simp only [List.length_cons] at hz'; k_extra "mE lia"
      k_steps
      refine ⟨kwSum ((x, none) :: as'), by rw [← hn]; simp [kwSum], ArgInv.intro S2 (by assumption) (Agree.set (Agree.over _) rfl) (by assumption) (by k_mem) (by k_mem) hfs ?_ hpa (by simpa using hz')⟩
      simp only [List.map_cons, Ar.tr, TreesAt.e1, TreesAt.e2, TreeAt.e1, TreeAt.e2, TreeAt.e3]
      exact ⟨_, _, rfl, ⟨_, _, _, rfl, hT2⟩, hls⟩
end
example : Sep := by w_top off; first | walk1 | trivial
section
variable {A : Around} {s : Shared} {a b c d e : Addr} {t1 t2 t3 t4 t5 t6 : Tok} {x : Str} {vs : List Value}
theorem argument_names_t {as : List Ar} {A : Around} {s : Shared} {c d : Addr} {t3 t4 : Tok} {ps : List Value} (O : OkH w s.heap) (r : Rm A 3) (hC : IsTup s.heap c (List.toArray [.str (Str.ofString "expr") t3, .str (Str.ofString "tuple") t4, .ref d]))
    (hD : IsTup s.heap d ps.toArray) (hps : TreesAt s.heap (as.map Ar.tr) ps) (hz : as.length ≤ 100) :
    Calls w A s 131 [.ref c] nil (Fresh s (putAll [] (as.map (·.1)))) := by
  refine' enter [((Str.ofString "call"), .ref c)] O r ?k6 ?k7 ?k9 ?kB ?_ ?c1 ?c2 ?c3 ?c4 ?c5; k_extra "eN"
  have N : News s.heap L' s₁.heap [] := News.nil
  have hlen := TreesAt.length hps
  rw [List.length_map] at hlen
  have X := OkH.X O; have T := OkH.top O
  k_steps
  rename_i fd _ _ _ _ _ _ lf cn _ l1 _ _ _ _ F N
  refine while_rule (ArgInv s.heap L' fd lf (fun y => if y = Str.ofString "found" then some (.ref fd) else if y = Str.ofString "left" then some (.ref lf) else List.lookup y [(Str.ofString "call", Value.ref c)].reverse) as · s) (kwSum as) ?_ ?_
  · exact ArgInv.intro S F (Agree.refl _ _) N (by k_mem) (by k_mem) .nil hps rfl (by simpa using hz)
  · clear F N
    intro n s₂ gR15; k_extra "qD"; refine ex7_8 gR15 ?_; clear gR15; intro q fs kf ls kl acc as' S2 F N hfs hls hpa hn hz'
    have hne : @Ne Nat lf fd := by have := l1; k_extra "mE lia"
    rcases as' with _ | ⟨⟨x, (_ | y)⟩, as'⟩
    · simp only [List.map_nil, TreesAt.e1, TreesAt.e2] at hls
      subst hls
      k_steps
      exact end_list S2 (by assumption) (by assumption) (by k_mem) (show StrsAre fs _ by rw [← hpa]; exact hfs)
    · skip
      k_extra "qB"; refine TreesAt.cons_k hls ?_; clear hls; intro v rs eK gA1 hls; subst eK; (first | refine TreeAt.sym_k gA1 ?_ | refine TreeAt.one_k gA1 ?_); clear gA1; intro a1 u1 u2 eK hT1; subst eK; k_extra "qC"
      have hzz : acc.length + 1 ≤ 2 ^ 20 := by simp only [List.length_cons] at hz'; k_extra "mE lia"
      have hrs := TreesAt.length hls
      rw [List.length_map] at hrs
      have hzl : rs.length < 2 ^ 23 := by simp only [List.length_cons] at hz'; k_extra "mE lia"
      k_steps
      refine ⟨kwSum as', by rw [← hn]; simp [kwSum], ArgInv.intro S2 (by assumption) (Agree.set (Agree.over _) rfl) (by assumption) (by k_mem) (by k_mem) (by assumption) hls hpa ?_⟩
      have h9 := putAll_len acc [x]
      have h8 : acc.length + (as'.length + 1) ≤ 100 := hz'
      have h7 : (putAll acc [x]).length ≤ acc.length + 1 := h9
      show (putAll acc [x]).length + as'.length ≤ 100
      k_extra "mE lia"
    · skip
      k_extra "qB"; refine TreesAt.cons_k hls ?_; clear hls; intro v rs eK gA1 hls; subst eK; (first | (refine TreeAt.e2sR gA1 ?_; clear gA1; intro u1 u2 b1 a2 u3 u4 v3 hT1 hB1 hT2 gA2) | (refine TreeAt.e2s_k gA1 ?_; clear gA1; intro a1 u1 u2 b1 a2 u3 u4 v3 eK hT1 hB1 hT2 gA2; subst eK)); (first | refine TreeAt.sym_k gA2 ?_ | refine TreeAt.one_k gA2 ?_); clear gA2; intro a3 u5 u6 eK hT3; subst eK; k_extra "qC"
      have hrs := TreesAt.length hls
      rw [List.length_map] at hrs
      have hzl : rs.length < 2 ^ 23 := by simp only [List.length_cons] at hz'; k_extra "mE lia"
      k_steps
      refine ⟨kwSum ((x, none) :: as'), by rw [← hn]; simp [kwSum], ArgInv.intro S2 (by assumption) (Agree.set (Agree.over _) rfl) (by assumption) (by k_mem) (by k_mem) hfs ?_ hpa (by simpa using hz')⟩
      simp only [List.map_cons, Ar.tr, TreesAt.e1, TreesAt.e2, TreeAt.e1, TreeAt.e2, TreeAt.e3]
      exact ⟨_, _, rfl, ⟨_, _, _, rfl, hT2⟩, hls⟩
end
example : Sep := by w_top off; first | walk1 | trivial
noncomputable abbrev FUNS : List Str := [Str.ofString "function", Str.ofString "->", Str.ofString "do", Str.ofString "generated"]
noncomputable abbrev SILS : List Str := [Str.ofString "quote", Str.ofString "macro", Str.ofString "struct", Str.ofString "abstract", Str.ofString "escape"]
noncomputable abbrev OWNS : List Str := [Str.ofString "let", Str.ofString "comprehension", Str.ofString "generator", Str.ofString "try"]
noncomputable abbrev UPDS : List Str := [Str.ofString "=", Str.ofString "+=", Str.ofString "-=", Str.ofString "*=", Str.ofString "//=", Str.ofString "%=", Str.ofString "|=", Str.ofString "&="]
noncomputable abbrev UNSS : List Str := [Str.ofString "if", Str.ofString "&&", Str.ofString "||", Str.ofString "comparison", Str.ofString "while", Str.ofString "try"]
noncomputable abbrev HIDS : List Str := [Str.ofString "comprehension", Str.ofString "generator", Str.ofString "dotcall", Str.ofString ".="]
section
variable {A : Around} {E : Value → Shared → Prop} {s : Shared} {h₀ : Heap} {L : Addr} {m : Str → Option Value} {x : Str} {u : Tok} {Q : Value → Shared → Prop}
theorem in_UPDS {E : Value → Shared → Prop} {x : Str} {A : Around} {s : Shared} {h₀ : Heap} {L : Addr} {m : Str → Option Value} {u : Tok} {Q : Value → Shared → Prop} (F : Fr h₀ L s.heap m) (X : (hd.heap_39 w.params).In h₀) (h : Q (.bool (UPDS.any fun y => y == x)) s) : wpAny (model PR w) A (compareOp .In (.str x u) (.ref 50)) Q E s :=
  in_tuple_strs (tupK (X.keeps F.keep) (by k_is)) (.cons _ _ (.cons _ _ (.cons _ _ (.cons _ _ (.cons _ _ (.cons _ _ (.cons _ _ (.cons _ _ .nil)))))))) h
theorem in_FUNS {E : Value → Shared → Prop} {x : Str} {A : Around} {s : Shared} {h₀ : Heap} {L : Addr} {m : Str → Option Value} {u : Tok} {Q : Value → Shared → Prop} (F : Fr h₀ L s.heap m) (X : (hd.heap_39 w.params).In h₀) (h : Q (.bool (FUNS.any fun y => y == x)) s) : wpAny (model PR w) A (compareOp .In (.str x u) (.ref 51)) Q E s :=
  in_tuple_strs (tupK (X.keeps F.keep) (by k_is)) (.cons _ _ (.cons _ _ (.cons _ _ (.cons _ _ .nil)))) h
theorem in_SILS {E : Value → Shared → Prop} {x : Str} {A : Around} {s : Shared} {h₀ : Heap} {L : Addr} {m : Str → Option Value} {u : Tok} {Q : Value → Shared → Prop} (F : Fr h₀ L s.heap m) (X : (hd.heap_39 w.params).In h₀) (h : Q (.bool (SILS.any fun y => y == x)) s) : wpAny (model PR w) A (compareOp .In (.str x u) (.ref 52)) Q E s :=
  in_tuple_strs (tupK (X.keeps F.keep) (by k_is)) (.cons _ _ (.cons _ _ (.cons _ _ (.cons _ _ (.cons _ _ .nil))))) h
theorem in_UNSS {E : Value → Shared → Prop} {x : Str} {A : Around} {s : Shared} {h₀ : Heap} {L : Addr} {m : Str → Option Value} {u : Tok} {Q : Value → Shared → Prop} (F : Fr h₀ L s.heap m) (X : (hd.heap_39 w.params).In h₀) (h : Q (.bool (!(UNSS.any fun y => y == x))) s) : wpAny (model PR w) A (compareOp .NotIn (.str x u) (.ref 53)) Q E s :=
  notin_tuple_strs (tupK (X.keeps F.keep) (by k_is)) (.cons _ _ (.cons _ _ (.cons _ _ (.cons _ _ (.cons _ _ (.cons _ _ .nil)))))) h
theorem in_HIDS {E : Value → Shared → Prop} {x : Str} {A : Around} {s : Shared} {h₀ : Heap} {L : Addr} {m : Str → Option Value} {u : Tok} {Q : Value → Shared → Prop} (F : Fr h₀ L s.heap m) (X : (hd.heap_39 w.params).In h₀) (h : Q (.bool (HIDS.any fun y => y == x)) s) : wpAny (model PR w) A (compareOp .In (.str x u) (.ref 54)) Q E s :=
  in_tuple_strs (tupK (X.keeps F.keep) (by k_is)) (.cons _ _ (.cons _ _ (.cons _ _ (.cons _ _ .nil)))) h
theorem notin_UPDS {E : Value → Shared → Prop} {x : Str} {A : Around} {s : Shared} {h₀ : Heap} {L : Addr} {m : Str → Option Value} {u : Tok} {Q : Value → Shared → Prop} (F : Fr h₀ L s.heap m) (X : (hd.heap_39 w.params).In h₀) (h : Q (.bool (!(UPDS.any fun y => y == x))) s) : wpAny (model PR w) A (compareOp .NotIn (.str x u) (.ref 50)) Q E s :=
  notin_tuple_strs (tupK (X.keeps F.keep) (by k_is)) (.cons _ _ (.cons _ _ (.cons _ _ (.cons _ _ (.cons _ _ (.cons _ _ (.cons _ _ (.cons _ _ .nil)))))))) h
end
example : True := by
 k_with "mcompareOp In str ref" => first | (with_reducible refine' in_FUNS ?jF ?jX ?_; k_extra "mfx") | (with_reducible refine' in_SILS ?jF ?jX ?_; k_extra "mfx") | (with_reducible refine' in_UPDS ?jF ?jX ?_; k_extra "mfx") | (with_reducible refine' in_HIDS ?jF ?jX ?_; k_extra "mfx")
 k_with "mcompareOp NotIn str ref" => first | (with_reducible refine' in_UNSS ?jF ?jX ?_; k_extra "mfx") | (with_reducible refine' notin_UPDS ?jF ?jX ?_; k_extra "mfx")
 exact trivial
structure Pl (hd : Str) : Prop where
  fu : (FUNS.any fun x => x == hd) = false
  si : (SILS.any fun x => x == hd) = false
  ow : (OWNS.any fun x => x == hd) = false
  wh : (hd == Str.ofString "while") = false
  fo : (hd == Str.ofString "for") = false
  kw : (hd == Str.ofString "kw") = false
section
variable {A : Around} {s : Shared} {a b c d e : Addr} {t1 t2 t3 t4 t5 t6 : Tok} {x hd : Str} {vs : List Value}
noncomputable abbrev ScopeOut (vs : List Value) : Value → Heap → Prop := fun v h' => ∃ r, v = .ref r ∧ IsTup h' r vs.toArray
theorem parts_in_scope_p {hd : Str} {A : Around} {s : Shared} {a b : Addr} {t1 t2 : Tok} {vs : List Value} (O : OkH w s.heap) (r : Rm A 1) (hp : Pl hd) (hT : IsTup s.heap a (List.toArray [.str (Str.ofString "expr") t1, .str hd t2, .ref b])) (hB : IsTup s.heap b vs.toArray) :
    Calls w A s 89 [.ref a] nil (ScopeOut vs) := by
  k_extra "qB"; obtain ⟨p1, p2, p3, p4, p5, p6⟩ := hp; k_extra "qC"
  refine' enter [((Str.ofString "tree"), .ref a)] O r ?k6 ?k7 ?k9 ?kB ?_ ?c1 ?c2 ?c3 ?c4 ?c5; k_extra "eN"
  have N : News s.heap L' s₁.heap [] := News.nil
  have X := OkH.X O; have T := OkH.top O
  k_steps
  rename Fr _ _ _ _ => F1
  show Post _ _ _ _ _
  exact post_end S F1 ⟨b, rfl, hB.keeps F1.keep⟩
theorem parts_in_scope_n (O : OkH w s.heap) (r : Rm A 1) (hp : (FUNS.any fun x => x == hd) = true ∨ ((FUNS.any fun x => x == hd) = false ∧ (SILS.any fun x => x == hd) = true) ∨ ((FUNS.any fun x => x == hd) = false ∧ (SILS.any fun x => x == hd) = false ∧ (OWNS.any fun x => x == hd) = true))
    (hdo : (hd == Str.ofString "do") = false) (hT : IsTup s.heap a (List.toArray [.str (Str.ofString "expr") t1, .str hd t2, .ref b])) :
    Calls w A s 89 [.ref a] nil (ScopeOut []) := by
  rcases hp with p1 | ⟨p1, p2⟩ | ⟨p1, p2, p3⟩
  all_goals (
    refine' enter [((Str.ofString "tree"), .ref a)] O r ?k6 ?k7 ?k9 ?kB ?_ ?c1 ?c2 ?c3 ?c4 ?c5; k_extra "eN"
    have N : News s.heap L' s₁.heap [] := News.nil
    have X := OkH.X O; have T := OkH.top O
    k_steps
    rename Fr _ _ _ _ => F1
    rename News _ _ _ _ => N1
    show Post _ _ _ _ _
    exact post_end S F1 ⟨_, rfl, News.isTup N1 (.head _)⟩)
theorem parts_in_scope_w {A : Around} {s : Shared} {a b : Addr} {t1 t2 : Tok} {va vb : Value} (O : OkH w s.heap) (r : Rm A 1) (hT : IsTup s.heap a (List.toArray [.str (Str.ofString "expr") t1, .str (Str.ofString "while") t2, .ref b])) (hB : IsTup s.heap b (List.toArray [va, vb])) :
    Calls w A s 89 [.ref a] nil (ScopeOut [va]) := by
  refine' enter [((Str.ofString "tree"), .ref a)] O r ?k6 ?k7 ?k9 ?kB ?_ ?c1 ?c2 ?c3 ?c4 ?c5; k_extra "eN"
  have N : News s.heap L' s₁.heap [] := News.nil
  have X := OkH.X O; have T := OkH.top O
  k_steps
  rename Fr _ _ _ _ => F1
  rename News _ _ _ _ => N1
  show Post _ _ _ _ _
  exact post_end S F1 ⟨_, rfl, News.isTup N1 (.head _)⟩
theorem parts_in_scope_f {A : Around} {s : Shared} {a b c d : Addr} {t1 t2 t3 t4 : Tok} {va vb vx : Value} (O : OkH w s.heap) (r : Rm A 1) (hT : IsTup s.heap a (List.toArray [.str (Str.ofString "expr") t1, .str (Str.ofString "for") t2, .ref b])) (hB : IsTup s.heap b (List.toArray [.ref c, vb]))
    (hC : IsTup s.heap c (List.toArray [.str (Str.ofString "expr") t3, .str (Str.ofString "in") t4, .ref d])) (hD : IsTup s.heap d (List.toArray [vx, va])) :
    Calls w A s 89 [.ref a] nil (ScopeOut [va]) := by
  refine' enter [((Str.ofString "tree"), .ref a)] O r ?k6 ?k7 ?k9 ?kB ?_ ?c1 ?c2 ?c3 ?c4 ?c5; k_extra "eN"
  have N : News s.heap L' s₁.heap [] := News.nil
  have X := OkH.X O; have T := OkH.top O
  k_steps
  rename Fr _ _ _ _ => F1
  rename News _ _ _ _ => N1
  show Post _ _ _ _ _
  exact post_end S F1 ⟨_, rfl, News.isTup N1 (.head _)⟩
end
example : Sep := by w_top off; first | walk1 | trivial
theorem turnable {g h h₁ : Heap} {L : Addr} {m : Str → Option Value} (ws : List (Addr × Obj)) (F : Fr h L h₁ m) (hg : Le g h) (hL : L = h.objs.size) (e : ∀ p ∈ ws, h.get? p.1 = some p.2) (off : ∀ p ∈ ws, g.get? p.1 = none) :
    ∃ hb, Fr hb L h₁ m ∧ News hb L h₁ ws ∧ Le g hb ∧ ∀ b o, h.get? b = some o → (∀ p ∈ ws, b ≠ p.1) → hb.get? b = some o := by
  refine ⟨hideAll h (ws.map (·.1)), ⟨F.ns, fun b o e => F.keep b o (of_hideAll _ e), by rw [hideAll_size]; exact F.above⟩, fun p hp =>
    ⟨F.keep _ _ (e p hp), fun q => absurd (Heap.lt_size (e p hp)) (by rw [q, hL]; exact Nat.lt_irrefl _), hideAll_none _ (List.mem_map_of_mem hp)⟩, fun b o eb => hideAll_get _ (hg b o eb) fun hm => ?_, fun b o eb hn => hideAll_get _ eb fun hm => ?_⟩
  · refine ex1_2 (List.mem_map.mp hm) ?_; intro p hp eK; subst eK; rw [off p hp] at eb; cases eb
  · refine ex1_2 (List.mem_map.mp hm) ?_; intro p hp eK; subst eK; exact hn p hp rfl
theorem turnable_k {g h h₁ : Heap} {L : Addr} {m : Str → Option Value} (ws : List (Addr × Obj)) (F : Fr h L h₁ m) (hg : Le g h) (hL : L = h.objs.size) (e : ∀ p ∈ ws, h.get? p.1 = some p.2) (off : ∀ p ∈ ws, g.get? p.1 = none) {P : Prop}
    (k : ∀ hb, Fr hb L h₁ m → News hb L h₁ ws → Le g hb → (∀ b o, h.get? b = some o → (∀ p ∈ ws, b ≠ p.1) → hb.get? b = some o) → P) : P := by
  refine ex1_4 (turnable ws F hg hL e off) ?_; intro hb a b c d; exact k hb a b c d
noncomputable abbrev bdict (h1 h2 h3 : Int) (k1 k2 k3 : Tok) (la ll lg : Addr) : Obj := dictOf [⟨h1, .str (Str.ofString "assigned") k1, .ref la⟩, ⟨h2, .str (Str.ofString "told_local") k2, .ref ll⟩, ⟨h3, .str (Str.ofString "told_global") k3, .ref lg⟩] 3
noncomputable abbrev bobs (h1 h2 h3 : Int) (k1 k2 k3 : Tok) (x dx la ll lg : Addr) (as ls gs : List Value) (na nl ng : Nat) : List (Addr × Obj) :=
  [(x, instObj 113 dx), (dx, bdict h1 h2 h3 k1 k2 k3 la ll lg), (la, listOf as.toArray na), (ll, listOf ls.toArray nl), (lg, listOf gs.toArray ng)]
noncomputable def Apart5 (x dx la ll lg : Nat) : Prop := @LT.lt Nat _ dx x ∧ @LT.lt Nat _ x la ∧ @LT.lt Nat _ la ll ∧ @LT.lt Nat _ ll lg
noncomputable def NoteOut (h1 h2 h3 : Int) (k1 k2 k3 : Tok) (x dx la ll lg : Addr) (gs : List Value) (ng : Nat) (xs ys zs : List Str) (v : Value) (h' : Heap) : Prop :=
  v = .none ∧ ∃ as' na' ls' nl' xs', (∀ p ∈ bobs h1 h2 h3 k1 k2 k3 x dx la ll lg as' ls' gs na' nl' ng, h'.get? p.1 = some p.2) ∧ StrsAre as' xs' ∧ xs'.length ≤ xs.length + 1 ∧ StrsAre ls' (putAll ys zs)
noncomputable abbrev five (x dx la ll lg : Addr) (b : Addr) : Prop := b = x ∨ b = dx ∨ b = la ∨ b = ll ∨ b = lg
theorem note_end {h1 h2 h3 : Int} {xs' : List Str} {k1 k2 k3 : Tok} {x dx la ll lg : Addr} {as ls gs as' ls' : List Value} {na nl ng na' nl' : Nat} {xs ys zs : List Str} {s s₂ : Shared} {hb : Heap} {L : Addr} {m : Str → Option Value} {news : List (Addr × Obj)} (S : Same s s₂)
    (hk : ∀ b o, s.heap.get? b = some o → (∀ p ∈ bobs h1 h2 h3 k1 k2 k3 x dx la ll lg as ls gs na nl ng, b ≠ p.1) → hb.get? b = some o)
    (F : Fr hb L s₂.heap m) (N : News hb L s₂.heap news) (hm : ∀ p ∈ bobs h1 h2 h3 k1 k2 k3 x dx la ll lg as' ls' gs na' nl' ng, p ∈ news) (ha : StrsAre as' xs') (hl : xs'.length ≤ xs.length + 1) (hs : StrsAre ls' (putAll ys zs)) :
    Post s (five x dx la ll lg) (NoteOut h1 h2 h3 k1 k2 k3 x dx la ll lg gs ng xs ys zs) .none s₂ :=
  ⟨S, fun b o e hw => F.keep b o (hk b o e fun p hp q => hw (by
    simp only [List.mem_cons, List.not_mem_nil, or_false] at hp
    rcases hp with rfl | rfl | rfl | rfl | rfl
    · exact .inl q
    · exact .inr (.inl q)
    · exact .inr (.inr (.inl q))
    · exact .inr (.inr (.inr (.inl q)))
    · exact .inr (.inr (.inr (.inr q))))), rfl, as', na', ls', nl', xs', fun p hp => (N p (hm p hp)).1, ha, hl, hs⟩
theorem all5 {a b c d e : Addr × Obj} {news : List (Addr × Obj)} (h1 : a ∈ news) (h2 : b ∈ news) (h3 : c ∈ news) (h4 : d ∈ news) (h5 : e ∈ news) : ∀ p ∈ [a, b, c, d, e], p ∈ news := fun p hp => by
  simp only [List.mem_cons, List.not_mem_nil, or_false] at hp
  rcases hp with rfl | rfl | rfl | rfl | rfl <;> assumption
section
variable {A : Around} {s : Shared} {x dx la ll lg a b c d e : Addr} {h1 h2 h3 : Int} {k1 k2 k3 t1 t2 t3 t4 t5 t6 : Tok} {as ls gs : List Value} {na nl ng : Nat} {xs ys : List Str} {y hd : Str} {g : Heap}
theorem note_upd {v2 : Value} (O : OkH w g) (hg : Le g s.heap) (r : Rm A 3) (he : ∀ p ∈ bobs h1 h2 h3 k1 k2 k3 x dx la ll lg as ls gs na nl ng, s.heap.get? p.1 = some p.2) (hne : Apart5 x dx la ll lg) (hoff : ∀ p ∈ bobs h1 h2 h3 k1 k2 k3 x dx la ll lg as ls gs na nl ng, g.get? p.1 = none) (hu : (UPDS.any fun z => z == hd) = true)
    (hT : IsTup g a (List.toArray [.str (Str.ofString "expr") t1, .str hd t2, .ref b])) (hB : IsTup g b (List.toArray [.ref c, v2])) (hC : IsTup g c (List.toArray [.str (Str.ofString "sym") t3, .str y t4])) (hxs : StrsAre as xs) (hys : StrsAre ls ys) (hz : xs.length + 1 ≤ 2 ^ 20) :
    Calls w A s 110 [.ref x, .ref a] (five x dx la ll lg) (NoteOut h1 h2 h3 k1 k2 k3 x dx la ll lg gs ng xs ys []) := by
  refine' enter [((Str.ofString "self"), .ref x), ((Str.ofString "tree"), .ref a)] (O.keeps hg) r ?k6 ?k7 ?k9 ?kB ?_ ?c1 ?c2 ?c3 ?c4 ?c5; k_extra "eN"
  refine turnable_k _ F hg hL' he hoff ?_; intro hb F N hgh hk
  have O' := O.keeps hgh
  replace hT := hT.keeps hgh
  replace hB := hB.keeps hgh
  replace hC := hC.keeps hgh
  unfold Apart5 at hne
  have X := OkH.X O'; have T := OkH.top O'
  k_steps
  exact note_end S hk (by assumption) (by assumption) (all5 (by k_mem) (by k_mem) (by k_mem) (by k_mem) (by k_mem)) (by assumption) (putAll_len _ _) hys
end
example : Sep := by w_top off; first | walk1 | trivial
section
variable {A : Around} {s : Shared} {a b c d e : Addr} {t1 t2 t3 t4 t5 t6 : Tok} {x : Str} {vs : List Value} {Q E : Value → Shared → Prop} {h₀ : Heap} {L : Addr} {m : Str → Option Value} {news : List (Addr × Obj)}
theorem own_name_u {v2 : Value} {as : List Value} (F : Fr h₀ L s.heap m) (N : News h₀ L s.heap news) (O : OkH w h₀) (r : Rm A 3)
    (hT : IsTup h₀ a (List.toArray [.str (Str.ofString "expr") t1, .str (Str.ofString "function") t2, .ref b])) (hB : IsTup h₀ b (List.toArray [.ref c, v2]))
    (hC : IsTup h₀ c (List.toArray [.str (Str.ofString "expr") t3, .str (Str.ofString "call") t4, .ref d])) (hD : IsTup h₀ d (List.toArray (.ref e :: as)))
    (hE : IsTup h₀ e (List.toArray [.str (Str.ofString "sym") t5, .str x t6]))
    (k : ∀ h' tk, Fr h₀ L h' m → News h₀ L h' news → Q (.str x t6) { s with heap := h', toks := tk }) : wpAny (model PR w) A (call (.ref 82) [.ref a]) Q E s :=
  useV (own_name_f (O.keeps F.keep) r (hT.keeps F.keep) (hB.keeps F.keep) (hC.keeps F.keep) (hD.keeps F.keep) (hE.keeps F.keep)) F N k
theorem own_name_v {E : Value → Shared → Prop} {A : Around} {s : Shared} {a b : Addr} {t1 t2 : Tok} {Q : Value → Shared → Prop} {h₀ : Heap} {L : Addr} {m : Str → Option Value} {news : List (Addr × Obj)} (F : Fr h₀ L s.heap m) (N : News h₀ L s.heap news) (O : OkH w h₀) (r : Rm A 3)
    (hT : IsTup h₀ a (List.toArray [.str (Str.ofString "expr") t1, .str (Str.ofString "->") t2, .ref b]))
    (k : ∀ t h' tk, Fr h₀ L h' m → News h₀ L h' news → Q (.str (Str.ofString "") t) { s with heap := h', toks := tk }) : wpAny (model PR w) A (call (.ref 82) [.ref a]) Q E s :=
  use0 (own_name_a (O.keeps F.keep) r (hT.keeps F.keep)) F N fun _ h' tk ⟨t, e⟩ _ F' N' => by rw [e]; exact k t h' tk F' N'
end
example : True := by
 k_with "mcall ref" => ((with_reducible refine (?_ : wpAny _ _ (call (.ref 82) _) _ _ _)); (refine' own_name_u ?jf ?jn ?jo ?jr ?jx0 ?jx1 ?jx2 ?jx3 ?jx4 ?_; k_extra "mP4"; k_extra "mX5"); intro _ _ _ _; k_extra "msw")
 k_with "mcall ref" => ((with_reducible refine (?_ : wpAny _ _ (call (.ref 82) _) _ _ _)); (refine' own_name_v ?jf ?jn ?jo ?jr ?jx0 ?_; k_extra "mP4"; k_extra "mX1"); intro _ _ _ _ _; k_extra "msw")
 exact trivial
structure NoNote (hd : Str) : Prop where
  up : (UPDS.any fun x => x == hd) = false
  lo : (hd == Str.ofString "local") = false
  gl : (hd == Str.ofString "global") = false
  fu : (FUNS.any fun x => x == hd) = false
section
variable {A : Around} {s : Shared} {x dx la ll lg a b c d e f : Addr} {h1 h2 h3 : Int} {k1 k2 k3 t1 t2 t3 t4 t5 t6 : Tok} {as ls gs : List Value} {na nl ng : Nat} {xs ys : List Str} {y hd : Str} {g : Heap}
theorem note_no (O : OkH w g) (hg : Le g s.heap) (r : Rm A 3) (he : ∀ p ∈ bobs h1 h2 h3 k1 k2 k3 x dx la ll lg as ls gs na nl ng, s.heap.get? p.1 = some p.2) (hoff : ∀ p ∈ bobs h1 h2 h3 k1 k2 k3 x dx la ll lg as ls gs na nl ng, g.get? p.1 = none) (hh : NoNote hd)
    (hT : IsTup g a (List.toArray [.str (Str.ofString "expr") t1, .str hd t2, .ref b])) (hxs : StrsAre as xs) (hys : StrsAre ls ys) :
    Calls w A s 110 [.ref x, .ref a] (five x dx la ll lg) (NoteOut h1 h2 h3 k1 k2 k3 x dx la ll lg gs ng xs ys []) := by
  k_extra "qB"; obtain ⟨p1, p2, p3, p4⟩ := hh; k_extra "qC"
  refine' enter [((Str.ofString "self"), .ref x), ((Str.ofString "tree"), .ref a)] (O.keeps hg) r ?k6 ?k7 ?k9 ?kB ?_ ?c1 ?c2 ?c3 ?c4 ?c5; k_extra "eN"
  refine turnable_k _ F hg hL' he hoff ?_; intro hb F N hgh hk
  have O' := O.keeps hgh
  replace hT := hT.keeps hgh
  have X := OkH.X O'; have T := OkH.top O'
  k_steps
  exact note_end S hk (by assumption) (by assumption) (all5 (by k_mem) (by k_mem) (by k_mem) (by k_mem) (by k_mem)) hxs (Nat.le_succ _) hys
theorem note_arr (O : OkH w g) (hg : Le g s.heap) (r : Rm A 4) (he : ∀ p ∈ bobs h1 h2 h3 k1 k2 k3 x dx la ll lg as ls gs na nl ng, s.heap.get? p.1 = some p.2) (hoff : ∀ p ∈ bobs h1 h2 h3 k1 k2 k3 x dx la ll lg as ls gs na nl ng, g.get? p.1 = none)
    (hT : IsTup g a (List.toArray [.str (Str.ofString "expr") t1, .str (Str.ofString "->") t2, .ref b])) (hxs : StrsAre as xs) (hys : StrsAre ls ys) :
    Calls w A s 110 [.ref x, .ref a] (five x dx la ll lg) (NoteOut h1 h2 h3 k1 k2 k3 x dx la ll lg gs ng xs ys []) := by
  refine' enter [((Str.ofString "self"), .ref x), ((Str.ofString "tree"), .ref a)] (O.keeps hg) r ?k6 ?k7 ?k9 ?kB ?_ ?c1 ?c2 ?c3 ?c4 ?c5; k_extra "eN"
  refine turnable_k _ F hg hL' he hoff ?_; intro hb F N hgh hk
  have O' := O.keeps hgh
  replace hT := hT.keeps hgh
  have X := OkH.X O'; have T := OkH.top O'
  k_steps
  exact note_end S hk (by assumption) (by assumption) (all5 (by k_mem) (by k_mem) (by k_mem) (by k_mem) (by k_mem)) hxs (Nat.le_succ _) hys
theorem note_fn {v2 : Value} {vs : List Value} (O : OkH w g) (hg : Le g s.heap) (r : Rm A 4) (he : ∀ p ∈ bobs h1 h2 h3 k1 k2 k3 x dx la ll lg as ls gs na nl ng, s.heap.get? p.1 = some p.2) (hne : Apart5 x dx la ll lg) (hoff : ∀ p ∈ bobs h1 h2 h3 k1 k2 k3 x dx la ll lg as ls gs na nl ng, g.get? p.1 = none)
    (hT : IsTup g a (List.toArray [.str (Str.ofString "expr") t1, .str (Str.ofString "function") t2, .ref b])) (hB : IsTup g b (List.toArray [.ref c, v2]))
    (hC : IsTup g c (List.toArray [.str (Str.ofString "expr") t3, .str (Str.ofString "call") t4, .ref d])) (hD : IsTup g d (List.toArray (.ref e :: vs)))
    (hE : IsTup g e (List.toArray [.str (Str.ofString "sym") t5, .str y t6])) (hxs : StrsAre as xs) (hys : StrsAre ls ys) (hz : xs.length + 1 ≤ 2 ^ 20) :
    Calls w A s 110 [.ref x, .ref a] (five x dx la ll lg) (NoteOut h1 h2 h3 k1 k2 k3 x dx la ll lg gs ng xs ys []) := by
  refine' enter [((Str.ofString "self"), .ref x), ((Str.ofString "tree"), .ref a)] (O.keeps hg) r ?k6 ?k7 ?k9 ?kB ?_ ?c1 ?c2 ?c3 ?c4 ?c5; k_extra "eN"
  refine turnable_k _ F hg hL' he hoff ?_; intro hb F N hgh hk
  have O' := O.keeps hgh
  replace hT := hT.keeps hgh
  replace hB := hB.keeps hgh
  replace hC := hC.keeps hgh
  replace hD := hD.keeps hgh
  replace hE := hE.keeps hgh
  unfold Apart5 at hne
  have X := OkH.X O'; have T := OkH.top O'
  k_steps
  · exact note_end S hk (by assumption) (by assumption) (all5 (by k_mem) (by k_mem) (by k_mem) (by k_mem) (by k_mem)) (by assumption) (putAll_len _ _) hys
  · exact note_end S hk (by assumption) (by assumption) (all5 (by k_mem) (by k_mem) (by k_mem) (by k_mem) (by k_mem)) hxs (Nat.le_succ _) hys
theorem note_loc (O : OkH w g) (hg : Le g s.heap) (r : Rm A 4) (he : ∀ p ∈ bobs h1 h2 h3 k1 k2 k3 x dx la ll lg as ls gs na nl ng, s.heap.get? p.1 = some p.2) (hne : Apart5 x dx la ll lg) (hoff : ∀ p ∈ bobs h1 h2 h3 k1 k2 k3 x dx la ll lg as ls gs na nl ng, g.get? p.1 = none)
    (hT : IsTup g a (List.toArray [.str (Str.ofString "expr") t1, .str (Str.ofString "local") t2, .ref b])) (hB : IsTup g b (List.toArray [.ref c]))
    (hC : IsTup g c (List.toArray [.str (Str.ofString "sym") t3, .str y t4])) (hxs : StrsAre as xs) (hys : StrsAre ls ys) (hz : ys.length + 1 ≤ 2 ^ 20) :
    Calls w A s 110 [.ref x, .ref a] (five x dx la ll lg) (NoteOut h1 h2 h3 k1 k2 k3 x dx la ll lg gs ng xs ys [y]) := by
  refine' enter [((Str.ofString "self"), .ref x), ((Str.ofString "tree"), .ref a)] (O.keeps hg) r ?k6 ?k7 ?k9 ?kB ?_ ?c1 ?c2 ?c3 ?c4 ?c5; k_extra "eN"
  refine turnable_k _ F hg hL' he hoff ?_; intro hb F N hgh hk
  have O' := O.keeps hgh
  replace hT := hT.keeps hgh
  replace hB := hB.keeps hgh
  replace hC := hC.keeps hgh
  unfold Apart5 at hne
  have X := OkH.X O'; have T := OkH.top O'
  k_steps
  rename Fr _ _ _ _ => F1
  rename News _ _ _ _ => N1
  refine iterTup [Str.ofString "place"] (fun i nx => (i = 0 ∧ nx = bobs h1 h2 h3 k1 k2 k3 x dx la ll lg as ls gs na nl ng) ∨ (i = 1 ∧ ∃ ls' nl', nx = bobs h1 h2 h3 k1 k2 k3 x dx la ll lg as ls' gs na nl' ng ∧ StrsAre ls' (putAll ys [y]))) rfl r.hd ?_ hB F1 N1 (.inl ⟨rfl, rfl⟩) ?_ ?_
  · exact Nat.ne_of_lt (Nat.lt_of_lt_of_le hB.lt F1.above)
  · rintro i v q nx h tk I o hv hI hnx hJ F2 N2
    rcases hJ with ⟨rfl, rfl⟩ | ⟨rfl, _⟩
    · simp only [List.getElem?_toArray, List.getElem?_cons_zero, Option.some.injEq] at hv
      subst hv
      have huI := neAll_of hnx
      simp only [NeAll.e1, NeAll.e2, and_true] at huI
      clear F1 N1
      k_steps
      refine turn_end (bobs h1 h2 h3 k1 k2 k3 x dx la ll lg as _ gs na _ ng) (by assumption) (by assumption) (by k_mem) (all5 (by k_mem) (by k_mem) (by k_mem) (by k_mem) (by k_mem)) (fun p hp => ?_) ⟨Agree.set (Agree.set (Agree.over _) rfl) rfl, .inr ⟨by trivial, _, _, rfl, by assumption⟩⟩
      simp only [List.mem_cons, List.not_mem_nil, or_false] at hp
      rcases hp with rfl | rfl | rfl | rfl | rfl
      · exact huI.1
      · exact huI.2.1
      · exact huI.2.2.1
      · exact huI.2.2.2.1
      · exact huI.2.2.2.2
    · simp at hv
  · rintro q nx h tk hJ F2 N2
    rcases hJ with ⟨e, _⟩ | ⟨_, ls', nl', rfl, hs'⟩
    · cases e
    · k_steps
      exact note_end S hk F2 N2 (all5 (by k_mem) (by k_mem) (by k_mem) (by k_mem) (by k_mem)) hxs (Nat.le_succ _) hs'
end
example : Sep := by w_top off; first | walk1 | trivial
section
variable {A : Around} {s : Shared} {x dx la ll lg a b c d e f : Addr} {h1 h2 h3 : Int} {k1 k2 k3 t1 t2 t3 t4 t5 t6 : Tok} {as ls gs : List Value} {na nl ng : Nat} {xs ys : List Str} {y hd : Str} {g : Heap}
theorem note_locs {v2 : Value} (O : OkH w g) (hg : Le g s.heap) (r : Rm A 4) (he : ∀ p ∈ bobs h1 h2 h3 k1 k2 k3 x dx la ll lg as ls gs na nl ng, s.heap.get? p.1 = some p.2) (hne : Apart5 x dx la ll lg) (hoff : ∀ p ∈ bobs h1 h2 h3 k1 k2 k3 x dx la ll lg as ls gs na nl ng, g.get? p.1 = none)
    (hT : IsTup g a (List.toArray [.str (Str.ofString "expr") t1, .str (Str.ofString "local") t2, .ref b])) (hB : IsTup g b (List.toArray [.ref c]))
    (hC : IsTup g c (List.toArray [.str (Str.ofString "expr") t3, .str (Str.ofString "=") t4, .ref d])) (hD : IsTup g d (List.toArray [.ref e, v2]))
    (hE : IsTup g e (List.toArray [.str (Str.ofString "sym") t5, .str y t6])) (hxs : StrsAre as xs) (hys : StrsAre ls ys) (hz : ys.length + 1 ≤ 2 ^ 20) :
    Calls w A s 110 [.ref x, .ref a] (five x dx la ll lg) (NoteOut h1 h2 h3 k1 k2 k3 x dx la ll lg gs ng xs ys [y]) := by
  refine' enter [((Str.ofString "self"), .ref x), ((Str.ofString "tree"), .ref a)] (O.keeps hg) r ?k6 ?k7 ?k9 ?kB ?_ ?c1 ?c2 ?c3 ?c4 ?c5; k_extra "eN"
  refine turnable_k _ F hg hL' he hoff ?_; intro hb F N hgh hk
  have O' := O.keeps hgh
  replace hT := hT.keeps hgh
  replace hB := hB.keeps hgh
  replace hC := hC.keeps hgh
  replace hD := hD.keeps hgh
  replace hE := hE.keeps hgh
  unfold Apart5 at hne
  have X := OkH.X O'; have T := OkH.top O'
  k_steps
  rename Fr _ _ _ _ => F1
  rename News _ _ _ _ => N1
  refine iterTup [Str.ofString "place"] (fun i nx => (i = 0 ∧ nx = bobs h1 h2 h3 k1 k2 k3 x dx la ll lg as ls gs na nl ng) ∨ (i = 1 ∧ ∃ ls' nl', nx = bobs h1 h2 h3 k1 k2 k3 x dx la ll lg as ls' gs na nl' ng ∧ StrsAre ls' (putAll ys [y]))) rfl r.hd ?_ hB F1 N1 (.inl ⟨rfl, rfl⟩) ?_ ?_
  · exact Nat.ne_of_lt (Nat.lt_of_lt_of_le hB.lt F1.above)
  · rintro i v q nx h tk I o hv hI hnx hJ F2 N2
    rcases hJ with ⟨rfl, rfl⟩ | ⟨rfl, _⟩
    · simp only [List.getElem?_toArray, List.getElem?_cons_zero, Option.some.injEq] at hv
      subst hv
      have huI := neAll_of hnx
      simp only [NeAll.e1, NeAll.e2, and_true] at huI
      clear F1 N1
      k_steps
      refine turn_end (bobs h1 h2 h3 k1 k2 k3 x dx la ll lg as _ gs na _ ng) (by assumption) (by assumption) (by k_mem) (all5 (by k_mem) (by k_mem) (by k_mem) (by k_mem) (by k_mem)) (fun p hp => ?_) ⟨Agree.set (Agree.set (Agree.over _) rfl) rfl, .inr ⟨by trivial, _, _, rfl, by assumption⟩⟩
      simp only [List.mem_cons, List.not_mem_nil, or_false] at hp
      rcases hp with rfl | rfl | rfl | rfl | rfl
      · exact huI.1
      · exact huI.2.1
      · exact huI.2.2.1
      · exact huI.2.2.2.1
      · exact huI.2.2.2.2
    · simp at hv
  · rintro q nx h tk hJ F2 N2
    rcases hJ with ⟨e, _⟩ | ⟨_, ls', nl', rfl, hs'⟩
    · cases e
    · k_steps
      exact note_end S hk F2 N2 (all5 (by k_mem) (by k_mem) (by k_mem) (by k_mem) (by k_mem)) hxs (Nat.le_succ _) hs'
end
noncomputable abbrev CallsK (w : World) (A : Around) (s : Shared) (f : Addr) (args : List Value) (W : Addr → Prop) (R : Value → Heap → Prop) : Prop :=
  codeAny (model PR w) A (.call (.ref f) ⟨args, []⟩) (fun r s' => ∃ v, r = .ok (.ret v) ∧ Post s W R v s') s
theorem enterK {params : Arguments} {body : List Stmt} {scope : Scope} {name qual : Str} {A : Around} {s : Shared} {dV kV doc pm cdv ct oc : Value} {an od : Option Addr} {osl : Array (Option Value)} {f : Addr} {pos : List Value} (binds : List (Str × Value))
    {W : Addr → Prop} {R : Value → Heap → Prop}
    (O : OkH w s.heap) {k : Nat} (r : Rm A (k + 1))
    (ho : (hd.heap_39 w.params).lookup f = some ⟨oc, od, .func (fnOf name qual params body scope dV kV doc pm an cdv ct), osl⟩) (hcd : codeIn (hd.heap_39 w.params) cdv qual = true)
    (hbind : BindsTo s (fnOf name qual params body scope dV kV doc pm an cdv ct) ⟨pos, []⟩ binds) (hloc : ∀ y ∈ binds, scope.names.lookup y.1 = some .local)
    (h : ∀ L' s₁, L' = s.heap.objs.size → Fr s.heap L' s₁.heap (fun y => binds.reverse.lookup y) → Same s s₁ → Rm (A.deeper (envOf qual scope L' f cdv)) k →
      (envOf qual scope L' f cdv).kindOf (Str.ofString "__debug__") = none → wpAny (model PR w) (A.deeper (envOf qual scope L' f cdv)) (execs body (envOf qual scope L' f cdv)) (Fin (Post s W R)) (fun _ _ => False) s₁)
    (hco : scope.isCoroutine = false) (hgen : scope.isGenerator = false) (hk : scope.kind = .function)
    (hcell : ∀ x ∈ scope.names, x.2 ≠ .cell) (hdb : scope.names.lookup (Str.ofString "__debug__") = none) : CallsK w A s f pos W R := by
  obtain ⟨X, p, l, me, mg, mb, T⟩ := O
  refine codeAny_call_def (fd := fnOf name qual params body scope dV kV doc pm an cdv ct) (body := body) (binds := binds) r.room (X _ _ ho) rfl T.nolimit (codeRec_of X hcd) rfl hbind hcell hloc (fun h₁ hns hk₁ => ?_) hco hgen hk
  exact wpAny_mono (h _ { s with heap := h₁, toks := s.toks + binds.length } rfl ⟨hns, hk₁, Nat.le_refl _⟩ ⟨rfl, rfl, rfl⟩ (r.deeper _) hdb) (fun _ _ x => ⟨_, rfl, x⟩) (fun _ _ x => x.elim)
theorem Rm.made {A : Around} {n : Nat} (r : Rm A (n + 1)) (C : Addr) (vals : List Value) : Rm (A.under (.builtin "type.__call__" ⟨.ref C :: vals, []⟩)) n :=
  ⟨r.hd, Nat.lt_of_le_of_lt (Nat.le_of_eq (Nat.add_right_comm A.depth 1 n)) r.dp, Rm.step (k := 1) r.un (by decide)⟩
noncomputable def NewBound (g : Heap) (x dx : Addr) (v : Value) (h' : Heap) : Prop :=
  v = .none ∧ ∃ h1 h2 h3 k1 k2 k3 la ll lg, Apart5 x dx la ll lg ∧ (∀ p ∈ bobs h1 h2 h3 k1 k2 k3 x dx la ll lg [] [] [] 0 0 0, h'.get? p.1 = some p.2) ∧ g.get? la = none ∧ g.get? ll = none ∧ g.get? lg = none
theorem init_end {h1 h2 h3 : Int} {k1 k2 k3 : Tok} {x dx la ll lg : Addr} {s s₂ : Shared} {hb : Heap} {L : Addr} {m : Str → Option Value} {news : List (Addr × Obj)} (S : Same s s₂)
    (hk : ∀ b o, s.heap.get? b = some o → (∀ p ∈ [(x, instObj 113 dx), (dx, dictOf [] 0)], b ≠ p.1) → hb.get? b = some o)
    (F : Fr hb L s₂.heap m) (N : News hb L s₂.heap news) (hne : Apart5 x dx la ll lg) (hx : (x, instObj 113 dx) ∈ news) (hd : (dx, bdict h1 h2 h3 k1 k2 k3 la ll lg) ∈ news)
    (ha : (la, listOf (List.toArray []) 0) ∈ news) (hl : (ll, listOf (List.toArray []) 0) ∈ news) (hg : (lg, listOf (List.toArray []) 0) ∈ news) :
    Post s (fun b => b = x ∨ b = dx) (NewBound s.heap x dx) .none s₂ := by
  have ho : ∀ b : Addr, hb.get? b = none → @Ne Nat x b → @Ne Nat dx b → s.heap.get? b = none := fun b e n1 n2 => by
    cases q : s.heap.get? b with
    | none => rfl
    | some o =>
      have := hk b o q fun p hp => by
        simp only [List.mem_cons, List.not_mem_nil, or_false] at hp
        rcases hp with rfl | rfl
        · exact fun e => n1 e.symm
        · exact fun e => n2 e.symm
      rw [e] at this; cases this
  refine ⟨S, fun b o e hw => F.keep b o (hk b o e fun p hp q => hw (by
    simp only [List.mem_cons, List.not_mem_nil, or_false] at hp
    rcases hp with rfl | rfl
    · exact .inl q
    · exact .inr q)), rfl, h1, h2, h3, k1, k2, k3, la, ll, lg, hne, fun p hp => (N p (all5 hx hd ha hl hg p hp)).1, ?_, ?_, ?_⟩
  · exact ho la (N _ ha).2.2 (by unfold Apart5 at hne; k_extra "mE lia") (by unfold Apart5 at hne; k_extra "mE lia")
  · exact ho ll (N _ hl).2.2 (by unfold Apart5 at hne; k_extra "mE lia") (by unfold Apart5 at hne; k_extra "mE lia")
  · exact ho lg (N _ hg).2.2 (by unfold Apart5 at hne; k_extra "mE lia") (by unfold Apart5 at hne; k_extra "mE lia")
theorem bound_init {A : Around} {s : Shared} {x dx : Addr} {g : Heap} (O : OkH w g) (hg : Le g s.heap) (r : Rm A 1) (he : ∀ p ∈ [(x, instObj 113 dx), (dx, dictOf [] 0)], s.heap.get? p.1 = some p.2) (hne : @LT.lt Nat _ dx x)
    (hoff : ∀ p ∈ [(x, instObj 113 dx), (dx, dictOf [] 0)], g.get? p.1 = none) :
    CallsK w A s 103 [.ref x] (fun b => b = x ∨ b = dx) (NewBound s.heap x dx) := by
  refine' enterK [((Str.ofString "self"), .ref x)] (O.keeps hg) r ?k6 ?k7 ?k9 ?kB ?_ ?c1 ?c2 ?c3 ?c4 ?c5; k_extra "eN"
  refine turnable_k _ F hg hL' he hoff ?_; intro hb F N hgh hk
  have O' := O.keeps hgh
  have X := OkH.X O'; have T := OkH.top O'
  k_steps
  rename_i la h1 l1 h2 tk1 ll h3 l2 h4 tk2 lg h5 l3 h6 F6 N6
  exact init_end (x := x) (dx := dx) (la := la) (ll := ll) (lg := lg) S hk F6 N6 (by unfold Apart5; (try simp only [ALt.e1, ALt.e2, and_true] at *); k_extra "mE lia") (by k_mem) (by k_mem) (by k_mem) (by k_mem) (by k_mem)
section
variable {A : Around} {s : Shared} {Q E : Value → Shared → Prop} {h₀ : Heap} {L : Addr} {m : Str → Option Value} {news : List (Addr × Obj)}
theorem bound_u {E : Value → Shared → Prop} {A : Around} {s : Shared} {Q : Value → Shared → Prop} {h₀ : Heap} {L : Addr} {m : Str → Option Value} {news : List (Addr × Obj)} (F : Fr h₀ L s.heap m) (N : News h₀ L s.heap news) (O : OkH w h₀) (r : Rm A 2)
    (k : ∀ h1 h2 h3 k1 k2 k3 x dx la ll lg h' tk, Apart5 x dx la ll lg → Fr h₀ L h' m → News h₀ L h' (bobs h1 h2 h3 k1 k2 k3 x dx la ll lg [] [] [] 0 0 0 ++ news) → Q (.ref x) { s with heap := h', toks := tk }) :
    wpAny (model PR w) A (call (.ref 113) []) Q E s := by
  refine call_cls F O.X N (by k_is) (by k_is) (by k_is) fun x dx h' F' N' l1 l2 => ?_
  have hd2 := N' _ (.tail _ (.head _))
  have hx2 := N' _ (.head _)
  have := bound_init (A := A.under (.builtin "type.__call__" ⟨[.ref 113], []⟩)) (s := { s with heap := h' }) (x := x) (dx := dx) (O := O) F'.keep (r.made 113 []) (fun p hp => by
    simp only [List.mem_cons, List.not_mem_nil, or_false] at hp
    rcases hp with rfl | rfl
    · exact hx2.1
    · exact hd2.1) l2 (fun p hp => by
    simp only [List.mem_cons, List.not_mem_nil, or_false] at hp
    rcases hp with rfl | rfl
    · exact hx2.2.2
    · exact hd2.2.2)
  refine codeAny_mono this fun r s₂ hr => ?_
  refine ex1_2 hr ?_; clear hr; intro v eK; subst eK; intro hr
  · refine ex0_3 hr ?_; clear hr; intro S hk hr
    refine ex0_2 hr ?_; clear hr; intro eK; subst eK; intro hr
    refine ex9_5 hr ?_; clear hr; intro h1 h2 h3 k1 k2 k3 la ll lg ap ho o1 o2 o3
    refine ⟨rfl, ?_⟩
    show Q (.ref x) s₂
    rw [show s₂ = { s with heap := s₂.heap, toks := s₂.toks } from S.to]
    have hoff : ∀ b : Addr, h'.get? b = none → h₀.get? b = none ∧ b ≠ L := fun b e => by
      refine ⟨?_, fun q => ?_⟩
      · cases q : h₀.get? b with
        | none => rfl
        | some o => rw [F'.keep _ _ q] at e; cases e
      · refine ex3_2 (F'.ns) ?_; intro _ _ _ hL _; rw [q, hL] at e; cases e
    have hF : Fr h₀ L s₂.heap m := by
      refine ex3_2 (F'.ns) ?_; intro oL es ep hL rL
      exact ⟨⟨oL, es, ep, hk _ _ hL fun q => q.elim (fun q => hx2.2.1 q.symm) fun q => hd2.2.1 q.symm, rL⟩, fun b o e => hk b o (F'.keep b o e) fun q => q.elim (fun q => by
        have := hx2.2.2; rw [← show b = x from q, e] at this; cases this) (fun q => by
        have := hd2.2.2; rw [← show b = dx from q, e] at this; cases this), F'.above⟩
    refine k h1 h2 h3 k1 k2 k3 x dx la ll lg s₂.heap s₂.toks ap hF fun p hp => ?_
    rcases List.mem_append.mp hp with hp | hp
    · refine ⟨ho p hp, ?_⟩
      simp only [List.mem_cons, List.not_mem_nil, or_false] at hp
      rcases hp with rfl | rfl | rfl | rfl | rfl
      · exact hx2.2
      · exact hd2.2
      · exact (hoff _ o1).symm
      · exact (hoff _ o2).symm
      · exact (hoff _ o3).symm
    · have P := N' p (.tail _ (.tail _ hp))
      refine ⟨hk _ _ P.1 fun q => ?_, P.2⟩
      have l := l1 p hp
      rcases q with q | q
      · have : @Eq Nat p.1 x := q; have : @LT.lt Nat _ dx x := l2; have : @LT.lt Nat _ p.1 dx := l; k_extra "mE lia"
      · have : @Eq Nat p.1 dx := q; have : @LT.lt Nat _ p.1 dx := l; k_extra "mE lia"
end
example : Sep := by w_top off; first | walk1 | trivial
noncomputable def T.kids : T → List T
  | .sym x0 => []
  | .one => []
  | .set x v => [.sym x, v]
  | .up x v => [.sym x, v]
  | .loc x => [.sym x]
  | .locs x v => [.set x v]
  | .dot x => [.sym x, .sym (Str.ofString "v")]
  | .quo x0 => []
  | .fn x0 x1 x2 => []
  | .arr x0 x1 => []
  | .blk a b => [a, b]
  | .ite a b => [a, b]
  | .whl a _ => [a]
  | .lt x0 x1 x2 => []
  | .fr _ a _ => [a]
  | .cmp x0 x1 x2 => []
theorem T.kids_e : (∀ (x0 : Str), (T.sym x0).kids = ([] : List T)) ∧ ((T.one).kids = ([] : List T)) ∧ (∀ (x : Str) (v : T), (T.set x v).kids = ([.sym x, v] : List T)) ∧ (∀ (x : Str) (v : T), (T.up x v).kids = ([.sym x, v] : List T)) ∧ (∀ (x : Str), (T.loc x).kids = ([.sym x] : List T)) ∧ (∀ (x : Str) (v : T), (T.locs x v).kids = ([.set x v] : List T)) ∧ (∀ (x : Str), (T.dot x).kids = ([.sym x, .sym (Str.ofString "v")] : List T)) ∧ (∀ (x0 : Str), (T.quo x0).kids = ([] : List T)) ∧ (∀ (x0 : Str) (x1 : List Ar) (x2 : T), (T.fn x0 x1 x2).kids = ([] : List T)) ∧ (∀ (x0 : List Ar) (x1 : T), (T.arr x0 x1).kids = ([] : List T)) ∧ (∀ (a : T) (b : T), (T.blk a b).kids = ([a, b] : List T)) ∧ (∀ (a : T) (b : T), (T.ite a b).kids = ([a, b] : List T)) ∧ (∀ (a : T) (w1 : T), (T.whl a w1).kids = ([a] : List T)) ∧ (∀ (x0 : Str) (x1 : T) (x2 : T), (T.lt x0 x1 x2).kids = ([] : List T)) ∧ (∀ (w0 : Str) (a : T) (w2 : T), (T.fr w0 a w2).kids = ([a] : List T)) ∧ (∀ (x0 : T) (x1 : Str) (x2 : T), (T.cmp x0 x1 x2).kids = ([] : List T)) :=
  ⟨fun _ => rfl, rfl, fun _ _ => rfl, fun _ _ => rfl, fun _ => rfl, fun _ _ => rfl, fun _ => rfl, fun _ => rfl, fun _ _ _ => rfl, fun _ _ => rfl, fun _ _ => rfl, fun _ _ => rfl, fun _ _ => rfl, fun _ _ _ => rfl, fun _ _ _ => rfl, fun _ _ _ => rfl⟩
noncomputable def T.told : T → List Str
  | .sym x0 => []
  | .one => []
  | .set x0 x1 => []
  | .up x0 x1 => []
  | .loc x => [x]
  | .locs x _ => [x]
  | .dot x0 => []
  | .quo x0 => []
  | .fn x0 x1 x2 => []
  | .arr x0 x1 => []
  | .blk x0 x1 => []
  | .ite x0 x1 => []
  | .whl x0 x1 => []
  | .lt x0 x1 x2 => []
  | .fr x0 x1 x2 => []
  | .cmp x0 x1 x2 => []
theorem T.told_e : (∀ (x0 : Str), (T.sym x0).told = ([] : List Str)) ∧ ((T.one).told = ([] : List Str)) ∧ (∀ (x0 : Str) (x1 : T), (T.set x0 x1).told = ([] : List Str)) ∧ (∀ (x0 : Str) (x1 : T), (T.up x0 x1).told = ([] : List Str)) ∧ (∀ (x : Str), (T.loc x).told = ([x] : List Str)) ∧ (∀ (x : Str) (w1 : T), (T.locs x w1).told = ([x] : List Str)) ∧ (∀ (x0 : Str), (T.dot x0).told = ([] : List Str)) ∧ (∀ (x0 : Str), (T.quo x0).told = ([] : List Str)) ∧ (∀ (x0 : Str) (x1 : List Ar) (x2 : T), (T.fn x0 x1 x2).told = ([] : List Str)) ∧ (∀ (x0 : List Ar) (x1 : T), (T.arr x0 x1).told = ([] : List Str)) ∧ (∀ (x0 : T) (x1 : T), (T.blk x0 x1).told = ([] : List Str)) ∧ (∀ (x0 : T) (x1 : T), (T.ite x0 x1).told = ([] : List Str)) ∧ (∀ (x0 : T) (x1 : T), (T.whl x0 x1).told = ([] : List Str)) ∧ (∀ (x0 : Str) (x1 : T) (x2 : T), (T.lt x0 x1 x2).told = ([] : List Str)) ∧ (∀ (x0 : Str) (x1 : T) (x2 : T), (T.fr x0 x1 x2).told = ([] : List Str)) ∧ (∀ (x0 : T) (x1 : Str) (x2 : T), (T.cmp x0 x1 x2).told = ([] : List Str)) :=
  ⟨fun _ => rfl, rfl, fun _ _ => rfl, fun _ _ => rfl, fun _ => rfl, fun _ _ => rfl, fun _ => rfl, fun _ => rfl, fun _ _ _ => rfl, fun _ _ => rfl, fun _ _ => rfl, fun _ _ => rfl, fun _ _ => rfl, fun _ _ _ => rfl, fun _ _ _ => rfl, fun _ _ _ => rfl⟩
noncomputable def T.leaf : T → Bool
  | .sym _ => true
  | .one => true
  | .set x0 x1 => false
  | .up x0 x1 => false
  | .loc x0 => false
  | .locs x0 x1 => false
  | .dot x0 => false
  | .quo x0 => false
  | .fn x0 x1 x2 => false
  | .arr x0 x1 => false
  | .blk x0 x1 => false
  | .ite x0 x1 => false
  | .whl x0 x1 => false
  | .lt x0 x1 x2 => false
  | .fr x0 x1 x2 => false
  | .cmp x0 x1 x2 => false
theorem T.leaf_e : (∀ (w0 : Str), (T.sym w0).leaf = (true : Bool)) ∧ ((T.one).leaf = (true : Bool)) ∧ (∀ (x0 : Str) (x1 : T), (T.set x0 x1).leaf = (false : Bool)) ∧ (∀ (x0 : Str) (x1 : T), (T.up x0 x1).leaf = (false : Bool)) ∧ (∀ (x0 : Str), (T.loc x0).leaf = (false : Bool)) ∧ (∀ (x0 : Str) (x1 : T), (T.locs x0 x1).leaf = (false : Bool)) ∧ (∀ (x0 : Str), (T.dot x0).leaf = (false : Bool)) ∧ (∀ (x0 : Str), (T.quo x0).leaf = (false : Bool)) ∧ (∀ (x0 : Str) (x1 : List Ar) (x2 : T), (T.fn x0 x1 x2).leaf = (false : Bool)) ∧ (∀ (x0 : List Ar) (x1 : T), (T.arr x0 x1).leaf = (false : Bool)) ∧ (∀ (x0 : T) (x1 : T), (T.blk x0 x1).leaf = (false : Bool)) ∧ (∀ (x0 : T) (x1 : T), (T.ite x0 x1).leaf = (false : Bool)) ∧ (∀ (x0 : T) (x1 : T), (T.whl x0 x1).leaf = (false : Bool)) ∧ (∀ (x0 : Str) (x1 : T) (x2 : T), (T.lt x0 x1 x2).leaf = (false : Bool)) ∧ (∀ (x0 : Str) (x1 : T) (x2 : T), (T.fr x0 x1 x2).leaf = (false : Bool)) ∧ (∀ (x0 : T) (x1 : Str) (x2 : T), (T.cmp x0 x1 x2).leaf = (false : Bool)) :=
  ⟨fun _ => rfl, rfl, fun _ _ => rfl, fun _ _ => rfl, fun _ => rfl, fun _ _ => rfl, fun _ => rfl, fun _ => rfl, fun _ _ _ => rfl, fun _ _ => rfl, fun _ _ => rfl, fun _ _ => rfl, fun _ _ => rfl, fun _ _ _ => rfl, fun _ _ _ => rfl, fun _ _ _ => rfl⟩
theorem T.locals_kids (t : T) : t.locals = t.told ++ t.kids.flatMap T.locals := by
  cases t <;> simp [T.locals_e, T.told_e, T.kids_e]
theorem T.sz_kids (t : T) : (t.kids.map T.sz).sum + 1 ≤ t.sz := by
  cases t <;> simp [T.sz_e, T.kids_e] <;> k_extra "mE lia"
theorem T.sz_told (t : T) : t.told.length + (t.kids.map T.sz).sum ≤ t.sz := by
  cases t <;> simp [T.sz_e, T.kids_e, T.told_e] <;> k_extra "mE lia"
theorem T.leaf_in {t : T} (hl : t.leaf = true) : t = .one ∨ ∃ x, t = .sym x := by
  cases t <;> first | exact .inl rfl | exact .inr ⟨_, rfl⟩ | exact (Bool.false_ne_true hl).elim
theorem T.leaf_kids {t : T} (h : t.leaf = true) : t.kids = [] ∧ t.told = [] := by
  rcases T.leaf_in h with rfl | ⟨x, rfl⟩ <;> exact ⟨rfl, rfl⟩
theorem T.kids_len (t : T) : t.kids.length ≤ 2 := by
  cases t <;> simp [T.kids_e]
section
variable {A : Around} {s : Shared} {x dx la ll lg a b c d e f : Addr} {h1 h2 h3 : Int} {k1 k2 k3 t1 t2 t3 t4 t5 t6 : Tok} {as ls gs : List Value} {na nl ng : Nat} {xs ys : List Str} {y hd : Str} {g : Heap}
theorem trees0 {h : Heap} : TreesAt h [] [] := by simp only [TreesAt.e1, TreesAt.e2]
theorem trees1 {h : Heap} {p : Tr} {v : Value} (k : TreeAt h p v) : TreesAt h [p] [v] := by simp only [TreesAt.e1, TreesAt.e2]; exact ⟨v, [], rfl, k, rfl⟩
theorem note_t (t : T) (ht : TreeAt g t.tr (.ref a)) (hl : t.leaf = false) (O : OkH w g) (hg : Le g s.heap) (r : Rm A 4) (he : ∀ p ∈ bobs h1 h2 h3 k1 k2 k3 x dx la ll lg as ls gs na nl ng, s.heap.get? p.1 = some p.2) (hne : Apart5 x dx la ll lg) (hoff : ∀ p ∈ bobs h1 h2 h3 k1 k2 k3 x dx la ll lg as ls gs na nl ng, g.get? p.1 = none)
    (hxs : StrsAre as xs) (hys : StrsAre ls ys) (hz : xs.length + 1 ≤ 2 ^ 20) (hz' : ys.length + 1 ≤ 2 ^ 20) :
    Calls w A s 110 [.ref x, .ref a] (five x dx la ll lg) (NoteOut h1 h2 h3 k1 k2 k3 x dx la ll lg gs ng xs ys t.told) := by
  have r3 := r.le (k := 3) (by decide)
  cases t
  case sym z => cases hl
  case one => cases hl
  case set z v => exact TreeAt.e2sR ht fun u1 u2 b c u3 u4 v2 hT hB hC _ => note_upd O hg r3 he hne hoff (by decide) hT hB hC hxs hys hz
  case up z v => exact TreeAt.e2sR ht fun u1 u2 b c u3 u4 v2 hT hB hC _ => note_upd O hg r3 he hne hoff (by decide) hT hB hC hxs hys hz
  case loc z => exact TreeAt.e1sR ht fun u1 u2 b c u3 u4 hT hB hC => note_loc O hg r he hne hoff hT hB hC hxs hys hz'
  case locs z v =>
    exact TreeAt.e1R ht fun u1 u2 b v1 hT hB h1 => TreeAt.e2s_k h1 fun c u3 u4 d e u5 u6 v4 e1 hC hD hE _ => by
      subst e1; exact note_locs O hg r he hne hoff hT hB hC hD hE hxs hys hz'
  case fn z as' b' =>
    exact TreeAt.e2R ht fun u1 u2 b v1 v2 hT hB h1 _ => TreeAt.ex_k h1 fun c u3 u4 d vs2 e1 hC hD h3 => TreesAt.cons_k h3 fun v3 r3' e2 h4 _ => TreeAt.sym_k h4 fun e u5 u6 e3 hE => by
      subst e3 e2 e1; exact note_fn O hg r he hne hoff hT hB hC hD hE hxs hys hz
  case arr as' b' => exact TreeAt.e2R ht fun u1 u2 b v1 v2 hT hB _ _ => note_arr O hg r he hoff hT hxs hys
  case dot z => exact TreeAt.e2sR ht fun u1 u2 b c u3 u4 v2 hT hB hC _ => note_no O hg r3 he hoff ⟨by decide, by decide, by decide, by decide⟩ hT hxs hys
  case quo z => exact TreeAt.e1sR ht fun u1 u2 b c u3 u4 hT hB hC => note_no O hg r3 he hoff ⟨by decide, by decide, by decide, by decide⟩ hT hxs hys
  all_goals exact TreeAt.e2R ht fun u1 u2 b v1 v2 hT hB _ _ => note_no O hg r3 he hoff ⟨by decide, by decide, by decide, by decide⟩ hT hxs hys
theorem scope_t {A : Around} {s : Shared} {a : Addr} {g : Heap} (t : T) (ht : TreeAt g t.tr (.ref a)) (hl : t.leaf = false) (hg : Le g s.heap) (O : OkH w s.heap) (r : Rm A 1) :
    ∃ vs, TreesAt g (t.kids.map T.tr) vs ∧ Calls w A s 89 [.ref a] nil (ScopeOut vs) := by
  have lift : ∀ {vs : List Value}, TreesAt g (t.kids.map T.tr) vs → Calls w A s 89 [.ref a] nil (ScopeOut vs) → ∃ vs, TreesAt g (t.kids.map T.tr) vs ∧ Calls w A s 89 [.ref a] nil (ScopeOut vs) := fun {vs} h c => ⟨vs, h, c⟩
  cases t
  case sym z => cases hl
  case one => cases hl
  case whl p q => exact TreeAt.e2R ht fun u1 u2 b v1 v2 hT hB h1 _ => lift (vs := [v1]) (trees1 h1) (parts_in_scope_w O r (hT.keeps hg) (hB.keeps hg))
  case fr z p q =>
    exact TreeAt.e2R ht fun u1 u2 b v1 v2 hT hB h1 _ => TreeAt.e2s_k h1 fun c u3 u4 d e u5 u6 v4 e1 hC hD _ hv4 => by
      subst e1; exact lift (vs := [v4]) (trees1 hv4) (parts_in_scope_f O r (hT.keeps hg) (hB.keeps hg) (hC.keeps hg) (hD.keeps hg))
  case quo z => exact TreeAt.e1sR ht fun u1 u2 b c u3 u4 hT hB hC => lift (vs := []) trees0 (parts_in_scope_n O r (.inr (.inl ⟨by decide, by decide⟩)) (by decide) (hT.keeps hg))
  case fn z as b => exact TreeAt.e2R ht fun u1 u2 b v1 v2 hT hB _ _ => lift (vs := []) trees0 (parts_in_scope_n O r (.inl (by decide)) (by decide) (hT.keeps hg))
  case arr as b => exact TreeAt.e2R ht fun u1 u2 b v1 v2 hT hB _ _ => lift (vs := []) trees0 (parts_in_scope_n O r (.inl (by decide)) (by decide) (hT.keeps hg))
  case lt z p q => exact TreeAt.e2R ht fun u1 u2 b v1 v2 hT hB _ _ => lift (vs := []) trees0 (parts_in_scope_n O r (.inr (.inr ⟨by decide, by decide, by decide⟩)) (by decide) (hT.keeps hg))
  case cmp p z q => exact TreeAt.e2R ht fun u1 u2 b v1 v2 hT hB _ _ => lift (vs := []) trees0 (parts_in_scope_n O r (.inr (.inr ⟨by decide, by decide, by decide⟩)) (by decide) (hT.keeps hg))
  all_goals
    exact TreeAt.ex_k ht fun a' u1 u2 b vs e1 hT hB h3 => by
      cases e1; exact lift h3 (parts_in_scope_p O r ⟨by decide, by decide, by decide, by decide, by decide, by decide⟩ (hT.keeps hg) (hB.keeps hg))
end
example : Sep := by w_top off; first | walk1 | trivial
section
variable {A : Around} {s : Shared} {x dx la ll lg a lf : Addr} {h1 h2 h3 : Int} {k1 k2 k3 : Tok} {as ls gs : List Value} {na nl ng : Nat} {xs ys : List Str} {Q E : Value → Shared → Prop} {h₀ : Heap} {L : Addr} {m : Str → Option Value} {news : List (Addr × Obj)} {ol : Obj}
theorem note_u (t : T) (F : Fr h₀ L s.heap m) (N : News h₀ L s.heap news) (O : OkH w h₀) (r : Rm A 4) (ht : TreeAt h₀ t.tr (.ref a)) (hl : t.leaf = false) (hne : Apart5 x dx la ll lg)
    (hm : ∀ p ∈ bobs h1 h2 h3 k1 k2 k3 x dx la ll lg as ls gs na nl ng, p ∈ news) (hlf : (lf, ol) ∈ news) (hlo : @LT.lt Nat _ lg lf)
    (hxs : StrsAre as xs) (hys : StrsAre ls ys) (hz : xs.length + 1 ≤ 2 ^ 20) (hz' : ys.length + 1 ≤ 2 ^ 20)
    (k : ∀ as' na' ls' nl' xs' h' tk, StrsAre as' xs' → xs'.length ≤ xs.length + 1 → StrsAre ls' (putAll ys t.told) → Fr h₀ L h' m → News h₀ L h' ((lf, ol) :: bobs h1 h2 h3 k1 k2 k3 x dx la ll lg as' ls' gs na' nl' ng) → Q .none { s with heap := h', toks := tk }) :
    wpAny (model PR w) A (call (.ref 110) [.ref x, .ref a]) Q E s := by
  have hn : ∀ p ∈ bobs h1 h2 h3 k1 k2 k3 x dx la ll lg as ls gs na nl ng, s.heap.get? p.1 = some p.2 ∧ p.1 ≠ L ∧ h₀.get? p.1 = none := fun p hp => N p (hm p hp)
  have off5 : ∀ b, five x dx la ll lg b → b ≠ L ∧ h₀.get? b = none := by
    rintro b (rfl | rfl | rfl | rfl | rfl)
    · exact (hn _ (.head _)).2
    · exact (hn _ (.tail _ (.head _))).2
    · exact (hn _ (.tail _ (.tail _ (.head _)))).2
    · exact (hn _ (.tail _ (.tail _ (.tail _ (.head _))))).2
    · exact (hn _ (.tail _ (.tail _ (.tail _ (.tail _ (.head _)))))).2
  refine wpAny_mono (note_t t ht hl O F.keep r (fun p hp => (hn p hp).1) hne (fun p hp => (hn p hp).2.2) hxs hys hz hz') (fun v s' p => ?_) fun _ _ x => x.elim
  refine ex0_4 p ?_; clear p; intro S hk eK; subst eK; intro gN16; refine ex5_4 gN16 ?_; clear gN16; intro as' na' ls' nl' xs' ho ha hlen hs
  rw [S.to]
  refine ex3_2 (F.ns) ?_; intro oL es ep hL rL
  refine k as' na' ls' nl' xs' s'.heap s'.toks ha hlen hs ⟨⟨oL, es, ep, hk _ _ hL fun q => (off5 _ q).1 rfl, rL⟩, fun b o e => hk b o (F.keep b o e) (fun q => by rw [(off5 _ q).2] at e; cases e), F.above⟩ fun p hp => ?_
  rcases List.mem_cons.mp hp with rfl | hp
  · refine ⟨hk _ _ (N _ hlf).1 fun q => ?_, (N _ hlf).2⟩
    rcases q with q | q | q | q | q
    · have : @Eq Nat lf x := q; unfold Apart5 at hne; k_extra "mE lia"
    · have : @Eq Nat lf dx := q; unfold Apart5 at hne; k_extra "mE lia"
    · have : @Eq Nat lf la := q; unfold Apart5 at hne; k_extra "mE lia"
    · have : @Eq Nat lf ll := q; unfold Apart5 at hne; k_extra "mE lia"
    · have : @Eq Nat lf lg := q; unfold Apart5 at hne; k_extra "mE lia"
  · refine ⟨ho p hp, ?_⟩
    simp only [List.mem_cons, List.not_mem_nil, or_false] at hp
    rcases hp with rfl | rfl | rfl | rfl | rfl
    · exact off5 _ (.inl rfl)
    · exact off5 _ (.inr (.inl rfl))
    · exact off5 _ (.inr (.inr (.inl rfl)))
    · exact off5 _ (.inr (.inr (.inr (.inl rfl))))
    · exact off5 _ (.inr (.inr (.inr (.inr rfl))))
theorem rev_ok {u : Tok} {vs : List Value} (h : vs.length ≤ 2) : SlOk .none .none (.int (-1) u) vs vs.reverse := by
  rcases vs with _ | ⟨a, _ | ⟨b, _ | ⟨c, r⟩⟩⟩
  · exact .rev0 u
  · exact .rev1 u a
  · exact .rev2 u a b
  · simp only [List.length_cons] at h; k_extra "mE lia"
theorem scope_u {E : Value → Shared → Prop} {A : Around} {s : Shared} {a : Addr} {Q : Value → Shared → Prop} {h₀ : Heap} {L : Addr} {m : Str → Option Value} {news : List (Addr × Obj)} (t : T) (F : Fr h₀ L s.heap m) (N : News h₀ L s.heap news) (O : OkH w h₀) (r : Rm A 1) (ht : TreeAt h₀ t.tr (.ref a)) (hl : t.leaf = false)
    (k : ∀ b vs rv h' tk, TreesAt h₀ (t.kids.map T.tr) vs → rv.length ≤ 2 → rv = vs.reverse → vs.length ≤ 2 → (∀ u : Tok, SlOk .none .none (.int (-1) u) vs rv) → IsTup h' b vs.toArray → Fr h₀ L h' m → News h₀ L h' news → Q (.ref b) { s with heap := h', toks := tk }) : wpAny (model PR w) A (call (.ref 89) [.ref a]) Q E s := by
  refine ex1_2 (scope_t t ht hl F.keep (O.keeps F.keep) r) ?_; intro vs hts hc
  have hlen : vs.length ≤ 2 := by rw [TreesAt.length hts, List.length_map]; exact t.kids_len
  refine use0 hc F N fun v h' tk hQ9 _ F' N' => ?_
  refine ex1_2 hQ9 ?_; clear hQ9; intro b e hT
  rw [e]; exact k b vs vs.reverse h' tk hts (by rw [List.length_reverse]; exact hlen) rfl hlen (fun u => rev_ok hlen) hT F' N'
end
example : True := by
 k_with "mcall ref" => ((with_reducible refine (?_ : wpAny _ _ (call (.ref 110) _) _ _ _)); k_dflt (refine' note_u _ ?jf ?jn ?jo ?jr ?jht ?jhl ?jap ?jhm ?jlf ?jlo ?jhs ?jhs' ?jz ?jz' ?_; k_extra "mP4"; (case jht => k_extra "a"); (case jhl => k_extra "a"); (case jap => k_extra "a"); (case jhm => exact all5 (by k_mem) (by k_mem) (by k_mem) (by k_mem) (by k_mem)); (case jlo => k_extra "a"); (case jlf => k_mem); (case jhs => k_extra "a"); (case jhs' => assumption); (case jz => k_extra "a"); (case jz' => assumption)); intro _ _ _ _ _ _ _ _ _ _ _ _; k_extra "msw")
 k_with "mcall ref" => ((with_reducible refine (?_ : wpAny _ _ (call (.ref 89) _) _ _ _)); (refine' scope_u _ ?jf ?jn ?jo ?jr ?jht ?jhl ?_; k_extra "mP4"; (case jht => k_extra "a"); (case jhl => k_extra "a")); intro _ _ _ _ _ _ _ _ _ _ _ _ _; k_extra "msw")
 k_with "mcall ref" => ((with_reducible refine (?_ : wpAny _ _ (call (.ref 113) _) _ _ _)); (refine' bound_u ?jf ?jn ?jo ?jr  ?_; k_extra "mP4"); intro _ _ _ _ _ _ _ _ _ _ _ _ _ _ _ _; k_extra "msw")
 k_with "mE slice" => ((with_reducible refine (?_ : wpAny _ _ (subscriptTail _ (PySem.Expr.Slice _ _ _ _) (Value.ref _) (Value.ref _)) _ _ _)); k_dflt (refine' slice_T ?jF ?jN ?jt ?jk ?jz ?_ ?jhs; k_extra "mFN"; (case jt => k_extra "a"); (case jk => (rename (∀ u : Tok, SlOk _ _ _ _ _) => hq; exact hq _)); (case jz => k_extra "mE om"); (case jhs => with_unfolding_all rfl)); intro _ _ _ _ _; k_extra "msw")
 k_with "mcall builtin:list.extend" => (k_dflt (refine' extend_tup_L ?jF ?jN ?jU ?jb ?jz ?_; k_extra "mFN"; (case jU => k_updF); (case jb => exact News.isTup (by assumption) (by k_mem)); (case jz => k_extra "mE om")); intro _ _ _ N'; (try dsimp only at N'); revert N'; intro _; k_extra "msw")
 exact trivial
noncomputable def BInv (h₀ : Heap) (L x dx la ll lg lf : Addr) (h1 h2 h3 : Int) (k1 k2 k3 : Tok) (m₀ : Str → Option Value) (t : T) (n : Nat) (s s₂ : Shared) : Prop :=
  ∃ q as na ls nl xs ys ts stl rv ks, rv = stl.reverse ∧ Same s s₂ ∧ Fr h₀ L s₂.heap (over [Str.ofString "here"] q m₀) ∧ News h₀ L s₂.heap ((lf, listOf rv.toArray ks) :: bobs h1 h2 h3 k1 k2 k3 x dx la ll lg as ls [] na nl 0) ∧
    TreesAt h₀ (List.map T.tr ts) stl ∧ StrsAre as xs ∧ StrsAre ls ys ∧ putAll ys (ts.flatMap T.locals) = putAll [] t.locals ∧ (ts.map T.sz).sum = n ∧ xs.length + n ≤ t.sz ∧ ys.length + n ≤ t.sz
theorem BInv.intro {h1 h2 h3 : Int} {t : T} {ts : List T} {h₀ : Heap} {L x dx la ll lg lf : Addr} {k1 k2 k3 : Tok} {m₀ m' : Str → Option Value} {s s₂ : Shared} {as ls stl stl' : List Value} {na nl ks : Nat} {xs ys : List Str} {news : List (Addr × Obj)} (S : Same s s₂)
    (F : Fr h₀ L s₂.heap m') (ag : Agree [Str.ofString "here"] m₀ m') (N : News h₀ L s₂.heap news) (h1' : (lf, listOf stl'.toArray ks) ∈ news) (hr : stl' = stl.reverse) (h2' : ∀ p ∈ bobs h1 h2 h3 k1 k2 k3 x dx la ll lg as ls [] na nl 0, p ∈ news)
    (a1 : TreesAt h₀ (List.map T.tr ts) stl) (a2 : StrsAre as xs) (a3 : StrsAre ls ys) (a4 : putAll ys (ts.flatMap T.locals) = putAll [] t.locals) (a5 : xs.length + (ts.map T.sz).sum ≤ t.sz) (a6 : ys.length + (ts.map T.sz).sum ≤ t.sz) :
    BInv h₀ L x dx la ll lg lf h1 h2 h3 k1 k2 k3 m₀ t (ts.map T.sz).sum s s₂ :=
  exI11 m' as na ls nl xs ys ts stl stl' ks ⟨hr, S, by rw [← ag.eq]; exact F, fun p hp => by
    rcases List.mem_cons.mp hp with rfl | hp
    · exact N _ h1'
    · exact N _ (h2' p hp), a1, a2, a3, a4, rfl, a5, a6⟩
noncomputable def BOut (s : Shared) (xs : List Str) (v : Value) (h' : Heap) : Prop :=
  ∃ r la ll lg ls nl, v = .ref r ∧ h'.get? r = some (tupObj [.ref la, .ref ll, .ref lg]) ∧ h'.get? ll = some (listOf ls.toArray nl) ∧ StrsAre ls xs ∧ s.heap.get? r = none ∧ s.heap.get? ll = none
theorem T.leaf_at {t : T} {h : Heap} {v : Value} (hl : t.leaf = true) (ht : TreeAt h t.tr v) : ∃ a kd t1 v2, v = .ref a ∧ IsTup h a (List.toArray [.str kd t1, v2]) ∧ (kd == Str.ofString "expr") = false := by
  rcases T.leaf_in hl with rfl | ⟨x, rfl⟩
  · exact TreeAt.one_k ht fun a t1 t2 e hT => ⟨a, _, _, _, e, hT, by decide⟩
  · exact TreeAt.sym_k ht fun a t1 t2 e hT => ⟨a, _, _, _, e, hT, by decide⟩
theorem T.ex_in {t : T} (hl : t.leaf = false) : ∃ hd ps, t.tr = .ex hd ps ∧ (hd == Str.ofString "in") = false := by
  cases t <;> first | exact ⟨_, _, rfl, by decide⟩ | exact (Bool.false_ne_true hl.symm).elim
theorem T.node_in {t : T} {h : Heap} {v : Value} (hl : t.leaf = false) (ht : TreeAt h t.tr v) : ∃ a t1 hd t2 b, v = .ref a ∧ IsTup h a (List.toArray [.str (Str.ofString "expr") t1, .str hd t2, .ref b]) ∧ (hd == Str.ofString "in") = false := by
  refine ex2_2 (T.ex_in hl) ?_; intro hd ps e hn
  exact TreeAt.ex_k (e ▸ ht) fun a t1 t2 b _ e hT _ _ => ⟨a, t1, _, t2, b, e, hT, hn⟩
theorem T.node_at {t : T} {h : Heap} {v : Value} (hl : t.leaf = false) (ht : TreeAt h t.tr v) : ∃ a t1 hd t2 b, v = .ref a ∧ IsTup h a (List.toArray [.str (Str.ofString "expr") t1, .str hd t2, .ref b]) := by
  refine ex2_2 (T.ex_in hl) ?_; intro hd ps e _
  exact TreeAt.ex_k (e ▸ ht) fun a t1 t2 b _ e hT _ _ => ⟨a, t1, _, t2, b, e, hT⟩
theorem TreesAt.append {h : Heap} : ∀ {ts ts' : List Tr} {vs vs' : List Value}, TreesAt h ts vs → TreesAt h ts' vs' → TreesAt h (ts ++ ts') (vs ++ vs')
  | [], ts', vs, vs', e, e' => by simp only [TreesAt.e1, TreesAt.e2] at e; rw [e]; exact e'
  | t :: ts, ts', vs, vs', e, e' => by
    simp only [TreesAt.e1, TreesAt.e2, List.cons_append] at e ⊢
    refine ex2_3 e ?_; clear e; intro v r eK; subst eK; intro h1 h2
    exact ⟨v, r ++ vs', rfl, h1, TreesAt.append h2 e'⟩
theorem putAll_append (a b c : List Str) : putAll a (b ++ c) = putAll (putAll a b) c := by unfold putAll; rw [List.foldl_append]
theorem T.sum_len (ts : List T) : ts.length ≤ (ts.map T.sz).sum := by
  induction ts with
  | nil => simp
  | cons a r ih => have := a.sz_kids; simp only [List.length_cons, List.map_cons, List.sum_cons]; k_extra "mE lia"
theorem bound_names_c {A : Around} {s : Shared} {v : Value} (t : T) (O : OkH w s.heap) (r : Rm A 6) (ht : TreeAt s.heap t.tr v) (hz : t.sz < 2 ^ 19) : Calls w A s 124 [v] nil (BOut s (putAll [] t.locals)) := by
  refine' enter [((Str.ofString "tree"), v)] O r ?k6 ?k7 ?k9 ?kB ?_ ?c1 ?c2 ?c3 ?c4 ?c5; k_extra "eN"
  have N : News s.heap L' s₁.heap [] := News.nil
  have X := OkH.X O; have Tp := OkH.top O
  k_steps
  rename_i h1 h2 h3 k1 k2 k3 x dx la ll lg h6 tk2 ap lf h5 l1 g1 g2 F1 N1
  have hlo : @LT.lt Nat _ lg lf := ALt.lt l1 _ (.tail _ (.tail _ (.tail _ (.tail _ (.head _)))))
  clear l1
  have hap := ap
  unfold Apart5 at hap
  refine while_rule (BInv s.heap L' x dx la ll lg lf h1 h2 h3 k1 k2 k3 (fun y => if y = Str.ofString "found" then some (Value.ref x) else if y = Str.ofString "left" then some (Value.ref lf) else List.lookup y [(Str.ofString "tree", v)].reverse) t · s) t.sz ?_ ?_
  · rw [show t.sz = ([t].map T.sz).sum from by simp]
    exact BInv.intro (stl := [v]) (xs := []) (ys := []) S F1 (Agree.refl _ _) N1 (by k_mem) rfl (all5 (by k_mem) (by k_mem) (by k_mem) (by k_mem) (by k_mem)) (by simp only [List.map_cons, List.map_nil, TreesAt.e1, TreesAt.e2]; exact ⟨_, _, rfl, ht, rfl⟩) .nil .nil (by simp) (by simp) (by simp)
  · clear F1 N1 S
    intro n s₂ gR17; k_extra "qD"; refine ex11_11 gR17 ?_; clear gR17; intro q as na ls nl xs ys ts stl rv ks hrv S2 F N hts hxs hys hpa hn hzx hzy
    rcases ts with _ | ⟨t', ts⟩
    · simp only [List.map_nil, TreesAt.e1, TreesAt.e2] at hts
      subst hts
      subst hrv
      have hll := (N _ (.tail _ (.tail _ (.tail _ (.tail _ (.head _)))))).2.2
      k_steps
      rename_i l3 h7 l4 D3 h8 F3 N3 l5
      refine post_end S2 F3 ⟨D3, la, ll, lg, ls, nl, rfl, (N3 _ (.head _)).1, News.get N3 (by k_mem), ?_, (N3 _ (.head _)).2.2, hll⟩
      rw [← hpa]; exact hys
    · skip
      k_extra "qB"; refine TreesAt.cons_k hts ?_; clear hts; intro v' rest eK ht' hts; subst eK; k_extra "qC"
      rw [List.reverse_cons] at hrv
      obtain ⟨rr, hrr⟩ : ∃ rr, rr = rest.reverse := ⟨_, rfl⟩
      rw [← hrr] at hrv
      subst hrv
      simp only [List.map_cons, List.sum_cons, List.flatMap_cons] at hn hpa
      have hk1 := t'.sz_kids
      have hk2 := t'.sz_told
      have hrl : rest.length < 2 ^ 19 := by
        have := TreesAt.length hts
        rw [List.length_map] at this
        have hh := T.sum_len ts
        k_extra "mE lia"
      have hzx' : xs.length + 1 ≤ 2 ^ 20 := by k_extra "mE lia"
      have hzy' : ys.length + 1 ≤ 2 ^ 20 := by k_extra "mE lia"
      cases hl : t'.leaf with
      | true =>
        refine ex4_3 (T.leaf_at hl ht') ?_; intro a kd t1 v2 eK; subst eK; intro hT hkd
        have hrz : rr.length < 2 ^ 19 := by rw [hrr, List.length_reverse]; k_extra "mE lia"
        k_steps
        refine ⟨(ts.map T.sz).sum, by k_extra "mE lia", BInv.intro S2 (by assumption) (Agree.set (Agree.over _) rfl) (by assumption) (by k_mem) hrr (all5 (by k_mem) (by k_mem) (by k_mem) (by k_mem) (by k_mem)) hts hxs hys ?_ (by k_extra "mE lia") (by k_extra "mE lia")⟩
        rw [← hpa, T.locals_kids t', (T.leaf_kids hl).1, (T.leaf_kids hl).2]; rfl
      | false =>
        refine ex5_2 (T.node_at hl ht') ?_; intro a t1 hd t2 b eK; subst eK; intro hT
        have hrz : rr.length < 2 ^ 19 := by rw [hrr, List.length_reverse]; k_extra "mE lia"
        k_steps
        rename_i l1' h1' l2' n1' h2' h3' tk3 as2 na2 ls2 nl2 xs2 h4' tk4 ha2 hlen2 hs2 b2 vs2 rv2 h5' tk5 hts2 hrl2 hrv2 hvl2 hsl2 hT2 D2 h6' ne2 n2' h7' F3 N3
        refine ⟨((t'.kids ++ ts).map T.sz).sum, ?_, BInv.intro (stl := vs2 ++ rest) S2 F3 (Agree.set (Agree.over _) rfl) N3 (by k_mem) ?_ (all5 (by k_mem) (by k_mem) (by k_mem) (by k_mem) (by k_mem)) ?_ ha2 hs2 ?_ ?_ ?_⟩
        · rw [List.map_append, List.sum_append]; k_extra "mE lia"
        · rw [hrr, hrv2, List.reverse_append]
        · rw [List.map_append]; exact TreesAt.append hts2 hts
        · rw [← hpa, T.locals_kids t', List.flatMap_append, putAll_append, putAll_append, putAll_append]
        · rw [List.map_append, List.sum_append]; k_extra "mE lia"
        · rw [List.map_append, List.sum_append]
          have := putAll_len ys t'.told
          k_extra "mE lia"
example : Sep := by w_top off; first | walk1 | trivial
noncomputable def UsedOk (w : World) (t : T) (n : Nat) : Prop := ∀ (A : Around) (s : Shared) (v : Value), OkH w s.heap → Rm A n → TreeAt s.heap t.tr v → Calls w A s 205 [v] nil (Fresh s t.used)
section
variable {A : Around} {s : Shared} {a b o : Addr} {va vb os : List Value} {na nb no n : Nat} {xs ys : List Str} {xss : List (List Str)} {v : Value} {Q E : Value → Shared → Prop} {h₀ : Heap} {L : Addr} {m : Str → Option Value} {news : List (Addr × Obj)}
theorem used_u (t : T) (F : Fr h₀ L s.heap m) (N : News h₀ L s.heap news) (O : OkH w h₀) (r : Rm A n) (ht : TreeAt h₀ t.tr v) (hU : UsedOk w t n)
    (k : ∀ l vs n h' tk, StrsAre vs t.used → NeAll l news → Fr h₀ L h' m → News h₀ L h' ((l, listOf vs.toArray n) :: news) → Q (.ref l) { s with heap := h', toks := tk }) : wpAny (model PR w) A (call (.ref 205) [v]) Q E s :=
  useL (hU _ _ _ (O.keeps F.keep) r (TreeAt.keeps F.keep _ ht)) F N k
theorem bnames_u {E : Value → Shared → Prop} {A : Around} {s : Shared} {v : Value} {Q : Value → Shared → Prop} {h₀ : Heap} {L : Addr} {m : Str → Option Value} {news : List (Addr × Obj)} (t : T) (F : Fr h₀ L s.heap m) (N : News h₀ L s.heap news) (O : OkH w h₀) (r : Rm A 6) (ht : TreeAt h₀ t.tr v) (hz : t.sz < 2 ^ 19)
    (k : ∀ r la ll lg ls nl h' tk, StrsAre ls (putAll [] t.locals) → ls.length ≤ 2 ^ 19 → NeAll r news → NeAll ll news → Fr h₀ L h' m → News h₀ L h' ((r, tupObj [.ref la, .ref ll, .ref lg]) :: (ll, listOf ls.toArray nl) :: news) → Q (.ref r) { s with heap := h', toks := tk }) : wpAny (model PR w) A (call (.ref 124) [v]) Q E s := by
  refine use0 (bound_names_c t (O.keeps F.keep) r (TreeAt.keeps F.keep _ ht) hz) F N fun v h' tk hQ9 le F' N' => ?_
  refine ex6_6 hQ9 ?_; clear hQ9; intro r la ll lg ls nl e hr hl hs o1 o2
  subst e
  have hlen : ls.length ≤ 2 ^ 19 := by
    rw [StrsAre.length hs]
    have h1 := putAll_len [] t.locals
    have h2 := t.locals_len
    simp only [List.length_nil] at h1
    k_extra "mE lia"
  exact k r la ll lg ls nl h' tk hs hlen (News.neOf N o1) (News.neOf N o2) F' (News.cons F (News.cons F N' o2 hl) o1 hr)
theorem without_u (F : Fr h₀ L s.heap m) (N : News h₀ L s.heap news) (O : OkH w h₀) (r : Rm A 1)
    (ha : s.heap.get? a = some (listOf va.toArray na)) (hsa : StrsAre va xs) (hb : s.heap.get? b = some (listOf vb.toArray nb)) (hsb : StrsAre vb ys) (hz : xs.length ≤ 2 ^ 20)
    (k : ∀ l vs n h' tk, StrsAre vs (wout xs ys) → NeAll l news → Fr h₀ L h' m → News h₀ L h' ((l, listOf vs.toArray n) :: news) → Q (.ref l) { s with heap := h', toks := tk }) : wpAny (model PR w) A (call (.ref 143) [.ref a, .ref b]) Q E s :=
  useL (without_c (O.keeps F.keep) r ha hsa hb hsb hz) F N k
theorem joined_u (F : Fr h₀ L s.heap m) (N : News h₀ L s.heap news) (O : OkH w h₀) (r : Rm A 2)
    (ha : s.heap.get? a = some (listOf va.toArray na)) (hsa : ListsAt s.heap va xss) (hz : (xss.map List.length).sum ≤ 2 ^ 20)
    (k : ∀ l vs n h' tk, StrsAre vs (joinAll xss) → NeAll l news → Fr h₀ L h' m → News h₀ L h' ((l, listOf vs.toArray n) :: news) → Q (.ref l) { s with heap := h', toks := tk }) : wpAny (model PR w) A (call (.ref 150) [.ref a]) Q E s :=
  useL (joined_c (O.keeps F.keep) r ha hsa hz) F N k
theorem sub_N1 {E : Value → Shared → Prop} {prog : Program} {value : Expr} {p : Pos} {A : Around} {s : Shared} {a : Addr} {h₀ : Heap} {L : Addr} {news : List (Addr × Obj)} {c : Nat} {y x : Value} {l : List Value} {u : Tok} {Q : Value → Shared → Prop} (N : News h₀ L s.heap news) (hm : (a, tupObj (y :: x :: l)) ∈ news) (h : Q x s) :
    wpAny (model prog w) A (subscriptTail value (.Constant (.int 1) c p) (.ref a) (.int 1 u)) Q E s := by
  have hT : IsTup s.heap a (List.toArray (y :: x :: l)) := News.isTup N hm
  refine item_tupleT hT (by k_extra "mE lia") (by k_extra "mE lia") (j := 1) ?_ (by rfl) h (by with_unfolding_all rfl)
  simp [seqIndex?]; k_extra "mE lia"
theorem add_L {E : Value → Shared → Prop} {A : Around} {s : Shared} {a b : Addr} {va vb : List Value} {na nb : Nat} {Q : Value → Shared → Prop} {h₀ : Heap} {L : Addr} {m : Str → Option Value} {news : List (Addr × Obj)} (F : Fr h₀ L s.heap m) (N : News h₀ L s.heap news) (ha : s.heap.get? a = some (listOf va.toArray na)) (hb : s.heap.get? b = some (listOf vb.toArray nb)) (hz : va.length + vb.length ≤ 2 ^ 23)
    (k : ∀ l h', NeAll l news → Fr h₀ L h' m → News h₀ L h' ((l, listOf (List.toArray (va ++ vb)) 0) :: news) → Q (.ref l) { s with heap := h' }) : wpAny (model PR w) A (binaryOp .Add (.ref a) (.ref b)) Q E s := by
  refine add_lists F N ⟨_, ha, rfl, na, rfl⟩ ⟨_, hb, rfl, nb, rfl⟩ (fun h' F' N' => k _ h' ?_ F' N') (by rw [sizeLine_eq]; k_extra "mE lia")
  exact neAll_of fun p hp e => Nat.lt_irrefl _ (show s.heap.objs.size < s.heap.objs.size from e ▸ Heap.lt_size (N p hp).1)
end
example : True := by
 k_with "mcall ref" => ((with_reducible refine (?_ : wpAny _ _ (call (.ref 205) _) _ _ _)); (refine' used_u _ ?jf ?jn ?jo ?jr ?jht ?jhu ?_; k_extra "mP3"; (case jht => k_extra "a"); (case jhu => k_extra "a"); (case jr => k_extra "mE rm")); intro _ _ _ _ _ _ _ _ _; k_extra "msw")
 k_with "mcall ref" => ((with_reducible refine (?_ : wpAny _ _ (call (.ref 124) _) _ _ _)); (refine' bnames_u _ ?jf ?jn ?jo ?jr ?jht ?jhz ?_; k_extra "mP3"; (case jht => k_extra "a"); (case jhz => k_extra "mao"); (case jr => k_extra "mE rm")); intro _ _ _ _ _ _ _ _ _ _ _ _ _ _; k_extra "msw")
 k_with "mcall ref" => ((with_reducible refine (?_ : wpAny _ _ (call (.ref 143) _) _ _ _)); k_dflt (refine' without_u ?jf ?jn ?jo ?jr ?ja ?jsa ?jb ?jsb ?jz ?_; k_extra "mP3"; (case ja => k_extra "mgt"); (case jsa => k_extra "man"); (case jb => k_extra "mgt"); (case jsb => first | assumption | exact .nil | exact StrsAre.append (by first | assumption | exact .nil) (by first | assumption | exact .nil)); (case jz => k_extra "mao"); (case jr => k_extra "mE rm")); intro _ _ _ _ _ _ _ _ _; k_extra "msw")
 k_with "mE sub" => refine sub_N1 (by assumption) (by k_mem) ?_
 k_with "mbinaryOp Add ref ref" => ((refine' add_L ?jf ?jn ?ja ?jb ?jz ?_; k_extra "mP2"; (case ja => k_extra "mgt"); (case jb => k_extra "mgt"); (case jz => first | assumption | k_extra "mE om" | (simp only [List.length_cons, List.length_nil]; k_extra "mE om"))); intro _ _ _ _ _; k_extra "msw")
 exact trivial
theorem scope_uses_c {A : Around} {s : Shared} {v : Value} {o : Addr} {os : List Value} {no n : Nat} {xs : List Str} (t : T) (hU : UsedOk w t n) (O : OkH w s.heap) (r : Rm A (n + 7)) (ht : TreeAt s.heap t.tr v) (ho : s.heap.get? o = some (listOf os.toArray no)) (hs : StrsAre os xs)
    (hz : t.sz < 2 ^ 19) (hz' : os.length ≤ 2 ^ 20) : Calls w A s 157 [v, .ref o] nil (Fresh s (scUses t.used t xs)) := by
  refine' enter [((Str.ofString "tree"), v), ((Str.ofString "own"), .ref o)] O r ?k6 ?k7 ?k9 ?kB ?_ ?c1 ?c2 ?c3 ?c4 ?c5; k_extra "eN"
  have N : News s.heap L' s₁.heap [] := News.nil
  have X := OkH.X O; have Tp := OkH.top O
  have hul : t.used.length ≤ 2 ^ 20 := by have := t.used_len; k_extra "mE lia"
  k_steps
  exact end_list S (by assumption) (by assumption) (by k_mem) (by assumption)
example : Sep := by w_top off; first | walk1 | trivial
section
open PySem.SeqAt
theorem tup_eq_second (l b : Addr) (x0 x1 x2 y0 y1 y2 : Value) (n n2 : Nat) (dd dd2 : Option Addr) (sl sl2 : Array (Option Value)) :
    Meets (Builtin.«tuple.__eq__» ⟨[.ref l, .ref b], []⟩)
      (fun A R s => s.heap.get? l = some { cls := .type "tuple", dict := dd, data := .seq #[x0, x1, x2] n, slots := sl } ∧ s.heap.get? b = some { cls := .type "tuple", dict := dd2, data := .seq #[y0, y1, y2] n2, slots := sl2 } ∧
        EqAt A.in1 s x0 y0 true ∧ EqAt A.in1 s x1 y1 false ∧ R (.ok (.ret (.bool false))) s) :=
  .of_wp fun prog w A R s h => by
    obtain ⟨hp, g, d, tk, os⟩ := s; obtain ⟨hl, hb, he0, he1, h⟩ := h
    have f2 := AutoSeq1.sub_tuple_tuple
    wp_walk using wpAny_loadPart' hl, wpAny_loadPart' hb, wpAny_forIn_list _ (fun rest b s' => b.1 = none ∧ s' = ⟨hp, g, d, tk, os⟩ ∧ (rest = [(x0, y0), (x1, y1), (x2, y2)] ∨ rest = [(x1, y1), (x2, y2)])) _
    case turn =>
      rintro ⟨y, x⟩ rest b s' ⟨hb', rfl, hz | hz⟩
      · injection hz with h1 h2
        injection h1 with h3 h4
        subst h2 h3 h4
        refine wpAny_bind (he0 prog w _ _ ?_)
        wp_walk
        exact ⟨rfl, rfl, .inr rfl⟩
      · injection hz with h1 h2
        injection h1 with h3 h4
        subst h2 h3 h4
        refine wpAny_bind (he1 prog w _ _ ?_)
        wp_walk
        exact ⟨_, rfl, h⟩
    case fin =>
      rintro ⟨b1, b2⟩ s' ⟨hb', rfl, hz | hz⟩ <;> cases hz
    case h => exact ⟨rfl, rfl, .inl rfl⟩
end
section
open PySem.SeqAt
variable {A : Around} {E : Value → Shared → Prop} {s : Shared} {a c b d : Addr} {t1 t2 t3 t4 : Tok} {kd x hh hd : Str} {v2 : Value} {Q : Value → Shared → Prop} {h₀ : Heap} {L : Addr} {m : Str → Option Value}
theorem eq_self {E : Value → Shared → Prop} {hd : Str} {A : Around} {s : Shared} {a b : Addr} {t1 t2 : Tok} {Q : Value → Shared → Prop} {h₀ : Heap} {L : Addr} {m : Str → Option Value} {k : Nat} (r : Rm A k) (F : Fr h₀ L s.heap m) (hT : IsTup h₀ a (List.toArray [.str (Str.ofString "expr") t1, .str hd t2, .ref b])) (h : Q (.bool true) s) : wpAny (model PR w) A (compareOp .Eq (.ref a) (.ref a)) Q E s :=
  eq_tupleAt (e := fun _ => true) (hT.keeps F.keep) (hT.keeps F.keep) r.units (fun j h1 h2 => EqAt.same _) h
theorem eq_sym {E : Value → Shared → Prop} {x hh : Str} {A : Around} {s : Shared} {a c d : Addr} {t1 t2 t3 t4 : Tok} {Q : Value → Shared → Prop} {h₀ : Heap} {L : Addr} {m : Str → Option Value} {k : Nat} (r : Rm A k) (F : Fr h₀ L s.heap m) (hT : IsTup h₀ a (List.toArray [.str (Str.ofString "sym") t1, .str x t2])) (hC : IsTup h₀ c (List.toArray [.str (Str.ofString "expr") t3, .str hh t4, .ref d])) (h : Q (.bool false) s) : wpAny (model PR w) A (compareOp .Eq (.ref a) (.ref c)) Q E s := by
  refine eq_tupleAt (e := fun j => if j = 0 then false else x == hh) (hT.keeps F.keep) (hC.keeps F.keep) r.units (fun j h1 h2 => ?_) (by simpa using h)
  rcases j with _ | _ | j
  · exact EqAt.str_str _ _ _ _
  · exact EqAt.str_str _ _ _ _
  · simp at h1; k_extra "mE lia"
theorem eq_kw {E : Value → Shared → Prop} {hh hd : Str} {A : Around} {s : Shared} {a c b d : Addr} {t1 t2 t3 t4 : Tok} {Q : Value → Shared → Prop} {h₀ : Heap} {L : Addr} {m : Str → Option Value} {k : Nat} (r : Rm A k) (F : Fr h₀ L s.heap m) (hT : IsTup h₀ a (List.toArray [.str (Str.ofString "expr") t1, .str hd t2, .ref b])) (hC : IsTup h₀ c (List.toArray [.str (Str.ofString "expr") t3, .str hh t4, .ref d])) (hn : (hd == hh) = false) (h : Q (.bool false) s) : wpAny (model PR w) A (compareOp .Eq (.ref a) (.ref c)) Q E s := by
  obtain ⟨⟨cls, dd, data, sl⟩, ho, hc, n, hd⟩ := hT.keeps F.keep
  obtain ⟨⟨cls2, dd2, data2, sl2⟩, ho2, hc2, n2, hd2⟩ := hC.keeps F.keep
  simp only at hc hd hc2 hd2
  subst hc hd hc2 hd2
  exact richCompare_meets_room (op := .Eq) ⟨_, ho, rfl⟩ ⟨_, ho2, rfl⟩ PySem.F.slot_tuple_eq PySem.F.entry_tuple_eq (PySem.F.args_tuple_eq_2 _ _) (tup_eq_second a c _ _ _ _ _ _ n n2 dd dd2 sl sl2)
    ⟨ho, ho2, EqAt.str_str _ _ _ _, hn ▸ EqAt.str_str _ _ _ _, ⟨(fun x => nomatch x), h⟩⟩ r.units
end
example : True := by
 k_with "mcompareOp Eq ref ref" => k_dflt (first | refine eq_self (by assumption) (by assumption) (by assumption) ?_ | refine eq_sym (by assumption) (by assumption) (by assumption) (by assumption) ?_ | refine eq_kw (by assumption) (by assumption) (by assumption) (by assumption) (by decide) ?_)
 exact trivial
example : Sep := by w_top off; first | walk1 | trivial
section
variable {A : Around} {s : Shared}
theorem used_sym (x : Str) : UsedOk w (.sym x) 3 := by
  intro A s v O r ht
  k_extra "qB"; (first | refine TreeAt.sym_k ht ?_ | refine TreeAt.one_k ht ?_); clear ht; intro a t1 t2 eK hT; subst eK; k_extra "qC"
  refine' enter [((Str.ofString "tree"), .ref a)] O r ?k6 ?k7 ?k9 ?kB ?_ ?c1 ?c2 ?c3 ?c4 ?c5; k_extra "eN"
  have N : News s.heap L' s₁.heap [] := News.nil
  have X := OkH.X O; have Tp := OkH.top O
  k_steps
  exact end_list S (by assumption) (by assumption) (by k_mem) (.cons _ _ .nil)
theorem used_one : UsedOk w .one 3 := by
  intro A s v O r ht
  k_extra "qB"; (first | refine TreeAt.sym_k ht ?_ | refine TreeAt.one_k ht ?_); clear ht; intro a t1 t2 eK hT; subst eK; k_extra "qC"
  refine' enter [((Str.ofString "tree"), .ref a)] O r ?k6 ?k7 ?k9 ?kB ?_ ?c1 ?c2 ?c3 ?c4 ?c5; k_extra "eN"
  have N : News s.heap L' s₁.heap [] := News.nil
  have X := OkH.X O; have Tp := OkH.top O
  k_steps
  exact end_list S (by assumption) (by assumption) (by k_mem) .nil
end
example : Sep := by w_top off; first | walk1 | trivial
noncomputable def dfl (as : List Ar) : List Str := as.filterMap (·.2)
noncomputable def HInv (h₀ : Heap) (L fd lf : Addr) (m₀ : Str → Option Value) (as : List Ar) (n : Nat) (s s₂ : Shared) : Prop :=
  ∃ q fs kf ls kl acc as', Same s s₂ ∧ Fr h₀ L s₂.heap (over [Str.ofString "here", Str.ofString "head", Str.ofString "parts"] q m₀) ∧ News h₀ L s₂.heap [(lf, listOf ls.toArray kl), (fd, listOf fs.toArray kf)] ∧ StrsAre fs acc ∧ TreesAt h₀ (List.map Ar.tr as') ls ∧
    putAll acc (dfl as') = putAll [] (dfl as) ∧ kwSum as' = n ∧ acc.length + kwSum as' ≤ 300
theorem HInv.intro {as as' : List Ar} {h₀ : Heap} {L fd lf : Addr} {m₀ m' : Str → Option Value} {s s₂ : Shared} {news : List (Addr × Obj)} {fs ls : List Value} {kf kl : Nat} {acc : List Str} (S : Same s s₂) (F : Fr h₀ L s₂.heap m') (ag : Agree [Str.ofString "here", Str.ofString "head", Str.ofString "parts"] m₀ m') (N : News h₀ L s₂.heap news)
    (h1 : (lf, listOf ls.toArray kl) ∈ news) (h2 : (fd, listOf fs.toArray kf) ∈ news) (hfs : StrsAre fs acc) (hls : TreesAt h₀ (List.map Ar.tr as') ls) (hpa : putAll acc (dfl as') = putAll [] (dfl as)) (hz : acc.length + kwSum as' ≤ 300) : HInv h₀ L fd lf m₀ as (kwSum as') s s₂ :=
  ⟨m', fs, kf, ls, kl, acc, as', S, by rw [← ag.eq]; exact F, fun p hp => by
    rcases List.mem_cons.mp hp with rfl | hp
    · exact N _ h1
    · rw [List.mem_singleton.mp hp]; exact N _ h2, hfs, hls, hpa, rfl, hz⟩
theorem kwSum_len (as : List Ar) : as.length ≤ kwSum as ∧ kwSum as ≤ 2 * as.length := by
  unfold kwSum
  induction as with
  | nil => simp
  | cons a r ih => simp only [List.length_cons, List.map_cons, List.sum_cons]; split <;> k_extra "mE lia"
noncomputable def HFirst (h₀ : Heap) (L fd lf : Addr) (m₀ : Str → Option Value) (v : Value) (as : List Ar) (n : Nat) (s s₂ : Shared) : Prop :=
  ∃ kf kl, n = kwSum as + 1 ∧ Same s s₂ ∧ Fr h₀ L s₂.heap m₀ ∧ News h₀ L s₂.heap [(lf, listOf (List.toArray [v]) kl), (fd, listOf (List.toArray []) kf)]
theorem HFirst.intro {as : List Ar} {h₀ : Heap} {L fd lf : Addr} {m₀ : Str → Option Value} {v : Value} {s s₂ : Shared} {news : List (Addr × Obj)} {kf kl : Nat} (S : Same s s₂) (F : Fr h₀ L s₂.heap m₀) (N : News h₀ L s₂.heap news)
    (h1 : (lf, listOf (List.toArray [v]) kl) ∈ news) (h2 : (fd, listOf (List.toArray []) kf) ∈ news) : HFirst h₀ L fd lf m₀ v as (kwSum as + 1) s s₂ :=
  ⟨kf, kl, rfl, S, F, fun p hp => by
    rcases List.mem_cons.mp hp with rfl | hp
    · exact N _ h1
    · rw [List.mem_singleton.mp hp]; exact N _ h2⟩
theorem kwSum_snoc (as : List Ar) (x : Str) : kwSum (as ++ [(x, none)]) = kwSum as + 1 := by simp [kwSum]
theorem dfl_snoc (as : List Ar) (x : Str) : dfl (as ++ [(x, none)]) = dfl as := by simp [dfl]
section
variable {A : Around} {s : Shared} {a b c d e : Addr} {t1 t2 t3 t4 t5 t6 : Tok} {x : Str} {vs : List Value} {v2 : Value}
theorem head_uses_c {ps : List Value} {as : List Ar} (O : OkH w s.heap) (r : Rm A 5) (hA : IsTup s.heap a (List.toArray [.str (Str.ofString "expr") t1, .str (Str.ofString "function") t2, .ref b])) (hB : IsTup s.heap b (List.toArray [.ref c, v2]))
    (hC : IsTup s.heap c (List.toArray [.str (Str.ofString "expr") t3, .str (Str.ofString "call") t4, .ref d]))
    (hD : IsTup s.heap d (List.toArray (.ref e :: ps))) (hE : IsTup s.heap e (List.toArray [.str (Str.ofString "sym") t5, .str x t6])) (hps : TreesAt s.heap (as.map Ar.tr) ps) (hz : as.length ≤ 100) :
    Calls w A s 169 [.ref a, .ref c] nil (Fresh s (putAll [] (dfl as))) := by
  refine' enter [((Str.ofString "tree"), .ref a), ((Str.ofString "call"), .ref c)] O r ?k6 ?k7 ?k9 ?kB ?_ ?c1 ?c2 ?c3 ?c4 ?c5; k_extra "eN"
  have N : News s.heap L' s₁.heap [] := News.nil
  have hlen := TreesAt.length hps
  rw [List.length_map] at hlen
  have hzl : ps.length < 2 ^ 19 := by k_extra "mE lia"
  have hks := kwSum_len as
  have X := OkH.X O; have Tp := OkH.top O
  k_steps
  rename_i fd g1 l1 lf g2 l2 g3 g4 F N
  refine while_rule (fun n s₂ => HFirst s.heap L' fd lf (fun y => if y = Str.ofString "found" then some (.ref fd) else if y = Str.ofString "left" then some (.ref lf) else List.lookup y [(Str.ofString "tree", Value.ref a), (Str.ofString "call", Value.ref c)].reverse) (.ref c) as n s s₂ ∨
    HInv s.heap L' fd lf (fun y => if y = Str.ofString "found" then some (.ref fd) else if y = Str.ofString "left" then some (.ref lf) else List.lookup y [(Str.ofString "tree", Value.ref a), (Str.ofString "call", Value.ref c)].reverse) as n s s₂) (kwSum as + 1) ?_ ?_
  · exact .inl (HFirst.intro S F N (by k_mem) (by k_mem))
  · clear F N
    intro n s₂ hI gGk hGk; rcases hI with hI | hI
    · refine ex2_4 hI ?_; clear hI; intro kf kl eK; subst eK; intro S2 F N
      k_steps
      refine ⟨kwSum as, by k_extra "mE lia", .inr (HInv.intro S2 (by assumption) (Agree.set (Agree.set (Agree.set (Agree.refl _ _) rfl) rfl) rfl) (by assumption) (by k_mem) (by k_mem) .nil hps rfl ?_)⟩
      simp only [List.length_nil]; k_extra "mE lia"
    · refine ex7_8 hI ?_; clear hI; intro q fs kf ls kl acc as' S2 F N hfs hls hpa hn hz'
      rcases as' with _ | ⟨⟨x, (_ | y)⟩, as'⟩
      · simp only [List.map_nil, TreesAt.e1, TreesAt.e2] at hls
        subst hls
        k_steps
        exact end_list S2 (by assumption) (by assumption) (by k_mem) (show StrsAre fs _ by rw [← hpa]; exact hfs)
      · skip
        k_extra "qB"; refine TreesAt.cons_k hls ?_; clear hls; intro v rs eK gA1 hls; subst eK; (first | refine TreeAt.sym_k gA1 ?_ | refine TreeAt.one_k gA1 ?_); clear gA1; intro a1 u1 u2 eK hT1; subst eK; k_extra "qC"
        have hrs := TreesAt.length hls
        rw [List.length_map] at hrs
        have hk2 := kwSum_len as'
        have hk3 : kwSum ((x, none) :: as') = 1 + kwSum as' := by simp [kwSum]
        have hzr : rs.length < 2 ^ 19 := by k_extra "mE lia"
        k_steps
        refine ⟨kwSum as', by k_extra "mE lia", .inr (HInv.intro S2 (by assumption) (Agree.set (Agree.set (Agree.set (Agree.over _) rfl) rfl) rfl) (by assumption) (by k_mem) (by k_mem) hfs hls hpa (by k_extra "mE lia"))⟩
      · skip
        k_extra "qB"; refine TreesAt.cons_k hls ?_; clear hls; intro v rs eK gA1 hls; subst eK; (first | (refine TreeAt.e2sR gA1 ?_; clear gA1; intro u1 u2 b1 a2 u3 u4 v3 hT1 hB1 hT2 gA2) | (refine TreeAt.e2s_k gA1 ?_; clear gA1; intro a1 u1 u2 b1 a2 u3 u4 v3 eK hT1 hB1 hT2 gA2; subst eK)); (first | refine TreeAt.sym_k gA2 ?_ | refine TreeAt.one_k gA2 ?_); clear gA2; intro a3 u5 u6 eK hT3; subst eK; k_extra "qC"
        have hrs := TreesAt.length hls
        rw [List.length_map] at hrs
        have hk2 := kwSum_len as'
        have hk3 : kwSum ((x, some y) :: as') = 2 + kwSum as' := by simp [kwSum]
        have hzr : rs.length < 2 ^ 19 := by k_extra "mE lia"
        have hY : TreeAt s.heap (T.sym y).tr (.ref a3) := by simp only [T.tr_e, TreeAt.e1, TreeAt.e2, TreeAt.e3]; exact ⟨_, _, _, rfl, hT3⟩
        have hU := used_sym y
        have hzz : acc.length + (T.sym y).used.length ≤ 2 ^ 20 := by simp only [T.used_e, List.length_cons, List.length_nil]; k_extra "mE lia"
        k_steps
        refine ⟨kwSum (as' ++ [(x, none)]), ?_, .inr (HInv.intro S2 (by assumption) (Agree.set (Agree.set (Agree.set (Agree.over _) rfl) rfl) rfl) (by assumption) (by k_mem) (by k_mem) (by assumption) ?_ ?_ ?_)⟩
        · rw [kwSum_snoc]; k_extra "mE lia"
        · rw [List.map_append]; exact TreesAt.append hls (by simp only [List.map_cons, List.map_nil, Ar.tr, TreesAt.e1, TreesAt.e2, TreeAt.e1, TreeAt.e2, TreeAt.e3]; exact ⟨_, _, rfl, ⟨_, _, _, rfl, hT2⟩, rfl⟩)
        · rw [← hpa, dfl_snoc]; rfl
        · rw [kwSum_snoc]
          have := putAll_len acc (T.sym y).used
          simp only [T.used_e, List.length_cons, List.length_nil] at this ⊢
          k_extra "mE lia"
end
example : Sep := by w_top off; first | walk1 | trivial
section
variable {A : Around} {s : Shared} {a b c d e : Addr} {t1 t2 t3 t4 t5 t6 : Tok} {x : Str} {vs : List Value} {v2 : Value}
theorem head_uses_a {as : List Ar} {A : Around} {s : Shared} {a b c d : Addr} {t1 t2 t3 t4 : Tok} {v2 : Value} {ps : List Value} (O : OkH w s.heap) (r : Rm A 5) (hA : IsTup s.heap a (List.toArray [.str (Str.ofString "expr") t1, .str (Str.ofString "->") t2, .ref b])) (hB : IsTup s.heap b (List.toArray [.ref c, v2]))
    (hC : IsTup s.heap c (List.toArray [.str (Str.ofString "expr") t3, .str (Str.ofString "tuple") t4, .ref d]))
    (hD : IsTup s.heap d ps.toArray) (hps : TreesAt s.heap (as.map Ar.tr) ps) (hz : as.length ≤ 100) :
    Calls w A s 169 [.ref a, .ref c] nil (Fresh s (putAll [] (dfl as))) := by
  refine' enter [((Str.ofString "tree"), .ref a), ((Str.ofString "call"), .ref c)] O r ?k6 ?k7 ?k9 ?kB ?_ ?c1 ?c2 ?c3 ?c4 ?c5; k_extra "eN"
  have N : News s.heap L' s₁.heap [] := News.nil
  have hlen := TreesAt.length hps
  rw [List.length_map] at hlen
  have hzl : ps.length < 2 ^ 19 := by k_extra "mE lia"
  have hks := kwSum_len as
  have X := OkH.X O; have Tp := OkH.top O
  k_steps
  rename_i fd g1 l1 lf g2 l2 g3 g4 F N
  refine while_rule (fun n s₂ => HFirst s.heap L' fd lf (fun y => if y = Str.ofString "found" then some (.ref fd) else if y = Str.ofString "left" then some (.ref lf) else List.lookup y [(Str.ofString "tree", Value.ref a), (Str.ofString "call", Value.ref c)].reverse) (.ref c) as n s s₂ ∨
    HInv s.heap L' fd lf (fun y => if y = Str.ofString "found" then some (.ref fd) else if y = Str.ofString "left" then some (.ref lf) else List.lookup y [(Str.ofString "tree", Value.ref a), (Str.ofString "call", Value.ref c)].reverse) as n s s₂) (kwSum as + 1) ?_ ?_
  · exact .inl (HFirst.intro S F N (by k_mem) (by k_mem))
  · clear F N
    intro n s₂ hI gGk hGk; rcases hI with hI | hI
    · refine ex2_4 hI ?_; clear hI; intro kf kl eK; subst eK; intro S2 F N
      k_steps
      refine ⟨kwSum as, by k_extra "mE lia", .inr (HInv.intro S2 (by assumption) (Agree.set (Agree.set (Agree.set (Agree.refl _ _) rfl) rfl) rfl) (by assumption) (by k_mem) (by k_mem) .nil hps rfl ?_)⟩
      simp only [List.length_nil]; k_extra "mE lia"
    · refine ex7_8 hI ?_; clear hI; intro q fs kf ls kl acc as' S2 F N hfs hls hpa hn hz'
      rcases as' with _ | ⟨⟨x, (_ | y)⟩, as'⟩
      · simp only [List.map_nil, TreesAt.e1, TreesAt.e2] at hls
        subst hls
        k_steps
        exact end_list S2 (by assumption) (by assumption) (by k_mem) (show StrsAre fs _ by rw [← hpa]; exact hfs)
      · skip
        k_extra "qB"; refine TreesAt.cons_k hls ?_; clear hls; intro v rs eK gA1 hls; subst eK; (first | refine TreeAt.sym_k gA1 ?_ | refine TreeAt.one_k gA1 ?_); clear gA1; intro a1 u1 u2 eK hT1; subst eK; k_extra "qC"
        have hrs := TreesAt.length hls
        rw [List.length_map] at hrs
        have hk2 := kwSum_len as'
        have hk3 : kwSum ((x, none) :: as') = 1 + kwSum as' := by simp [kwSum]
        have hzr : rs.length < 2 ^ 19 := by k_extra "mE lia"
        k_steps
        refine ⟨kwSum as', by k_extra "mE lia", .inr (HInv.intro S2 (by assumption) (Agree.set (Agree.set (Agree.set (Agree.over _) rfl) rfl) rfl) (by assumption) (by k_mem) (by k_mem) hfs hls hpa (by k_extra "mE lia"))⟩
      · skip
        k_extra "qB"; refine TreesAt.cons_k hls ?_; clear hls; intro v rs eK gA1 hls; subst eK; (first | (refine TreeAt.e2sR gA1 ?_; clear gA1; intro u1 u2 b1 a2 u3 u4 v3 hT1 hB1 hT2 gA2) | (refine TreeAt.e2s_k gA1 ?_; clear gA1; intro a1 u1 u2 b1 a2 u3 u4 v3 eK hT1 hB1 hT2 gA2; subst eK)); (first | refine TreeAt.sym_k gA2 ?_ | refine TreeAt.one_k gA2 ?_); clear gA2; intro a3 u5 u6 eK hT3; subst eK; k_extra "qC"
        have hrs := TreesAt.length hls
        rw [List.length_map] at hrs
        have hk2 := kwSum_len as'
        have hk3 : kwSum ((x, some y) :: as') = 2 + kwSum as' := by simp [kwSum]
        have hzr : rs.length < 2 ^ 19 := by k_extra "mE lia"
        have hY : TreeAt s.heap (T.sym y).tr (.ref a3) := by simp only [T.tr_e, TreeAt.e1, TreeAt.e2, TreeAt.e3]; exact ⟨_, _, _, rfl, hT3⟩
        have hU := used_sym y
        have hzz : acc.length + (T.sym y).used.length ≤ 2 ^ 20 := by simp only [T.used_e, List.length_cons, List.length_nil]; k_extra "mE lia"
        k_steps
        refine ⟨kwSum (as' ++ [(x, none)]), ?_, .inr (HInv.intro S2 (by assumption) (Agree.set (Agree.set (Agree.set (Agree.over _) rfl) rfl) rfl) (by assumption) (by k_mem) (by k_mem) (by assumption) ?_ ?_ ?_)⟩
        · rw [kwSum_snoc]; k_extra "mE lia"
        · rw [List.map_append]; exact TreesAt.append hls (by simp only [List.map_cons, List.map_nil, Ar.tr, TreesAt.e1, TreesAt.e2, TreeAt.e1, TreeAt.e2, TreeAt.e3]; exact ⟨_, _, rfl, ⟨_, _, _, rfl, hT2⟩, rfl⟩)
        · rw [← hpa, dfl_snoc]; rfl
        · rw [kwSum_snoc]
          have := putAll_len acc (T.sym y).used
          simp only [T.used_e, List.length_cons, List.length_nil] at this ⊢
          k_extra "mE lia"
end
example : Sep := by w_top off; first | walk1 | trivial
theorem putAll_nil_len {xs : List Str} {vs : List Value} (h : StrsAre vs (putAll [] xs)) : vs.length ≤ xs.length := by
  have := putAll_len [] xs
  rw [StrsAre.length h]
  simpa using this
section
variable {A : Around} {s : Shared} {a b c d e o : Addr} {t1 t2 t3 t4 t5 t6 : Tok} {x : Str} {v v2 : Value} {ps os : List Value} {no n : Nat} {xs : List Str} {as : List Ar} {Q E : Value → Shared → Prop} {h₀ : Heap} {L : Addr} {m : Str → Option Value} {news : List (Addr × Obj)}
theorem argument_names_u (F : Fr h₀ L s.heap m) (N : News h₀ L s.heap news) (O : OkH w h₀) (r : Rm A 3) (hC : IsTup h₀ c (List.toArray [.str (Str.ofString "expr") t3, .str (Str.ofString "call") t4, .ref d]))
    (hD : IsTup h₀ d (List.toArray (.ref e :: ps))) (hE : IsTup h₀ e (List.toArray [.str (Str.ofString "sym") t5, .str x t6])) (hps : TreesAt h₀ (as.map Ar.tr) ps) (hz : as.length ≤ 100)
    (k : ∀ l vs n h' tk, StrsAre vs (putAll [] (as.map (·.1))) → vs.length ≤ 100 → NeAll l news → Fr h₀ L h' m → News h₀ L h' ((l, listOf vs.toArray n) :: news) → Q (.ref l) { s with heap := h', toks := tk }) : wpAny (model PR w) A (call (.ref 131) [.ref c]) Q E s :=
  useL (argument_names_c (O.keeps F.keep) r (hC.keeps F.keep) (hD.keeps F.keep) (hE.keeps F.keep) (TreesAt.keeps F.keep _ hps) hz) F N fun l vs n h' tk hs => k l vs n h' tk hs (Nat.le_trans (putAll_nil_len hs) (by rw [List.length_map]; exact hz))
theorem argument_names_v (F : Fr h₀ L s.heap m) (N : News h₀ L s.heap news) (O : OkH w h₀) (r : Rm A 3) (hC : IsTup h₀ c (List.toArray [.str (Str.ofString "expr") t3, .str (Str.ofString "tuple") t4, .ref d]))
    (hD : IsTup h₀ d ps.toArray) (hps : TreesAt h₀ (as.map Ar.tr) ps) (hz : as.length ≤ 100)
    (k : ∀ l vs n h' tk, StrsAre vs (putAll [] (as.map (·.1))) → vs.length ≤ 100 → NeAll l news → Fr h₀ L h' m → News h₀ L h' ((l, listOf vs.toArray n) :: news) → Q (.ref l) { s with heap := h', toks := tk }) : wpAny (model PR w) A (call (.ref 131) [.ref c]) Q E s :=
  useL (argument_names_t (O.keeps F.keep) r (hC.keeps F.keep) (hD.keeps F.keep) (TreesAt.keeps F.keep _ hps) hz) F N fun l vs n h' tk hs => k l vs n h' tk hs (Nat.le_trans (putAll_nil_len hs) (by rw [List.length_map]; exact hz))
theorem where_names_u (F : Fr h₀ L s.heap m) (N : News h₀ L s.heap news) (O : OkH w h₀) (r : Rm A 2) (hC : IsTup h₀ c (List.toArray [.str (Str.ofString "expr") t3, .str (Str.ofString "call") t4, .ref d]))
    (k : ∀ l n h' tk, NeAll l news → Fr h₀ L h' m → News h₀ L h' ((l, listOf (List.toArray []) n) :: news) → Q (.ref l) { s with heap := h', toks := tk }) : wpAny (model PR w) A (call (.ref 138) [.ref c]) Q E s :=
  useL (where_names_c (O.keeps F.keep) r (hC.keeps F.keep)) F N fun l vs n h' tk hs ne F' N' => by
    have : vs = [] := by cases hs; rfl
    subst this
    exact k l n h' tk ne F' N'
theorem head_uses_u (F : Fr h₀ L s.heap m) (N : News h₀ L s.heap news) (O : OkH w h₀) (r : Rm A 5) (hA : IsTup h₀ a (List.toArray [.str (Str.ofString "expr") t1, .str (Str.ofString "function") t2, .ref b])) (hB : IsTup h₀ b (List.toArray [.ref c, v2]))
    (hC : IsTup h₀ c (List.toArray [.str (Str.ofString "expr") t3, .str (Str.ofString "call") t4, .ref d]))
    (hD : IsTup h₀ d (List.toArray (.ref e :: ps))) (hE : IsTup h₀ e (List.toArray [.str (Str.ofString "sym") t5, .str x t6])) (hps : TreesAt h₀ (as.map Ar.tr) ps) (hz : as.length ≤ 100)
    (k : ∀ l vs n h' tk, StrsAre vs (putAll [] (dfl as)) → NeAll l news → Fr h₀ L h' m → News h₀ L h' ((l, listOf vs.toArray n) :: news) → Q (.ref l) { s with heap := h', toks := tk }) : wpAny (model PR w) A (call (.ref 169) [.ref a, .ref c]) Q E s :=
  useL (head_uses_c (O.keeps F.keep) r (hA.keeps F.keep) (hB.keeps F.keep) (hC.keeps F.keep) (hD.keeps F.keep) (hE.keeps F.keep) (TreesAt.keeps F.keep _ hps) hz) F N k
theorem head_uses_v (F : Fr h₀ L s.heap m) (N : News h₀ L s.heap news) (O : OkH w h₀) (r : Rm A 5) (hA : IsTup h₀ a (List.toArray [.str (Str.ofString "expr") t1, .str (Str.ofString "->") t2, .ref b])) (hB : IsTup h₀ b (List.toArray [.ref c, v2]))
    (hC : IsTup h₀ c (List.toArray [.str (Str.ofString "expr") t3, .str (Str.ofString "tuple") t4, .ref d]))
    (hD : IsTup h₀ d ps.toArray) (hps : TreesAt h₀ (as.map Ar.tr) ps) (hz : as.length ≤ 100)
    (k : ∀ l vs n h' tk, StrsAre vs (putAll [] (dfl as)) → NeAll l news → Fr h₀ L h' m → News h₀ L h' ((l, listOf vs.toArray n) :: news) → Q (.ref l) { s with heap := h', toks := tk }) : wpAny (model PR w) A (call (.ref 169) [.ref a, .ref c]) Q E s :=
  useL (head_uses_a (O.keeps F.keep) r (hA.keeps F.keep) (hB.keeps F.keep) (hC.keeps F.keep) (hD.keeps F.keep) (TreesAt.keeps F.keep _ hps) hz) F N k
theorem scope_uses_u (t : T) (F : Fr h₀ L s.heap m) (N : News h₀ L s.heap news) (O : OkH w h₀) (r : Rm A (n + 7)) (ht : TreeAt h₀ t.tr v) (hU : UsedOk w t n) (ho : s.heap.get? o = some (listOf os.toArray no)) (hs : StrsAre os xs)
    (hz : t.sz < 2 ^ 19) (hz' : xs.length ≤ 2 ^ 20)
    (k : ∀ l vs n h' tk, StrsAre vs (scUses t.used t xs) → NeAll l news → Fr h₀ L h' m → News h₀ L h' ((l, listOf vs.toArray n) :: news) → Q (.ref l) { s with heap := h', toks := tk }) : wpAny (model PR w) A (call (.ref 157) [v, .ref o]) Q E s :=
  useL (scope_uses_c t hU (O.keeps F.keep) r (TreeAt.keeps F.keep _ ht) ho hs hz (by rw [StrsAre.length hs]; exact hz')) F N k
end
example : True := by
 k_with "massign Tuple" => ((with_reducible refine (?_ : wpAny _ _ (assign (PySem.Expr.Tuple _ _ _) _ (Value.ref _)) _ _ _)); k_dflt (refine' unpackN_ ?jF ?jN ?jt ?jh ?jn ?jb ?_; k_extra "mFN"; (case jt => k_extra "mit"); (case jh => exact Rm.hd (by assumption)); (case jn => exact rfl); (case jb => exact rfl)); intro _ _ _; k_extra "msw")
 k_with "mcall ref" => ((with_reducible refine (?_ : wpAny _ _ (call (.ref 131) _) _ _ _)); (refine' argument_names_u ?jf ?jn ?jo ?jr ?jx0 ?jx1 ?jx2 ?jx3 ?jx4 ?_; k_extra "mP4"; k_extra "mX5"); intro _ _ _ _ _ _ _ _ _ _; k_extra "msw")
 k_with "mcall ref" => ((with_reducible refine (?_ : wpAny _ _ (call (.ref 131) _) _ _ _)); (refine' argument_names_v ?jf ?jn ?jo ?jr ?jx0 ?jx1 ?jx2 ?jx3 ?_; k_extra "mP4"; k_extra "mX4"); intro _ _ _ _ _ _ _ _ _ _; k_extra "msw")
 k_with "mcall ref" => ((with_reducible refine (?_ : wpAny _ _ (call (.ref 138) _) _ _ _)); (refine' where_names_u ?jf ?jn ?jo ?jr ?jx0 ?_; k_extra "mP4"; k_extra "mX1"); intro _ _ _ _ _ _ _; k_extra "msw")
 k_with "mcall ref" => ((with_reducible refine (?_ : wpAny _ _ (call (.ref 169) _) _ _ _)); (refine' head_uses_u ?jf ?jn ?jo ?jr ?jx0 ?jx1 ?jx2 ?jx3 ?jx4 ?jx5 ?jx6 ?_; k_extra "mP4"; k_extra "mX5"; (case jx5 => k_extra "a"); (case jx6 => k_extra "a")); intro _ _ _ _ _ _ _ _ _; k_extra "msw")
 k_with "mcall ref" => ((with_reducible refine (?_ : wpAny _ _ (call (.ref 169) _) _ _ _)); (refine' head_uses_v ?jf ?jn ?jo ?jr ?jx0 ?jx1 ?jx2 ?jx3 ?jx4 ?jx5 ?_; k_extra "mP4"; k_extra "mX5"; (case jx5 => k_extra "a")); intro _ _ _ _ _ _ _ _ _; k_extra "msw")
 k_with "mcall ref" => ((with_reducible refine (?_ : wpAny _ _ (call (.ref 157) _) _ _ _)); k_dflt (refine' scope_uses_u _ ?jf ?jn ?jo ?jr ?jht ?jhu ?ja ?jsa ?jz ?jz' ?_; k_extra "mP3"; (case jht => k_extra "a"); (case jhu => k_extra "a"); (case ja => k_extra "mgt"); (case jsa => k_extra "man"); (case jz => k_extra "a"); (case jz' => first | decide | assumption | k_extra "mE om" | (simp only [List.length_cons, List.length_nil]; k_extra "mE om")); (case jr => k_extra "mE rm")); intro _ _ _ _ _ _ _ _ _; k_extra "msw")
 k_with "mcall ref" => ((with_reducible refine (?_ : wpAny _ _ (call (.ref 150) _) _ _ _)); k_dflt (refine' joined_u ?jf ?jn ?jo ?jr ?ja ?jsa ?jz ?_; k_extra "mP3"; (case ja => k_extra "mgt"); (case jsa => first | assumption | (repeat' (first | assumption | exact ListsAt.nil | refine' ListsAt.cons (News.get (by assumption) (by k_mem)) (by first | assumption | (repeat' constructor)) ?_ | refine' ListsAt.append ?_ ?_))); (case jz => first | assumption | (simp only [List.map_cons, List.map_nil, List.sum_cons, List.sum_nil, List.cons_append, List.nil_append, List.length_cons, List.length_nil]; k_extra "mE om")); (case jr => k_extra "mE rm")); intro _ _ _ _ _ _ _ _ _; k_extra "msw")
 exact trivial
section
variable {A : Around} {s : Shared} {a b c d e : Addr} {t1 t2 t3 t4 t5 t6 : Tok} {x : Str} {vs : List Value} {v2 : Value} {ps : List Value} {as : List Ar} {n : Nat}
theorem function_uses_f (t : T) (hU : UsedOk w t n) (O : OkH w s.heap) (r : Rm A (n + 8)) (hA : IsTup s.heap a (List.toArray [.str (Str.ofString "expr") t1, .str (Str.ofString "function") t2, .ref b])) (hB : IsTup s.heap b (List.toArray [.ref c, v2]))
    (hC : IsTup s.heap c (List.toArray [.str (Str.ofString "expr") t3, .str (Str.ofString "call") t4, .ref d]))
    (hD : IsTup s.heap d (List.toArray (.ref e :: ps))) (hE : IsTup s.heap e (List.toArray [.str (Str.ofString "sym") t5, .str x t6])) (hps : TreesAt s.heap (as.map Ar.tr) ps) (hz : as.length ≤ 100)
    (ht : TreeAt s.heap t.tr v2) (hzt : t.sz < 2 ^ 19) :
    Calls w A s 164 [.ref a] nil (Fresh s (funUses t.used as t)) := by
  refine' enter [((Str.ofString "tree"), .ref a)] O r ?k6 ?k7 ?k9 ?kB ?_ ?c1 ?c2 ?c3 ?c4 ?c5; k_extra "eN"
  have N : News s.heap L' s₁.heap [] := News.nil
  have X := OkH.X O; have Tp := OkH.top O
  have g1 : (scUses t.used t []).length ≤ 2 ^ 19 := by have := scUses_len t.used t []; have := t.used_len; k_extra "mE lia"
  have g2 : (putAll [] (dfl as)).length ≤ 100 := by have := putAll_len [] (dfl as); have h2 : (dfl as).length ≤ as.length := List.length_filterMap_le _ _; simp only [List.length_nil] at this; k_extra "mE lia"
  have g3 : (joinAll [putAll [] (dfl as), scUses t.used t []]).length ≤ 2 ^ 20 := by have := joinAll_len [putAll [] (dfl as), scUses t.used t []]; simp only [List.map_cons, List.map_nil, List.sum_cons, List.sum_nil] at this; k_extra "mE lia"
  k_steps
  exact end_list S (by assumption) (by assumption) (by k_mem) (by assumption)
theorem function_uses_a {as : List Ar} {A : Around} {s : Shared} {a b c d : Addr} {t1 t2 t3 t4 : Tok} {v2 : Value} {ps : List Value} {n : Nat} (t : T) (hU : UsedOk w t n) (O : OkH w s.heap) (r : Rm A (n + 8)) (hA : IsTup s.heap a (List.toArray [.str (Str.ofString "expr") t1, .str (Str.ofString "->") t2, .ref b])) (hB : IsTup s.heap b (List.toArray [.ref c, v2]))
    (hC : IsTup s.heap c (List.toArray [.str (Str.ofString "expr") t3, .str (Str.ofString "tuple") t4, .ref d]))
    (hD : IsTup s.heap d ps.toArray) (hps : TreesAt s.heap (as.map Ar.tr) ps) (hz : as.length ≤ 100)
    (ht : TreeAt s.heap t.tr v2) (hzt : t.sz < 2 ^ 19) :
    Calls w A s 164 [.ref a] nil (Fresh s (funUses t.used as t)) := by
  refine' enter [((Str.ofString "tree"), .ref a)] O r ?k6 ?k7 ?k9 ?kB ?_ ?c1 ?c2 ?c3 ?c4 ?c5; k_extra "eN"
  have N : News s.heap L' s₁.heap [] := News.nil
  have X := OkH.X O; have Tp := OkH.top O
  have g1 : (scUses t.used t []).length ≤ 2 ^ 19 := by have := scUses_len t.used t []; have := t.used_len; k_extra "mE lia"
  have g2 : (putAll [] (dfl as)).length ≤ 100 := by have := putAll_len [] (dfl as); have h2 : (dfl as).length ≤ as.length := List.length_filterMap_le _ _; simp only [List.length_nil] at this; k_extra "mE lia"
  have g3 : (joinAll [putAll [] (dfl as), scUses t.used t []]).length ≤ 2 ^ 20 := by have := joinAll_len [putAll [] (dfl as), scUses t.used t []]; simp only [List.map_cons, List.map_nil, List.sum_cons, List.sum_nil] at this; k_extra "mE lia"
  k_steps
  exact end_list S (by assumption) (by assumption) (by k_mem) (by assumption)
end
example : Sep := by w_top off; first | walk1 | trivial
section
variable {A : Around} {s : Shared} {a b c d e f g : Addr} {t1 t2 t3 t4 t5 t6 t7 t8 : Tok} {x : Str} {va vb : Value} {n : Nat}
theorem for_uses_c {x : Str} {A : Around} {s : Shared} {a b c d g : Addr} {t1 t2 t3 t4 t7 t8 : Tok} {va vb : Value} {n : Nat} (t u : T) (hU : UsedOk w t n) (hV : UsedOk w u n) (O : OkH w s.heap) (r : Rm A (n + 8)) (hn : 3 ≤ n) (hA : IsTup s.heap a (List.toArray [.str (Str.ofString "expr") t1, .str (Str.ofString "for") t2, .ref b])) (hB : IsTup s.heap b (List.toArray [.ref c, vb]))
    (hC : IsTup s.heap c (List.toArray [.str (Str.ofString "expr") t3, .str (Str.ofString "in") t4, .ref d])) (hD : IsTup s.heap d (List.toArray [.ref g, va]))
    (hG : IsTup s.heap g (List.toArray [.str (Str.ofString "sym") t7, .str x t8]))
    (ht : TreeAt s.heap t.tr va) (hu : TreeAt s.heap u.tr vb) (hzt : t.sz < 2 ^ 19) (hzu : u.sz < 2 ^ 19) :
    Calls w A s 183 [.ref a] nil (Fresh s (joinAll [t.used, scUses u.used u [x]])) := by
  refine' enter [((Str.ofString "tree"), .ref a)] O r ?k6 ?k7 ?k9 ?kB ?_ ?c1 ?c2 ?c3 ?c4 ?c5; k_extra "eN"
  have N : News s.heap L' s₁.heap [] := News.nil
  have X := OkH.X O; have Tp := OkH.top O
  have g1 : (scUses u.used u [x]).length ≤ 2 ^ 19 := by have := scUses_len u.used u [x]; have := u.used_len; k_extra "mE lia"
  have g2 : t.used.length ≤ 2 ^ 19 := by have := t.used_len; k_extra "mE lia"
  k_steps
  exact end_list S (by assumption) (by assumption) (by k_mem) (by assumption)
theorem let_uses_c {x : Str} {A : Around} {s : Shared} {a b c d e f g : Addr} {t1 t2 t3 t4 t5 t6 t7 t8 : Tok} {va vb : Value} {n : Nat} (t u : T) (hU : UsedOk w t n) (hV : UsedOk w u n) (O : OkH w s.heap) (r : Rm A (n + 8)) (hn : 3 ≤ n) (hA : IsTup s.heap a (List.toArray [.str (Str.ofString "expr") t1, .str (Str.ofString "let") t2, .ref b])) (hB : IsTup s.heap b (List.toArray [.ref c, vb]))
    (hC : IsTup s.heap c (List.toArray [.str (Str.ofString "expr") t3, .str (Str.ofString "block") t4, .ref d])) (hD : IsTup s.heap d (List.toArray [.ref e]))
    (hE : IsTup s.heap e (List.toArray [.str (Str.ofString "expr") t5, .str (Str.ofString "=") t6, .ref f])) (hF : IsTup s.heap f (List.toArray [.ref g, va]))
    (hG : IsTup s.heap g (List.toArray [.str (Str.ofString "sym") t7, .str x t8]))
    (ht : TreeAt s.heap t.tr va) (hu : TreeAt s.heap u.tr vb) (hzt : t.sz < 2 ^ 19) (hzu : u.sz < 2 ^ 19) :
    Calls w A s 176 [.ref a] nil (Fresh s (joinAll [putAll [] (wout t.used []), scUses u.used u (putAll [] [x])])) := by
  refine' enter [((Str.ofString "tree"), .ref a)] O r ?k6 ?k7 ?k9 ?kB ?_ ?c1 ?c2 ?c3 ?c4 ?c5; k_extra "eN"
  have N : News s.heap L' s₁.heap [] := News.nil
  have X := OkH.X O; have Tp := OkH.top O
  have g1 : (scUses u.used u (putAll [] [x])).length ≤ 2 ^ 19 := by have := scUses_len u.used u (putAll [] [x]); have := u.used_len; k_extra "mE lia"
  have g2 : (wout t.used []).length ≤ 2 ^ 19 := by have := wout_len t.used []; have := t.used_len; k_extra "mE lia"
  have g3 : (putAll [] (wout t.used [])).length ≤ 2 ^ 19 := by have := putAll_len [] (wout t.used []); simp only [List.length_nil] at this; k_extra "mE lia"
  have g5 : (putAll [] [x]).length ≤ 2 ^ 20 := by have := putAll_len [] [x]; simp only [List.length_nil, List.length_cons] at this; k_extra "mE lia"
  have g4 : t.used.length ≤ 2 ^ 20 := by have := t.used_len; k_extra "mE lia"
  k_steps
  rename_i fd g6 l1 ow g7 l2 g8 tk3 g9 tk2 F N
  clear l1
  refine iterTup [] (fun i nx => ∃ fs kf os ko, nx = [(ow, listOf os.toArray ko), (fd, listOf fs.toArray kf)] ∧ (i = 0 → fs = [] ∧ os = []) ∧ (i = 1 → StrsAre fs (putAll [] (wout t.used [])) ∧ StrsAre os (putAll [] [x]))) rfl r.hd ?_ hD F (show News s.heap L' _ [(ow, listOf (List.toArray []) 0), (fd, listOf (List.toArray []) 0)] from N) ?_ ?_ ?_
  · intro q; exact absurd (hD.lt) (by rw [q, hL']; exact Nat.lt_irrefl _)
  · exact ⟨[], 0, [], 0, rfl, fun _ => ⟨rfl, rfl⟩, fun q => by cases q⟩
  · intro i v q nx h tk I o hv hI hne gR18 F1 N1; k_extra "qD"; refine ex4_3 gR18 ?_; clear gR18; intro fs kf os ko eK; subst eK; intro h0 h1
    rcases i with _ | i
    · simp at hv
      subst hv
      refine ex0_2 (h0 rfl) ?_; intro eK; subst eK; intro eK; subst eK
      have hfI : @Ne Nat fd I := hne _ (.tail _ (.head _))
      have hoI : @Ne Nat ow I := hne _ (.head _)
      clear F N h0 h1
      k_steps
      rename_i vf nf h3 tk3 hsf h4 tk4 l4 vs4 n4 h5 tk5 hs4 ne4 vo no h6 tk6 hso F2 N2
      refine turn_end [(ow, listOf vo.toArray no), (fd, listOf vf.toArray nf)] F2 N2 (by k_mem) (fun p hp => ?_) (fun p hp => ?_) ⟨Agree.set (Agree.over _) rfl, _, _, _, _, rfl, (fun q => by cases q), fun _ => ⟨hsf, hso⟩⟩
      · rcases List.mem_cons.mp hp with rfl | hp
        · k_mem
        · rw [List.mem_singleton.mp hp]; k_mem
      · rcases List.mem_cons.mp hp with rfl | hp
        · exact hoI
        · rw [List.mem_singleton.mp hp]; exact hfI
    · simp at hv
  · intro q nx h tk gR19 F1 N1; k_extra "qD"; refine ex4_3 gR19 ?_; clear gR19; intro fs kf os ko eK; subst eK; intro h0 h1
    refine ex0_2 (h1 rfl) ?_; intro h2 h3
    clear F N h0 h1
    k_steps
    exact end_list S (by assumption) (by assumption) (by k_mem) (by assumption)
end
example : Sep := by w_top off; first | walk1 | trivial
theorem TreesAt.item {h : Heap} : ∀ {ts : List T} {vs : List Value}, TreesAt h (ts.map T.tr) vs → ∀ (i : Nat) (v : Value), vs[i]? = some v → ∃ t, ts[i]? = some t ∧ TreeAt h t.tr v
  | [], vs, e, i, v, hv => by simp only [List.map_nil, TreesAt.e1, TreesAt.e2] at e; rw [e] at hv; simp at hv
  | t :: ts, vs, e, i, v, hv => by
    k_extra "qB"; refine TreesAt.cons_k e ?_; clear e; intro v' r eK h1 h2; subst eK; k_extra "qC"
    cases i with
    | zero => simp only [List.getElem?_cons_zero, Option.some.injEq] at hv; subst hv; exact ⟨t, rfl, h1⟩
    | succ i => simpa using TreesAt.item h2 i v (by simpa using hv)
theorem map_take_next {ts : List T} {t : T} {f : T → List Str} {i : Nat} (h : ts[i]? = some t) : (ts.take (i + 1)).map f = (ts.take i).map f ++ [f t] := by
  rw [List.take_add_one, h]; simp
theorem hideAll_le (h : Heap) (l : List Addr) : Le (hideAll h l) h := fun _ _ e => of_hideAll l e
theorem used_sum (ts : List T) (h : (ts.map T.sz).sum < 2 ^ 19) : ((ts.map T.used).map List.length).sum ≤ 2 ^ 20 := by
  have : ((ts.map T.used).map List.length).sum ≤ (ts.map T.sz).sum := by
    clear h
    induction ts with
    | nil => simp
    | cons t r ih => have := t.used_len; simp only [List.map_cons, List.sum_cons]; k_extra "mE lia"
  k_extra "mE lia"
noncomputable def InPl : Prop := True
section
variable {A : Around} {s : Shared} {a b c d : Addr} {t1 t2 t3 t4 t5 t6 : Tok} {x ky : Str} {vs : List Value} {v v2 : Value} {n : Nat} {Q E : Value → Shared → Prop} {h₀ : Heap} {L : Addr} {m : Str → Option Value} {news : List (Addr × Obj)}
theorem used_l (t : T) (F : Fr h₀ L s.heap m) (N : News h₀ L s.heap news) (O : OkH w h₀) (r : Rm A n) (ht : TreeAt h₀ t.tr v) (hU : UsedOk w t n)
    (k : ∀ l vs n h' tk, StrsAre vs t.used → Le s.heap h' → s.heap.get? l = none → Fr h₀ L h' m → News h₀ L h' ((l, listOf vs.toArray n) :: news) → Q (.ref l) { s with heap := h', toks := tk }) : wpAny (model PR w) A (call (.ref 205) [v]) Q E s := by
  refine use0 (hU _ _ _ (O.keeps F.keep) r (TreeAt.keeps F.keep _ ht)) F N fun r h' tk hQ9 le F' N' => ?_
  refine ex3_4 hQ9 ?_; clear hQ9; intro l vs n e hl ho hs
  subst e
  exact k l vs n h' tk hs le hl F' (News.cons F N' hl ho)
theorem ckeep_list {s₃ : Shared} {h' : Heap} {tk' n : Nat} {hid : List Addr} {zs vs : List Value} {l : Addr} {xs : List Str} {xss xss' : List (List Str)} (le : Le s₃.heap h') (off : s₃.heap.get? l = none) (hfr : ∀ b, s₃.heap.get? b = none → b ∉ hid)
    (hV : ListsAt (hideAll s₃.heap hid) zs xss) (ho : h'.get? l = some (listOf vs.toArray n)) (hs : StrsAre vs xs) (e : xss' = xss ++ [xs]) : CKeep [] s₃ { s₃ with heap := h', toks := tk' } (ListsAt (hideAll h' hid) (zs ++ [.ref l]) xss') := by
  refine ⟨⟨⟨rfl, rfl, rfl⟩, fun b o _ q => le b o q⟩, ?_⟩
  rw [e]
  exact ListsAt.snoc (hV.keeps (le_hideAll fun b o _ q => le b o q)) (hideAll_get hid ho (hfr l off)) hs
theorem plain_uses_w {A : Around} {s : Shared} {a b : Addr} {t1 t2 : Tok} {v v2 : Value} {n : Nat} (t u : T) (hU : UsedOk w t n) (hV : UsedOk w u n) (O : OkH w s.heap) (r : Rm A (n + 8)) (hA : IsTup s.heap a (List.toArray [.str (Str.ofString "expr") t1, .str (Str.ofString "while") t2, .ref b])) (hB : IsTup s.heap b (List.toArray [v, v2]))
    (ht : TreeAt s.heap t.tr v) (hu : TreeAt s.heap u.tr v2) (hzt : t.sz < 2 ^ 19) (hzu : u.sz < 2 ^ 19) :
    Calls w A s 198 [.ref a] nil (Fresh s (joinAll [t.used, scUses u.used u []])) := by
  refine' enter [((Str.ofString "tree"), .ref a)] O r ?k6 ?k7 ?k9 ?kB ?_ ?c1 ?c2 ?c3 ?c4 ?c5; k_extra "eN"
  have N : News s.heap L' s₁.heap [] := News.nil
  have X := OkH.X O; have Tp := OkH.top O
  have g1 : (scUses u.used u []).length ≤ 2 ^ 19 := by have := scUses_len u.used u []; have := u.used_len; k_extra "mE lia"
  have g2 : t.used.length ≤ 2 ^ 19 := by have := t.used_len; k_extra "mE lia"
  k_steps
  exact end_list S (by assumption) (by assumption) (by k_mem) (by assumption)
example : True := by
 k_with "mcall ref" => ((fail_if_success (fail_if_success (have mk' : InPl := by with_reducible assumption))); (with_reducible refine (?_ : wpAny _ _ (call (.ref 205) _) _ _ _)); (refine' used_l _ ?jf ?jn ?jo ?jr ?jht ?jhu ?_; k_extra "mP3"; (case jht => k_extra "a"); (case jhu => k_extra "a"); (case jr => exact Rm.le (by assumption) (by first | decide | k_extra "mE lia"))); intro _ _ _ _ _ _ _ _ _ _; k_extra "msw")
 exact trivial
theorem plain_uses_p {ky : Str} {A : Around} {s : Shared} {a b : Addr} {t1 t2 : Tok} {vs : List Value} {n : Nat} (ts : List T) (hU : ∀ t ∈ ts, UsedOk w t n) (O : OkH w s.heap) (r : Rm A (n + 8)) (hA : IsTup s.heap a (List.toArray [.str (Str.ofString "expr") t1, (.str ky t2), .ref b])) (hB : IsTup s.heap b vs.toArray)
    (h1 : (ky == Str.ofString "while") = false) (h2 : (ky == Str.ofString "where") = false) (h3 : (ky == Str.ofString ".") = false) (h4 : (ky == Str.ofString "kw") = false)
    (ht : TreesAt s.heap (ts.map T.tr) vs) (hz : (ts.map T.sz).sum < 2 ^ 19) (hl : vs.length ≤ 2 ^ 20) :
    Calls w A s 198 [.ref a] nil (Fresh s (joinAll (ts.map T.used))) := by
  refine' enter [((Str.ofString "tree"), .ref a)] O r ?k6 ?k7 ?k9 ?kB ?_ ?c1 ?c2 ?c3 ?c4 ?c5; k_extra "eN"
  have mkL : InPl := trivial
  have N : News s.heap L' s₁.heap [] := News.nil
  have X := OkH.X O; have Tp := OkH.top O
  have hsum := used_sum ts hz
  k_steps
  rename_i g4 k1 F N
  refine comp_tup0 (fun i ys g => ListsAt g ys ((ts.take i).map T.used)) (fun _ _ _ _ h k => h.keeps k) r.hd (hB.keeps F.keep) (by decide) rfl rfl (by simpa using hl) .nil ?_ ?_
  · intro i v s₃ C m zs hid hv hlen hS F3 hfr hV
    refine ex1_2 (TreesAt.item ht i v (by simpa using hv)) ?_; intro t ht' hta
    have hu := hU t (List.mem_of_getElem? ht')
    have hta3 := TreeAt.keeps F.keep _ hta
    have O3 := O.keeps F.keep
    have X3 := OkH.X O3; have T3 := OkH.top O3
    refine tests_nil ?_
    rw [if_pos rfl]
    have N3 : News g4 C s₃.heap [] := News.nil
    clear F N X Tp O ht
    k_steps
    rename_i l' vs' n' h' tk' hs' le' off' F' N'
    exact ckeep_list le' off' hfr hV (N' _ (.head _)).1 hs' (map_take_next ht')
  · intro D s' zs hS' hD hL hV hlen hle
    refine ex1_1 hL ?_; clear hL; intro nD hL
    have hLs : ListsAt s'.heap zs (ts.map T.used) := by
      have e : ts.take vs.toArray.size = ts := by rw [List.size_toArray, TreesAt.length ht, List.length_map, List.take_length]
      rw [e] at hV; exact hV.keeps (hideAll_le _ _)
    have F' := Fr.le F hle
    have N' : News s.heap L' s'.heap [(D, listOf zs.toArray nD)] := News.cons F (News.nil) hD hL
    have S' := Same.trans S hS'
    clear F N
    k_steps
    exact end_list S' (by assumption) (by assumption) (by k_mem) (by assumption)
theorem plain_uses_d {x : Str} {A : Around} {s : Shared} {a b : Addr} {t1 t2 : Tok} {v v2 : Value} {n : Nat} (hn : 3 ≤ n) (O : OkH w s.heap) (r : Rm A (n + 8)) (hA : IsTup s.heap a (List.toArray [.str (Str.ofString "expr") t1, .str (Str.ofString ".") t2, .ref b])) (hB : IsTup s.heap b (List.toArray [v, v2]))
    (ht : TreeAt s.heap (T.sym x).tr v) :
    Calls w A s 198 [.ref a] nil (Fresh s (joinAll [[x]])) := by
  refine' enter [((Str.ofString "tree"), .ref a)] O r ?k6 ?k7 ?k9 ?kB ?_ ?c1 ?c2 ?c3 ?c4 ?c5; k_extra "eN"
  have mkL : InPl := trivial
  have N : News s.heap L' s₁.heap [] := News.nil
  have X := OkH.X O; have Tp := OkH.top O
  have hsum : ([[x]].map List.length).sum ≤ 2 ^ 20 := by simp
  k_steps
  rename_i g4 k1 D1 g5 l2 g6 F N
  have hb1 : IsTup g6 D1 (List.toArray [v]) := News.isTup N (.head _)
  have ht6 := TreeAt.keeps F.keep _ ht
  refine comp_tup0 (fun i ys g => ListsAt g ys (([T.sym x].take i).map T.used)) (fun _ _ _ _ h k => h.keeps k) r.hd hb1 (by decide) rfl rfl (by simp) .nil ?_ ?_
  · intro i v' s₃ C m zs hid hv hlen hS F3 hfr hV
    rcases i with _ | i
    · simp at hv
      subst hv
      have hu := (used_sym x)
      have O3 := O.keeps F.keep
      have X3 := OkH.X O3; have T3 := OkH.top O3
      refine tests_nil ?_
      rw [if_pos rfl]
      have N3 : News g6 C s₃.heap [] := News.nil
      clear F N X Tp O ht
      k_steps
      rename_i l' vs' n' h' tk' hs' le' off' F' N'
      exact ckeep_list le' off' hfr hV (N' _ (.head _)).1 hs' rfl
    · simp at hv
  · intro D s' zs hS' hD hL hV hlen hle
    refine ex1_1 hL ?_; clear hL; intro nD hL
    have hLs : ListsAt s'.heap zs [[x]] := hV.keeps (hideAll_le _ _)
    have F' := Fr.le F hle
    have N' : News s.heap L' s'.heap [(D, listOf zs.toArray nD)] := News.cons F (News.nil) hD hL
    have S' := Same.trans S hS'
    clear F N
    k_steps
    exact end_list S' (by assumption) (by assumption) (by k_mem) (by assumption)
end
example : Sep := by w_top off; first | walk1 | trivial
theorem allNil {news : List (Addr × Obj)} : ∀ p ∈ ([] : List (Addr × Obj)), p ∈ news := fun _ h => nomatch h
theorem allCons {news l : List (Addr × Obj)} {a : Addr × Obj} (h : a ∈ news) (r : ∀ p ∈ l, p ∈ news) : ∀ p ∈ a :: l, p ∈ news := fun p hp => by
  rcases List.mem_cons.mp hp with rfl | hp
  · exact h
  · exact r p hp
theorem neNil {I : Addr} : ∀ p ∈ ([] : List (Addr × Obj)), p.1 ≠ I := fun _ h => nomatch h
theorem neCons {I : Addr} {l : List (Addr × Obj)} {a : Addr × Obj} (h : @Ne Nat a.1 I) (r : ∀ p ∈ l, p.1 ≠ I) : ∀ p ∈ a :: l, p.1 ≠ I := fun p hp => by
  rcases List.mem_cons.mp hp with rfl | hp
  · exact h
  · exact r p hp
theorem News.sub {h₀ h : Heap} {L : Addr} {news l : List (Addr × Obj)} (N : News h₀ L h news) (k : ∀ p ∈ l, p ∈ news) : News h₀ L h l := fun p hp => N p (k p hp)
example : True := by
 k_with "mmem all" => (repeat' (first | exact allNil | refine allCons (by k_mem) ?_))
 k_with "mne all" => (repeat' (first | exact neNil | refine neCons ?_ ?_))
 exact trivial
section
variable {prog : Program} {A : Around} {E : Value → Shared → Prop} {s : Shared} {env : Env} {h₀ : Heap} {x : Str} {body : List Stmt} {Q : Flow → Shared → Prop}
theorem iterTupN {prog : Program} {E : Value → Shared → Prop} {body : List Stmt} {A : Around} {s : Shared} {env : Env} {h₀ : Heap} {Q : Flow → Shared → Prop} {L : Addr} (st : List Str) {l : Addr} {vs : List Value} {m₀ : Str → Option Value} {news : List (Addr × Obj)} (J : Nat → List (Addr × Obj) → Prop) (hEL : env.locals = L)
    (hh : A.handled = none) (hm : (l, tupObj vs) ∈ news) (hin : ∀ i nx, J i nx → (l, tupObj vs) ∈ nx)
    (F : Fr h₀ L s.heap m₀) (N : News h₀ L s.heap news) (hj : J 0 news)
    (turn : ∀ i v q nx h tk I o, vs[i]? = some v → I = s.heap.objs.size → (∀ p ∈ nx, p.1 ≠ I) → J i nx → Fr h₀ L h (fun y => if y = x then some v else over (x :: st) q m₀ y) → News h₀ L h ((I, o) :: nx) →
      wpAny (model prog w) A (execs body env) (TurnPost h₀ L (fun m nx => Agree (x :: st) m₀ m ∧ J (i + 1) nx) (I, o) { s with heap := h, toks := tk } Q) E { s with heap := h, toks := tk })
    (done : ∀ q nx h tk, J vs.length nx → Fr h₀ L h (over (x :: st) q m₀) → News h₀ L h nx → Q .next { s with heap := h, toks := tk }) :
    ForAt prog w A h₀ env x body Q E (.ref l) s := by
  subst hEL
  have hls : IsTup s.heap l vs.toArray := News.isTup N hm
  have hlL := (N _ hm).2.1
  have hol' := (N _ hm).1
  have hne : l ≠ s.heap.objs.size := Nat.ne_of_lt hls.lt
  refine wpAny_pyIter_tuple hls ?_
  refine iterW (fun i m nx => Agree (x :: st) m₀ m ∧ J i nx) (Walks.tuple (prog := prog) hh s.heap.objs.size l hne vs.toArray) ⟨_, rfl, fun b o e => Heap.get?_push_of_some _ e⟩ (Heap.get?_none_of_le (Nat.le_refl _)) (fun i h st => ?_)
    ⟨⟨_, Heap.get?_push_size _ rfl, rfl, rfl⟩, hls.push _⟩ hlL hol' (fun i m nx hJ => .inr (hin i nx hJ.2)) F N ⟨Agree.refl _ _, hj⟩
    (fun i v m₁ nx h tk o hi hv hn hJ F₁ N₁ => turn i v m₁ nx h tk _ o (by simpa using hv) rfl hn hJ.2 (by rw [hJ.1.eq] at F₁; exact F₁) N₁) fun m₁ nx h tk hJ F₁ N₁ => done m₁ nx h tk (by simpa using hJ.2) (by rw [hJ.1.eq] at F₁; exact F₁) N₁
  refine ex0_2 st ?_; clear st; intro gN20 _; refine ex1_2 gN20 ?_; clear gN20; intro o ho _; exact ⟨o, ho⟩
end
theorem comp_named {h₀ h h' h₂ : Heap} {L D : Addr} {m m' : Str → Option Value} {news : List (Addr × Obj)} {o : Obj} (F : Fr h₀ L h m) (N : News h₀ L h news) (hle : Le h h') (hD : h.get? D = none) (ho : h'.get? D = some o) (hs : Heap.SameBut L h' h₂) (hn : h₂.Ns L m') :
    Fr h₀ L h₂ m' ∧ News h₀ L h₂ ((D, o) :: news) := by
  have N' := News.cons F (News.le N hle) hD ho
  refine ⟨⟨hn, fun b ob e => hs.extBut b ob (fun q => ?_) (hle _ _ (F.keep _ _ e)), F.above⟩, fun p hp => ⟨hs.extBut _ _ (N' p hp).2.1 (N' p hp).1, (N' p hp).2⟩⟩
  have h1 := Heap.lt_size e
  rw [q] at h1
  exact absurd (Nat.lt_of_lt_of_le h1 F.above) (Nat.lt_irrefl _)
section
variable {h₀ h : Heap} {g : Array GenState} {d : Drawn} {o : OsState} {L : Addr} {t : Nat} {m : Str → Option Value} {news : List (Addr × Obj)} {n : Nat} {W : List Value → Prop}
theorem asg_all {x : Str} {h₀ h : Heap} {g : Array GenState} {d : Drawn} {o : OsState} {L : Addr} {t : Nat} {m : Str → Option Value} {news : List (Addr × Obj)} {n : Nat} {W : List Value → Prop} {Q : Flow → Shared → Prop} (F : Fr h₀ L h m) (N : News h₀ L h news)
    (k : ∀ D ys h₂ tk nD, W ys → ys.length ≤ n → NeAll D news → Fr h₀ L h₂ (fun z => if z = x then some (.ref D) else m z) → News h₀ L h₂ ((D, listOf ys.toArray nD) :: news) → Q .next ⟨h₂, g, d, tk, o⟩) :
    ∀ D s' ys, Same ⟨h, g, d, t, o⟩ s' → h.get? D = none → s'.heap.PlainList D ys.toArray → W ys → ys.length ≤ n → Le h s'.heap →
      ∃ m₁, s'.heap.Ns L m₁ ∧ h.get? L ≠ none ∧ ∀ h₂, h₂.Ns L (fun z => if z = x then some (.ref D) else m₁ z) → Heap.SameBut L s'.heap h₂ → ∀ tk, Q .next { s' with heap := h₂, toks := tk } := by
  intro D gR21 ys gR22 hD gR23 hW hz hle; obtain ⟨h', g', d', t', o'⟩ := gR21; refine ex0_3 gR22 ?_; clear gR22; intro e1 e2 e3; refine ex1_1 gR23 ?_; clear gR23; intro nD hL
  cases e1; cases e2; cases e3
  refine ⟨_, F.ns.keeps hle, ?_, fun h₂ hn hs tk => ?_⟩
  · refine ex3_2 (F.ns) ?_; intro oL _ _ e _
    intro q; rw [e] at q; cases q
  · refine ex0_2 (comp_named F N hle hD hL hs hn) ?_; intro F7 N7
    exact k D ys h₂ tk nD hW hz (News.neOf N hD) F7 N7
theorem cmp_all {h₀ h : Heap} {g : Array GenState} {d : Drawn} {o : OsState} {L : Addr} {t : Nat} {m : Str → Option Value} {news : List (Addr × Obj)} {n : Nat} {W : List Value → Prop} {Q : Addr → Shared → Prop} (F : Fr h₀ L h m) (N : News h₀ L h news)
    (k : ∀ D ys h₂ tk nD, W ys → ys.length ≤ n → NeAll D news → Fr h₀ L h₂ m → News h₀ L h₂ ((D, listOf ys.toArray nD) :: news) → Q D ⟨h₂, g, d, tk, o⟩) :
    ∀ D s' ys, Same ⟨h, g, d, t, o⟩ s' → h.get? D = none → s'.heap.PlainList D ys.toArray → W ys → ys.length ≤ n → Le h s'.heap → Q D s' := by
  intro D gR24 ys gR25 hD gR26 hW hz hle; obtain ⟨h', g', d', t', o'⟩ := gR24; refine ex0_3 gR25 ?_; clear gR25; intro e1 e2 e3; refine ex1_1 gR26 ?_; clear gR26; intro nD hL
  cases e1; cases e2; cases e3
  exact k D ys h' t' nD hW hz (News.neOf N hD) (Fr.le F hle) (News.cons F (News.le N hle) hD hL)
end
section
variable {A : Around} {s : Shared} {a b c d e o : Addr} {t1 t2 t3 t4 t5 t6 : Tok} {x : Str} {va vb v : Value} {os : List Value} {no n : Nat} {hd hd' : Str} {xs : List Str} {Q E : Value → Shared → Prop} {h₀ : Heap} {L : Addr} {m : Str → Option Value} {news : List (Addr × Obj)}
theorem is_expr_l {E : Value → Shared → Prop} {hd hd' : Str} {A : Around} {s : Shared} {a b : Addr} {t1 t2 t3 : Tok} {Q : Value → Shared → Prop} {h₀ : Heap} {L : Addr} {m : Str → Option Value} {news : List (Addr × Obj)} (F : Fr h₀ L s.heap m) (N : News h₀ L s.heap news) (O : OkH w h₀) (r : Rm A 1) (hT : IsTup h₀ a (List.toArray [.str (Str.ofString "expr") t1, .str hd t2, .ref b]))
    (k : ∀ h' tk, Le s.heap h' → Fr h₀ L h' m → News h₀ L h' news → Q (.bool (hd == hd')) { s with heap := h', toks := tk }) : wpAny (model PR w) A (call (.ref 28) [.ref a, .str hd' t3]) Q E s :=
  use0 (is_expr_c (O.keeps F.keep) r (hT.keeps F.keep)) F N fun _ h' tk e le F' N' => by rw [e]; exact k h' tk le F' N'
theorem scope_uses_l (t : T) (F : Fr h₀ L s.heap m) (N : News h₀ L s.heap news) (O : OkH w h₀) (r : Rm A (n + 7)) (ht : TreeAt h₀ t.tr v) (hU : UsedOk w t n) (ho : s.heap.get? o = some (listOf os.toArray no)) (hs : StrsAre os xs)
    (hz : t.sz < 2 ^ 19) (hz' : xs.length ≤ 2 ^ 20)
    (k : ∀ l vs n h' tk, StrsAre vs (scUses t.used t xs) → Le s.heap h' → s.heap.get? l = none → Fr h₀ L h' m → News h₀ L h' ((l, listOf vs.toArray n) :: news) → Q (.ref l) { s with heap := h', toks := tk }) : wpAny (model PR w) A (call (.ref 157) [v, .ref o]) Q E s := by
  refine use0 (scope_uses_c t hU (O.keeps F.keep) r (TreeAt.keeps F.keep _ ht) ho hs hz (by rw [StrsAre.length hs]; exact hz')) F N fun r h' tk hQ9 le F' N' => ?_
  refine ex3_4 hQ9 ?_; clear hQ9; intro l vs n e hl ho hs
  subst e
  exact k l vs n h' tk hs le hl F' (News.cons F N' hl ho)
end
noncomputable def InList : Prop := True
theorem CKeep.and {ws : List Addr} {s s' : Shared} {V W : Prop} (h : CKeep ws s s' V) (k : W) : CKeep ws s s' (V ∧ W) := ⟨h.1, h.2, k⟩
section
example : True := by
 k_with "mcall ref" => ((fail_if_success (fail_if_success (have mk' : InList := by with_reducible assumption))); (with_reducible refine (?_ : wpAny _ _ (call (.ref 28) _) _ _ _)); (refine' is_expr_l ?jf ?jn ?jo ?jr ?jx0 ?_; k_extra "mP4"; k_extra "mX1"); intro _ _ _ _ _; k_extra "msw")
 k_with "mcall ref" => ((fail_if_success (fail_if_success (have mk' : InList := by with_reducible assumption))); (with_reducible refine (?_ : wpAny _ _ (call (.ref 157) _) _ _ _)); (refine' scope_uses_l _ ?jf ?jn ?jo ?jr ?jht ?jhu ?ja ?jsa ?jz ?jz' ?_; k_extra "mP3"; (case jht => k_extra "a"); (case jhu => k_extra "a"); (case ja => k_extra "mgt"); (case jsa => k_extra "man"); (case jz => k_extra "a"); (case jz' => first | decide | assumption | k_extra "mE lia" | (simp only [List.length_cons, List.length_nil]; k_extra "mE lia")); (case jr => exact Rm.le (by assumption) (by first | decide | k_extra "mE lia"))); intro _ _ _ _ _ _ _ _ _ _; k_extra "msw")
 exact trivial
variable {A : Around} {s : Shared} {a b c d e : Addr} {t1 t2 t3 t4 t5 t6 : Tok} {x : Str} {va vb : Value} {n : Nat}
theorem listed_uses_c {x : Str} {A : Around} {s : Shared} {a b c d e : Addr} {t1 t2 t3 t4 t5 t6 : Tok} {va vb : Value} {n : Nat} (t u : T) (hU : UsedOk w t n) (hV : UsedOk w u n) (hn : 3 ≤ n) (O : OkH w s.heap) (r : Rm A (n + 8)) (hA : IsTup s.heap a (List.toArray [.str (Str.ofString "expr") t1, .str (Str.ofString "comprehension") t2, .ref b])) (hB : IsTup s.heap b (List.toArray [va, .ref c]))
    (hC : IsTup s.heap c (List.toArray [.str (Str.ofString "expr") t3, .str (Str.ofString "in") t4, .ref d])) (hD : IsTup s.heap d (List.toArray [.ref e, vb])) (hE : IsTup s.heap e (List.toArray [.str (Str.ofString "sym") t5, .str x t6]))
    (ht : TreeAt s.heap t.tr va) (hu : TreeAt s.heap u.tr vb) (hzt : t.sz < 2 ^ 19) (hzu : u.sz < 2 ^ 19) :
    Calls w A s 188 [.ref a] nil (Fresh s (joinAll [putAll [] (wout u.used []), scUses t.used t (putAll [] [x])])) := by
  refine' enterC [((Str.ofString "tree"), .ref a)] O r ?k6 ?k7 ?k9 ?kB ?kD ?_ ?c1 ?c2 ?c3 ?c5; k_extra "eC"
  have mkL : InList := trivial
  have X := OkH.X O; have Tp := OkH.top O
  refine ex1_2 (Y.one) ?_; intro oc eK; subst eK; intro hoc
  have g1 : (scUses t.used t (putAll [] [x])).length ≤ 2 ^ 19 := by have := scUses_len t.used t (putAll [] [x]); have := t.used_len; k_extra "mE lia"
  have g2 : (wout u.used []).length ≤ 2 ^ 19 := by have := wout_len u.used []; have := u.used_len; k_extra "mE lia"
  have g3 : (putAll [] (wout u.used [])).length ≤ 2 ^ 19 := by have := putAll_len [] (wout u.used []); simp only [List.length_nil] at this; k_extra "mE lia"
  have g5 : (putAll [] [x]).length ≤ 2 ^ 20 := by have := putAll_len [] [x]; simp only [List.length_nil, List.length_cons] at this; k_extra "mE lia"
  have g4 : u.used.length ≤ 2 ^ 20 := by have := u.used_len; k_extra "mE lia"
  k_steps
  rename_i fd g6 l1 ow g7 l2 D1 g8 l3 g9 g10 g11 o2 ho2 D2 g12 F N ne2
  clear Y hoc
  refine iterTupN [] (fun i nx => ∃ fs kf os ko, nx = [(D2, tupObj [.ref c]), (ow, listOf os.toArray ko), (fd, listOf fs.toArray kf), (L' + 1, o2)] ∧ (i = 0 → fs = [] ∧ os = []) ∧ (i = 1 → StrsAre fs (putAll [] (wout u.used [])) ∧ StrsAre os (putAll [] [x]))) rfl r.hd (.head _) ?_ F
    (News.sub (l := [(D2, tupObj [.ref c]), (ow, listOf (List.toArray []) 0), (fd, listOf (List.toArray []) 0), (L' + 1, o2)]) N (by walk_at "mem all")) ?_ ?_ ?_
  · intro i nx gR27; k_extra "qD"; refine ex4_2 gR27 ?_; clear gR27; intro fs kf os ko eK; subst eK; intro _; exact .head _
  · exact ⟨[], 0, [], 0, rfl, fun _ => ⟨rfl, rfl⟩, fun q => by cases q⟩
  · intro i v q nx h tk I o hv hI hne gR28 F1 N1; k_extra "qD"; refine ex4_3 gR28 ?_; clear gR28; intro fs kf os ko eK; subst eK; intro h0 h1
    rcases i with _ | i
    · simp at hv
      subst hv
      refine ex0_2 (h0 rfl) ?_; intro eK; subst eK; intro eK; subst eK
      have hDI : @Ne Nat D2 I := hne _ (.head _)
      have hoI : @Ne Nat ow I := hne _ (.tail _ (.head _))
      have hfI : @Ne Nat fd I := hne _ (.tail _ (.tail _ (.head _)))
      have hcI : @Ne Nat (L' + 1) I := hne _ (.tail _ (.tail _ (.tail _ (.head _))))
      clear F N h0 h1
      have hne' : ∀ oo ff, ∀ p ∈ [(D2, tupObj [Value.ref c]), (ow, oo), (fd, ff), (L' + 1, o2)], p.1 ≠ I := fun oo ff => neCons hDI (neCons hoI (neCons hfI (neCons hcI neNil)))
      k_steps
      rename_i vf nf h3 tk3 hsf l4 vs4 n4 h5 tk5 hs4 ne4 vo no h6 tk6 hso F2 N2
      exact turn_end [(D2, tupObj [.ref c]), (ow, listOf vo.toArray no), (fd, listOf vf.toArray nf), (L' + 1, o2)] F2 N2 (by k_mem) (by walk_at "mem all") (hne' _ _) ⟨Agree.set (Agree.over _) rfl, _, _, _, _, rfl, (fun q => by cases q), fun _ => ⟨hsf, hso⟩⟩
    · simp at hv
  · intro q nx h tk gR29 F1 N1; k_extra "qD"; refine ex4_3 gR29 ?_; clear gR29; intro fs kf os ko eK; subst eK; intro h0 h1
    refine ex0_2 (h1 rfl) ?_; intro h2 h3
    clear F N h0 h1 ne2 l1 l2 l3
    k_steps
    rename_i D3 g13 F3 N3 ne3
    have O3 := O.keeps F3.keep
    have c3 := hC.keeps F3.keep
    refine comp_tup0 (fun i ys g => ys = []) (fun _ _ _ _ h _ => h) r.hd (News.isTup N3 (.head _)) (by decide) rfl rfl (by simp) rfl ?_ ?_
    · intro i v s₃ C m zs hid hv hlen hS F4 hfr hV
      rcases i with _ | i
      · simp at hv
        subst hv
        refine tests_one ?_
        have N4 : News g13 C s₃.heap [] := News.nil
        clear N3 F3 g1 g2 g3 g4 g5
        have X3 := OkH.X O3; have T3 := OkH.top O3
        clear Tp X
        change Fr g13 C s₃.heap _ at F4
        k_steps
        rename_i h5 tk5 le5 F5 N5
        exact ⟨⟨⟨rfl, rfl, rfl⟩, fun b o _ q => le5 b o q⟩, hV⟩
      · simp at hv
    · intro D s' zs hS' hD hL hV hlen hle
      refine ex1_1 hL ?_; clear hL; intro nD hL
      subst hV
      refine ⟨_, F3.ns.keeps hle, ?_, ?_⟩
      · refine ex3_2 (F3.ns) ?_; intro oL _ _ e _
        intro q; rw [e] at q; cases q
      intro h5 hn5 hs5 tk5
      refine ex0_2 (comp_named F3 N3 hle hD hL hs5 hn5) ?_; intro F5 N5
      clear N3 F3 hn5 hs5 hL hD
      k_steps
      rename_i l6 g14 l7 l8 g15 l9 D4 g16 F6 N6 l10
      clear l7 l9 l10
      have ht6 := TreeAt.keeps F6.keep _ ht
      have O6 := O.keeps F6.keep
      have how : g16.get? ow = some (listOf os.toArray ko) := News.get N6 (by k_mem)
      have hcc : g16.get? (L' + 1) = some o2 := News.get N6 (by k_mem)
      refine comp_list0 (fun i ys g => ListsAt g ys (if i = 0 then [] else [scUses t.used t (putAll [] [x])]) ∧ ∀ b, Value.ref b ∈ ys → g16.get? b = none) (fun _ _ _ _ h k => ⟨h.1.keeps k, h.2⟩) r.hd (News.get N6 (.head _)) (by decide) rfl rfl (by simp) ⟨.nil, fun b hb => nomatch hb⟩ ?_ ?_
      · intro i v s₃ C m zs hid hv hlen hS F4 hfr hV
        rcases i with _ | i
        · simp at hv
          subst hv
          refine tests_nil ?_
          rw [if_pos rfl]
          have N4 : News g16 C s₃.heap [] := News.nil
          have X3 := OkH.X O6; have T3 := OkH.top O6
          clear Tp X F6 N6 g1 g2 g3 g4
          change Fr g16 C s₃.heap _ at F4
          k_steps
          rename_i l11 vs11 n11 h11 tk11 hs11 le11 off11 F11 N11
          refine (ckeep_list le11 off11 hfr hV.1 (N11 _ (.head _)).1 hs11 rfl).and fun b hb => ?_
          rcases List.mem_append.mp hb with hb | hb
          · exact hV.2 b hb
          · rw [List.mem_singleton] at hb
            cases hb
            exact (N11 _ (.head _)).2.2
        · simp at hv
      · intro D5 s'' zs hS'' hD hL hV hlen hle
        refine ex1_1 hL ?_; clear hL; intro nD5 hL
        have hLs : ListsAt s''.heap zs [scUses t.used t (putAll [] [x])] := hV.1.keeps (hideAll_le _ _)
        have hOff := hV.2
        clear hV
        cases hLs with
        | cons e5 hs5 r5 =>
        cases r5
        have F7 := Fr.le F6 hle
        have N7 := News.cons F6 (News.cons F6 (News.le N6 hle) hD (show _ = some (listOf (List.toArray _) nD5) from hL)) (hOff _ (.head _)) e5
        have S7 := Same.trans (Same.trans S hS') hS''
        clear F6 N6
        k_steps
        exact end_list S7 (by assumption) (by assumption) (by k_mem) (by assumption)
end
example : Sep := by w_top off; first | walk1 | trivial
theorem UsedOk.le {t : T} {n k : Nat} (h : UsedOk w t n) (hk : n ≤ k) : UsedOk w t k := fun A s v O r ht => h A s v O (r.le hk) ht
noncomputable def T.ok : T → Prop
  | .sym x0 => True
  | .one => True
  | .set _ v => v.ok
  | .up _ v => v.ok
  | .loc x0 => True
  | .locs _ v => v.ok
  | .dot x0 => True
  | .quo x0 => True
  | .fn z as b => (z == Str.ofString "") = false ∧ as.length ≤ 100 ∧ b.ok
  | .arr as b => as.length ≤ 100 ∧ b.ok
  | .blk a b => a.ok ∧ b.ok
  | .ite a b => a.ok ∧ b.ok
  | .whl a b => a.ok ∧ b.ok
  | .lt _ a b => a.ok ∧ b.ok
  | .fr _ a b => a.ok ∧ b.ok
  | .cmp a _ b => a.ok ∧ b.ok
theorem T.ok_e : (∀ (x0 : Str), (T.sym x0).ok = (True : Prop)) ∧ ((T.one).ok = (True : Prop)) ∧ (∀ (w0 : Str) (v : T), (T.set w0 v).ok = (v.ok : Prop)) ∧ (∀ (w0 : Str) (v : T), (T.up w0 v).ok = (v.ok : Prop)) ∧ (∀ (x0 : Str), (T.loc x0).ok = (True : Prop)) ∧ (∀ (w0 : Str) (v : T), (T.locs w0 v).ok = (v.ok : Prop)) ∧ (∀ (x0 : Str), (T.dot x0).ok = (True : Prop)) ∧ (∀ (x0 : Str), (T.quo x0).ok = (True : Prop)) ∧ (∀ (z : Str) (as : List Ar) (b : T), (T.fn z as b).ok = ((z == Str.ofString "") = false ∧ as.length ≤ 100 ∧ b.ok : Prop)) ∧ (∀ (as : List Ar) (b : T), (T.arr as b).ok = (as.length ≤ 100 ∧ b.ok : Prop)) ∧ (∀ (a : T) (b : T), (T.blk a b).ok = (a.ok ∧ b.ok : Prop)) ∧ (∀ (a : T) (b : T), (T.ite a b).ok = (a.ok ∧ b.ok : Prop)) ∧ (∀ (a : T) (b : T), (T.whl a b).ok = (a.ok ∧ b.ok : Prop)) ∧ (∀ (w0 : Str) (a : T) (b : T), (T.lt w0 a b).ok = (a.ok ∧ b.ok : Prop)) ∧ (∀ (w0 : Str) (a : T) (b : T), (T.fr w0 a b).ok = (a.ok ∧ b.ok : Prop)) ∧ (∀ (a : T) (w1 : Str) (b : T), (T.cmp a w1 b).ok = (a.ok ∧ b.ok : Prop)) :=
  ⟨fun _ => rfl, rfl, fun _ _ => rfl, fun _ _ => rfl, fun _ => rfl, fun _ _ => rfl, fun _ => rfl, fun _ => rfl, fun _ _ _ => rfl, fun _ _ => rfl, fun _ _ => rfl, fun _ _ => rfl, fun _ _ => rfl, fun _ _ _ => rfl, fun _ _ _ => rfl, fun _ _ _ => rfl⟩
theorem useA {E : Value → Shared → Prop} {A : Around} {s : Shared} {f : Addr} {args : List Value} {xs : List Str} {k : Nat} {Q : Value → Shared → Prop} {h₀ : Heap} {L : Addr} {m : Str → Option Value} {news : List (Addr × Obj)}
    (c : ∀ A s', OkH w s'.heap → Le h₀ s'.heap → Rm A k → Calls w A s' f args nil (Fresh s' xs)) (F : Fr h₀ L s.heap m) (N : News h₀ L s.heap news) (O : OkH w h₀) (r : Rm A k)
    (kk : ∀ l vs n h' tk, StrsAre vs xs → NeAll l news → Fr h₀ L h' m → News h₀ L h' ((l, listOf vs.toArray n) :: news) → Q (.ref l) { s with heap := h', toks := tk }) : wpAny (model PR w) A (call (.ref f) args) Q E s :=
  useL (c A s (O.keeps F.keep) F.keep r) F N kk
example : True := by
 k_with "mE useA" => ((refine' useA ?jc ?jf ?jn ?jo ?jr ?_; (case jc => k_extra "a"); k_extra "mP4"); intro _ _ _ _ _ _ _ _ _; k_extra "msw")
 k_with "mcall ref" => ((with_reducible refine (?_ : wpAny _ _ (call (.ref 164) _) _ _ _)); k_extra "mE useA")
 k_with "mcall ref" => ((with_reducible refine (?_ : wpAny _ _ (call (.ref 176) _) _ _ _)); k_extra "mE useA")
 k_with "mcall ref" => ((with_reducible refine (?_ : wpAny _ _ (call (.ref 183) _) _ _ _)); k_extra "mE useA")
 k_with "mcall ref" => ((with_reducible refine (?_ : wpAny _ _ (call (.ref 188) _) _ _ _)); k_extra "mE useA")
 k_with "mcall ref" => ((with_reducible refine (?_ : wpAny _ _ (call (.ref 198) _) _ _ _)); k_extra "mE useA")
 exact trivial
section
variable {n : Nat}
theorem used_fn {n : Nat} (z : Str) (as : List Ar) (b : T) (hb : UsedOk w b n) (hok : (T.fn z as b).ok) (hz : (T.fn z as b).sz < 2 ^ 19) : UsedOk w (.fn z as b) (n + 9) := by
  intro A s v O r ht
  k_extra "qB"; (first | (refine TreeAt.e2R ht ?_; clear ht; intro u1 u2 b1 v' v4 hT hB gA1 h4) | (refine TreeAt.e2_k ht ?_; clear ht; intro a' u1 u2 b1 v' v4 eK hT hB gA1 h4; subst eK)); refine TreeAt.ex_k gA1 ?_; clear gA1; intro c u3 u4 d vs2 eK hC hD gT2; subst eK; refine TreesAt.cons_k gT2 ?_; clear gT2; intro v3 r3 eK gA3 h3; subst eK; (first | refine TreeAt.sym_k gA3 ?_ | refine TreeAt.one_k gA3 ?_); clear gA3; intro e u5 u6 eK hE; subst eK; k_extra "qC"
  simp only [T.sz_e] at hz
  have hzz : (z != Str.ofString "") = true := by show (!(z == Str.ofString "")) = true; rw [hok.1]; rfl
  have hc : ∀ A s', OkH w s'.heap → Le s.heap s'.heap → Rm A (n + 8) → Calls w A s' 164 [.ref a'] nil (Fresh s' (funUses b.used as b)) := fun A s' O' le r' =>
    function_uses_f b hb O' r' (hT.keeps le) (hB.keeps le) (hC.keeps le) (hD.keeps le) (hE.keeps le) (TreesAt.keeps le _ h3) hok.2.1 (TreeAt.keeps le _ h4) (by k_extra "mE lia")
  have g1 : (funUses b.used as b).length ≤ 2 ^ 19 := by have := funUses_len b.used as b; have := b.used_len; k_extra "mE lia"
  refine' enter [((Str.ofString "tree"), .ref a')] O r ?k6 ?k7 ?k9 ?kB ?_ ?c1 ?c2 ?c3 ?c4 ?c5; k_extra "eN"
  have N : News s.heap L' s₁.heap [] := News.nil
  have X := OkH.X O; have Tp := OkH.top O
  k_steps
  exact end_list S (by assumption) (by assumption) (by k_mem) (by assumption)
theorem used_arr {n : Nat} (as : List Ar) (b : T) (hb : UsedOk w b n) (hok : (T.arr as b).ok) (hz : (T.arr as b).sz < 2 ^ 19) : UsedOk w (.arr as b) (n + 9) := by
  intro A s v O r ht
  k_extra "qB"; (first | (refine TreeAt.e2R ht ?_; clear ht; intro u1 u2 b1 v' v4 hT hB gA1 h4) | (refine TreeAt.e2_k ht ?_; clear ht; intro a' u1 u2 b1 v' v4 eK hT hB gA1 h4; subst eK)); refine TreeAt.ex_k gA1 ?_; clear gA1; intro c u3 u4 d vs2 eK hC hD h3; subst eK; k_extra "qC"
  simp only [T.sz_e] at hz
  have hc : ∀ A s', OkH w s'.heap → Le s.heap s'.heap → Rm A (n + 8) → Calls w A s' 164 [.ref a'] nil (Fresh s' (funUses b.used as b)) := fun A s' O' le r' =>
    function_uses_a b hb O' r' (hT.keeps le) (hB.keeps le) (hC.keeps le) (hD.keeps le) (TreesAt.keeps le _ h3) hok.1 (TreeAt.keeps le _ h4) (by k_extra "mE lia")
  have g1 : (funUses b.used as b).length ≤ 2 ^ 19 := by have := funUses_len b.used as b; have := b.used_len; k_extra "mE lia"
  refine' enter [((Str.ofString "tree"), .ref a')] O r ?k6 ?k7 ?k9 ?kB ?_ ?c1 ?c2 ?c3 ?c4 ?c5; k_extra "eN"
  have N : News s.heap L' s₁.heap [] := News.nil
  have X := OkH.X O; have Tp := OkH.top O
  k_steps
  exact end_list S (by assumption) (by assumption) (by k_mem) (by assumption)
theorem used_lt {n : Nat} (x : Str) (a b : T) (ha : UsedOk w a n) (hb : UsedOk w b n) (hn : 3 ≤ n) (hz : (T.lt x a b).sz < 2 ^ 19) : UsedOk w (.lt x a b) (n + 9) := by
  intro A s v O r ht
  k_extra "qB"; (first | (refine TreeAt.e2R ht ?_; clear ht; intro u1 u2 b1 v' v4 hT hB gA1 h4) | (refine TreeAt.e2_k ht ?_; clear ht; intro a' u1 u2 b1 v' v4 eK hT hB gA1 h4; subst eK)); (first | (refine TreeAt.e1R gA1 ?_; clear gA1; intro u3 u4 d v3 hC hD gA2) | (refine TreeAt.e1_k gA1 ?_; clear gA1; intro c u3 u4 d v3 eK hC hD gA2; subst eK)); (first | (refine TreeAt.e2sR gA2 ?_; clear gA2; intro u5 u6 f g u7 u8 v6 hE hF hG h6) | (refine TreeAt.e2s_k gA2 ?_; clear gA2; intro e u5 u6 f g u7 u8 v6 eK hE hF hG h6; subst eK)); k_extra "qC"
  simp only [T.sz_e] at hz
  have hc : ∀ A s', OkH w s'.heap → Le s.heap s'.heap → Rm A (n + 8) → Calls w A s' 176 [.ref a'] nil (Fresh s' (T.lt x a b).used) := fun A s' O' le r' =>
    let_uses_c a b ha hb O' r' hn (hT.keeps le) (hB.keeps le) (hC.keeps le) (hD.keeps le) (hE.keeps le) (hF.keeps le) (hG.keeps le) (TreeAt.keeps le _ h6) (TreeAt.keeps le _ h4) (by k_extra "mE lia") (by k_extra "mE lia")
  refine' enter [((Str.ofString "tree"), .ref a')] O r ?k6 ?k7 ?k9 ?kB ?_ ?c1 ?c2 ?c3 ?c4 ?c5; k_extra "eN"
  have N : News s.heap L' s₁.heap [] := News.nil
  have X := OkH.X O; have Tp := OkH.top O
  k_steps
  exact end_list S (by assumption) (by assumption) (by k_mem) (by assumption)
theorem used_fr {n : Nat} (x : Str) (a b : T) (ha : UsedOk w a n) (hb : UsedOk w b n) (hn : 3 ≤ n) (hz : (T.fr x a b).sz < 2 ^ 19) : UsedOk w (.fr x a b) (n + 9) := by
  intro A s v O r ht
  k_extra "qB"; (first | (refine TreeAt.e2R ht ?_; clear ht; intro u1 u2 b1 v' v4 hT hB gA1 h4) | (refine TreeAt.e2_k ht ?_; clear ht; intro a' u1 u2 b1 v' v4 eK hT hB gA1 h4; subst eK)); (first | (refine TreeAt.e2sR gA1 ?_; clear gA1; intro u3 u4 d g u5 u6 v6 hC hD hG h6) | (refine TreeAt.e2s_k gA1 ?_; clear gA1; intro c u3 u4 d g u5 u6 v6 eK hC hD hG h6; subst eK)); k_extra "qC"
  simp only [T.sz_e] at hz
  have hc : ∀ A s', OkH w s'.heap → Le s.heap s'.heap → Rm A (n + 8) → Calls w A s' 183 [.ref a'] nil (Fresh s' (T.fr x a b).used) := fun A s' O' le r' =>
    for_uses_c a b ha hb O' r' hn (hT.keeps le) (hB.keeps le) (hC.keeps le) (hD.keeps le) (hG.keeps le) (TreeAt.keeps le _ h6) (TreeAt.keeps le _ h4) (by k_extra "mE lia") (by k_extra "mE lia")
  refine' enter [((Str.ofString "tree"), .ref a')] O r ?k6 ?k7 ?k9 ?kB ?_ ?c1 ?c2 ?c3 ?c4 ?c5; k_extra "eN"
  have N : News s.heap L' s₁.heap [] := News.nil
  have X := OkH.X O; have Tp := OkH.top O
  k_steps
  exact end_list S (by assumption) (by assumption) (by k_mem) (by assumption)
theorem used_cmp {n : Nat} (a : T) (x : Str) (b : T) (ha : UsedOk w a n) (hb : UsedOk w b n) (hn : 3 ≤ n) (hz : (T.cmp a x b).sz < 2 ^ 19) : UsedOk w (.cmp a x b) (n + 9) := by
  intro A s v O r ht
  k_extra "qB"; (first | (refine TreeAt.e2R ht ?_; clear ht; intro u1 u2 b1 v' v4 hT hB h4 gA1) | (refine TreeAt.e2_k ht ?_; clear ht; intro a' u1 u2 b1 v' v4 eK hT hB h4 gA1; subst eK)); (first | (refine TreeAt.e2sR gA1 ?_; clear gA1; intro u3 u4 d g u5 u6 v6 hC hD hG h6) | (refine TreeAt.e2s_k gA1 ?_; clear gA1; intro c u3 u4 d g u5 u6 v6 eK hC hD hG h6; subst eK)); k_extra "qC"
  simp only [T.sz_e] at hz
  have hc : ∀ A s', OkH w s'.heap → Le s.heap s'.heap → Rm A (n + 8) → Calls w A s' 188 [.ref a'] nil (Fresh s' (T.cmp a x b).used) := fun A s' O' le r' =>
    listed_uses_c a b ha hb hn O' r' (hT.keeps le) (hB.keeps le) (hC.keeps le) (hD.keeps le) (hG.keeps le) (TreeAt.keeps le _ h4) (TreeAt.keeps le _ h6) (by k_extra "mE lia") (by k_extra "mE lia")
  refine' enter [((Str.ofString "tree"), .ref a')] O r ?k6 ?k7 ?k9 ?kB ?_ ?c1 ?c2 ?c3 ?c4 ?c5; k_extra "eN"
  have N : News s.heap L' s₁.heap [] := News.nil
  have X := OkH.X O; have Tp := OkH.top O
  k_steps
  exact end_list S (by assumption) (by assumption) (by k_mem) (by assumption)
theorem used_quo (x : Str) : UsedOk w (.quo x) 3 := by
  intro A s v O r ht
  k_extra "qB"; refine TreeAt.ex_k ht ?_; clear ht; intro a t1 t2 b vs eK hT hB _; subst eK; k_extra "qC"
  refine' enter [((Str.ofString "tree"), .ref a)] O r ?k6 ?k7 ?k9 ?kB ?_ ?c1 ?c2 ?c3 ?c4 ?c5; k_extra "eN"
  have N : News s.heap L' s₁.heap [] := News.nil
  have X := OkH.X O; have Tp := OkH.top O
  k_steps
  exact end_list S (by assumption) (by assumption) (by k_mem) .nil
noncomputable abbrev plain_heads (ky : Str) : Prop := ky ∈ [Str.ofString "=", Str.ofString "+=", Str.ofString "local", Str.ofString "block", Str.ofString "if", Str.ofString ".", Str.ofString "while"]
theorem used_plain {ky : Str} {n : Nat} {A : Around} {s : Shared} {a b : Addr} {u1 u2 : Tok} {vs : List Value} {xs : List Str} (hk : plain_heads ky)
    (O : OkH w s.heap) (r : Rm A (n + 9)) (hT : IsTup s.heap a (List.toArray [.str (Str.ofString "expr") u1, .str ky u2, .ref b])) (hB : IsTup s.heap b vs.toArray)
    (hc : ∀ A s', OkH w s'.heap → Le s.heap s'.heap → Rm A (n + 8) → Calls w A s' 198 [.ref a] nil (Fresh s' xs)) : Calls w A s 205 [.ref a] nil (Fresh s xs) := by
  simp only [plain_heads, List.mem_cons, List.not_mem_nil, or_false] at hk
  rcases hk with rfl | rfl | rfl | rfl | rfl | rfl | rfl <;> (
  refine' enter [((Str.ofString "tree"), .ref a)] O r ?k6 ?k7 ?k9 ?kB ?_ ?c1 ?c2 ?c3 ?c4 ?c5; k_extra "eN"
  have N : News s.heap L' s₁.heap [] := News.nil
  have X := OkH.X O; have Tp := OkH.top O
  k_steps
  exact end_list S (by assumption) (by assumption) (by k_mem) (by assumption))
end
example : Sep := by w_top off; first | walk1 | trivial
section
variable {n : Nat}
theorem used_ts {t : T} {ky : Str} {n : Nat} (ts : List T) (hp : plain_heads ky) (h1 : (ky == Str.ofString "while") = false) (h2 : (ky == Str.ofString "where") = false) (h3 : (ky == Str.ofString ".") = false) (h4 : (ky == Str.ofString "kw") = false)
    (htr : t.tr = .ex ky (ts.map T.tr)) (hus : t.used = joinAll (ts.map T.used)) (hU : ∀ u ∈ ts, UsedOk w u n) (hz : (ts.map T.sz).sum < 2 ^ 19) (hl : ts.length ≤ 2) : UsedOk w t (n + 9) := by
  intro A s v O r ht
  rw [htr] at ht
  rw [hus]
  k_extra "qB"; refine TreeAt.ex_k ht ?_; clear ht; intro a u1 u2 b vs eK hT hB hts; subst eK; k_extra "qC"
  have hlen := TreesAt.length hts
  rw [List.length_map] at hlen
  exact used_plain hp O r hT hB fun A s' O' le r' => plain_uses_p ts hU O' r' (hT.keeps le) (hB.keeps le) h1 h2 h3 h4 (TreesAt.keeps le _ hts) hz (by k_extra "mE lia")
theorem used_whl {n : Nat} (a b : T) (ha : UsedOk w a n) (hb : UsedOk w b n) (hz : (T.whl a b).sz < 2 ^ 19) : UsedOk w (.whl a b) (n + 9) := by
  intro A s v O r ht
  simp only [T.sz_e] at hz
  k_extra "qB"; (first | (refine TreeAt.e2R ht ?_; clear ht; intro u1 u2 b1 v' v4 hT hB h3 h4) | (refine TreeAt.e2_k ht ?_; clear ht; intro a' u1 u2 b1 v' v4 eK hT hB h3 h4; subst eK)); k_extra "qC"
  exact used_plain (by decide) O r hT hB fun A s' O' le r' => plain_uses_w a b ha hb O' r' (hT.keeps le) (hB.keeps le) (TreeAt.keeps le _ h3) (TreeAt.keeps le _ h4) (by k_extra "mE lia") (by k_extra "mE lia")
theorem used_dot {n : Nat} (x : Str) (hn : 3 ≤ n) : UsedOk w (.dot x) (n + 9) := by
  intro A s v O r ht
  simp only [T.tr_e] at ht
  k_extra "qB"; (first | (refine TreeAt.e2R ht ?_; clear ht; intro u1 u2 b1 v' v4 hT hB h3 h4) | (refine TreeAt.e2_k ht ?_; clear ht; intro a' u1 u2 b1 v' v4 eK hT hB h3 h4; subst eK)); k_extra "qC"
  exact used_plain (by decide) O r hT hB fun A s' O' le r' => plain_uses_d hn O' r' (hT.keeps le) (hB.keeps le) (TreeAt.keeps le (T.sym x).tr h3)
theorem used_ok : ∀ t : T, t.ok → t.sz < 2 ^ 19 → UsedOk w t (9 * t.ht + 12) := by
  intro t
  induction t with
  | sym x => intro _ _; exact (used_sym x).le (by simp [T.ht_e])
  | one => intro _ _; exact used_one.le (by simp [T.ht_e])
  | quo x => intro _ _; exact (used_quo x).le (by simp [T.ht_e])
  | dot x => intro _ _; exact (used_dot (n := 3) x (by k_extra "mE lia")).le (by simp [T.ht_e])
  | loc x =>
    intro _ _
    exact (used_ts (n := 3) [.sym x] (by decide) (by decide) (by decide) (by decide) (by decide) rfl rfl (fun u hu => by rw [List.mem_singleton.mp hu]; exact used_sym x) (by simp [T.sz_e]) (by simp)).le (by simp [T.ht_e])
  | set x v ih =>
    intro ho hz
    simp only [T.sz_e] at hz
    refine (used_ts (n := 9 * v.ht + 12) [.sym x, v] (by decide) (by decide) (by decide) (by decide) (by decide) rfl rfl (fun u hu => ?_) (by simp [T.sz_e]; k_extra "mE lia") (by simp)).le (by simp [T.ht_e]; k_extra "mE lia")
    simp only [List.mem_cons, List.not_mem_nil, or_false] at hu
    rcases hu with rfl | rfl
    · exact (used_sym x).le (by k_extra "mE lia")
    · exact ih ho (by k_extra "mE lia")
  | up x v ih =>
    intro ho hz
    simp only [T.sz_e] at hz
    refine (used_ts (n := 9 * v.ht + 12) [.sym x, v] (by decide) (by decide) (by decide) (by decide) (by decide) rfl rfl (fun u hu => ?_) (by simp [T.sz_e]; k_extra "mE lia") (by simp)).le (by simp [T.ht_e]; k_extra "mE lia")
    simp only [List.mem_cons, List.not_mem_nil, or_false] at hu
    rcases hu with rfl | rfl
    · exact (used_sym x).le (by k_extra "mE lia")
    · exact ih ho (by k_extra "mE lia")
  | locs x v ih =>
    intro ho hz
    simp only [T.sz_e] at hz
    refine (used_ts (n := 9 * v.ht + 12 + 9) [.set x v] (by decide) (by decide) (by decide) (by decide) (by decide) rfl rfl (fun u hu => ?_) (by simp [T.sz_e]; k_extra "mE lia") (by simp)).le (by simp [T.ht_e]; k_extra "mE lia")
    rw [List.mem_singleton.mp hu]
    refine used_ts (n := 9 * v.ht + 12) [.sym x, v] (by decide) (by decide) (by decide) (by decide) (by decide) rfl rfl (fun u hu => ?_) (by simp [T.sz_e]; k_extra "mE lia") (by simp)
    simp only [List.mem_cons, List.not_mem_nil, or_false] at hu
    rcases hu with rfl | rfl
    · exact (used_sym x).le (by k_extra "mE lia")
    · exact ih ho (by k_extra "mE lia")
  | fn z as b ih =>
    intro ho hz
    exact (used_fn z as b (ih ho.2.2 (by simp only [T.sz_e] at hz; k_extra "mE lia")) ho hz).le (by simp [T.ht_e]; k_extra "mE lia")
  | arr as b ih =>
    intro ho hz
    exact (used_arr as b (ih ho.2 (by simp only [T.sz_e] at hz; k_extra "mE lia")) ho hz).le (by simp [T.ht_e]; k_extra "mE lia")
  | blk a b iha ihb =>
    intro ho hz
    simp only [T.sz_e] at hz
    refine (used_ts (n := 9 * max a.ht b.ht + 12) [a, b] (by decide) (by decide) (by decide) (by decide) (by decide) rfl rfl (fun u hu => ?_) (by simp; k_extra "mE lia") (by simp)).le (by simp [T.ht_e]; k_extra "mE lia")
    simp only [List.mem_cons, List.not_mem_nil, or_false] at hu
    rcases hu with rfl | rfl
    · exact (iha ho.1 (by k_extra "mE lia")).le (by k_extra "mE lia")
    · exact (ihb ho.2 (by k_extra "mE lia")).le (by k_extra "mE lia")
  | ite a b iha ihb =>
    intro ho hz
    simp only [T.sz_e] at hz
    refine (used_ts (n := 9 * max a.ht b.ht + 12) [a, b] (by decide) (by decide) (by decide) (by decide) (by decide) rfl rfl (fun u hu => ?_) (by simp; k_extra "mE lia") (by simp)).le (by simp [T.ht_e]; k_extra "mE lia")
    simp only [List.mem_cons, List.not_mem_nil, or_false] at hu
    rcases hu with rfl | rfl
    · exact (iha ho.1 (by k_extra "mE lia")).le (by k_extra "mE lia")
    · exact (ihb ho.2 (by k_extra "mE lia")).le (by k_extra "mE lia")
  | whl a b iha ihb =>
    intro ho hz
    have hz' := hz
    simp only [T.sz_e] at hz'
    exact (used_whl (n := 9 * max a.ht b.ht + 12) a b ((iha ho.1 (by k_extra "mE lia")).le (by k_extra "mE lia")) ((ihb ho.2 (by k_extra "mE lia")).le (by k_extra "mE lia")) hz).le (by simp [T.ht_e]; k_extra "mE lia")
  | lt x a b iha ihb =>
    intro ho hz
    have hz' := hz
    simp only [T.sz_e] at hz'
    exact (used_lt (n := 9 * max a.ht b.ht + 12) x a b ((iha ho.1 (by k_extra "mE lia")).le (by k_extra "mE lia")) ((ihb ho.2 (by k_extra "mE lia")).le (by k_extra "mE lia")) (by k_extra "mE lia") hz).le (by simp [T.ht_e]; k_extra "mE lia")
  | fr x a b iha ihb =>
    intro ho hz
    have hz' := hz
    simp only [T.sz_e] at hz'
    exact (used_fr (n := 9 * max a.ht b.ht + 12) x a b ((iha ho.1 (by k_extra "mE lia")).le (by k_extra "mE lia")) ((ihb ho.2 (by k_extra "mE lia")).le (by k_extra "mE lia")) (by k_extra "mE lia") hz).le (by simp [T.ht_e]; k_extra "mE lia")
  | cmp a x b iha ihb =>
    intro ho hz
    have hz' := hz
    simp only [T.sz_e] at hz'
    exact (used_cmp (n := 9 * max a.ht b.ht + 12) a x b ((iha ho.1 (by k_extra "mE lia")).le (by k_extra "mE lia")) ((ihb ho.2 (by k_extra "mE lia")).le (by k_extra "mE lia")) (by k_extra "mE lia") hz).le (by simp [T.ht_e]; k_extra "mE lia")
end
example : Sep := by w_top off; first | walk1 | trivial
inductive Row where
  | as (y : Str) (b : Bool)
  | held (ys : List Str)
inductive RowsAt (K : Addr → Prop) (news : List (Addr × Obj)) : List Row → List Value → Prop
  | nil : RowsAt K news [] []
  | as {a : Addr} {t1 t2 : Tok} {y : Str} {b : Bool} {rows : List Row} {vs : List Value} : (a, tupObj [.str (Str.ofString "assigned") t1, .str y t2, .bool b]) ∈ news → K a → RowsAt K news rows vs → RowsAt K news (.as y b :: rows) (.ref a :: vs)
  | held {a l : Addr} {t1 : Tok} {us : List Value} {n : Nat} {ys : List Str} {rows : List Row} {vs : List Value} : (a, tupObj [.str (Str.ofString "held") t1, .ref l, .bool true]) ∈ news → K a → (l, listOf us.toArray n) ∈ news → K l → StrsAre us ys → RowsAt K news rows vs →
      RowsAt K news (.held ys :: rows) (.ref a :: vs)
theorem RowsAt.mono {K K' : Addr → Prop} {news news' : List (Addr × Obj)} (h : ∀ p ∈ news, K p.1 → p ∈ news' ∧ K' p.1) {rows : List Row} {vs : List Value} (r : RowsAt K news rows vs) : RowsAt K' news' rows vs := by
  induction r with
  | nil => exact .nil
  | as h1 h2 _ ih => exact .as (h _ h1 h2).1 (h _ h1 h2).2 ih
  | held h1 h2 h3 h4 h5 _ ih => exact .held (h _ h1 h2).1 (h _ h1 h2).2 (h _ h3 h4).1 (h _ h3 h4).2 h5 ih
theorem RowsAt.append {K : Addr → Prop} {news : List (Addr × Obj)} {r1 r2 : List Row} {v1 v2 : List Value} (h : RowsAt K news r1 v1) (h' : RowsAt K news r2 v2) : RowsAt K news (r1 ++ r2) (v1 ++ v2) := by
  induction h with
  | nil => exact h'
  | as h1 h2 _ ih => exact .as h1 h2 ih
  | held h1 h2 h3 h4 h5 _ ih => exact .held h1 h2 h3 h4 h5 ih
theorem RowsAt.length {K : Addr → Prop} {news : List (Addr × Obj)} {r1 : List Row} {v1 : List Value} (h : RowsAt K news r1 v1) : v1.length = r1.length := by
  induction h with
  | nil => rfl
  | as _ _ _ ih => simp [ih]
  | held _ _ _ _ _ _ ih => simp [ih]
noncomputable abbrev edict (h1 : Int) (k1 : Tok) (lr : Addr) : Obj := dictOf [⟨h1, .str (Str.ofString "rows") k1, .ref lr⟩] 1
noncomputable abbrev eobs (h1 : Int) (k1 : Tok) (x dx lr : Addr) (vs : List Value) (n : Nat) : List (Addr × Obj) := [(x, instObj 255 dx), (dx, edict h1 k1 lr), (lr, listOf vs.toArray n)]
noncomputable def Apart3 (x dx lr : Nat) : Prop := @LT.lt Nat _ dx x ∧ @LT.lt Nat _ x lr
noncomputable abbrev three (x dx lr : Addr) (b : Addr) : Prop := b = x ∨ b = dx ∨ b = lr
noncomputable def EvOut (h : Heap) (h1 : Int) (k1 : Tok) (x dx lr : Addr) (vs : List Value) (rows : List Row) (v : Value) (h' : Heap) : Prop :=
  v = .none ∧ ∃ vs' n' rs, (∀ p ∈ eobs h1 k1 x dx lr (vs ++ vs') n', h'.get? p.1 = some p.2) ∧ (∀ p ∈ rs, h'.get? p.1 = some p.2 ∧ h.get? p.1 = none) ∧ RowsAt (fun _ => True) rs rows vs'
noncomputable def EvOk (w : World) (g : Heap) (x dx lr : Addr) (h1 : Int) (k1 : Tok) (f : Addr) (args : List Value) (rows : List Row) (k : Nat) : Prop :=
  ∀ (A : Around) (s : Shared) (vs : List Value) (n : Nat), Le g s.heap → Rm A k → (∀ p ∈ eobs h1 k1 x dx lr vs n, s.heap.get? p.1 = some p.2) → vs.length + rows.length ≤ 2 ^ 20 →
    Calls w A s f (.ref x :: args) (three x dx lr) (EvOut s.heap h1 k1 x dx lr vs rows)
noncomputable abbrev Ek (s : Shared) : Addr → Prop := fun a => s.heap.get? a = none
inductive UpdT (d : Addr) (o : Obj) (rs : List (Addr × Obj)) : List (Addr × Obj) → (Obj → List (Addr × Obj) → List (Addr × Obj)) → Prop
  | head : UpdT d o rs ((d, o) :: rs) (fun o' rs' => (d, o') :: rs')
  | tail {p : Addr × Obj} {l : List (Addr × Obj)} {g : Obj → List (Addr × Obj) → List (Addr × Obj)} : p.1 ≠ d → UpdT d o rs l g → UpdT d o rs (p :: l) (fun o' rs' => p :: g o' rs')
theorem UpdT.mem {d : Addr} {o : Obj} {rs news : List (Addr × Obj)} {g : Obj → List (Addr × Obj) → List (Addr × Obj)} (U : UpdT d o rs news g) : (d, o) ∈ news := by
  induction U with
  | head => exact .head _
  | tail _ _ ih => exact .tail _ ih
theorem UpdT.old {d : Addr} {o : Obj} {rs news : List (Addr × Obj)} {g : Obj → List (Addr × Obj) → List (Addr × Obj)} (U : UpdT d o rs news g) (o' : Obj) (rs' : List (Addr × Obj)) : ∀ p ∈ news, p.1 ≠ d → p ∈ g o' (rs' ++ rs) := by
  induction U with
  | head =>
    intro p hp hn
    rcases List.mem_cons.mp hp with rfl | hp
    · exact absurd rfl hn
    · exact .tail _ (List.mem_append_right _ hp)
  | tail _ _ ih =>
    intro p hp hn
    rcases List.mem_cons.mp hp with rfl | hp
    · exact .head _
    · exact .tail _ (ih p hp hn)
theorem UpdT.new {d : Addr} {o : Obj} {rs news : List (Addr × Obj)} {g : Obj → List (Addr × Obj) → List (Addr × Obj)} (U : UpdT d o rs news g) (o' : Obj) (rs' : List (Addr × Obj)) : ∀ p ∈ rs', p ∈ g o' rs' := by
  induction U with
  | head => intro p hp; exact .tail _ hp
  | tail _ _ ih => intro p hp; exact .tail _ (ih p hp)
theorem UpdT.inv {d : Addr} {o : Obj} {rs news : List (Addr × Obj)} {g : Obj → List (Addr × Obj) → List (Addr × Obj)} (U : UpdT d o rs news g) (hrs : ∀ p ∈ rs, p.1 ≠ d) (o' : Obj) (rs' : List (Addr × Obj)) : ∀ p ∈ g o' (rs' ++ rs), (p.1 ≠ d ∧ p ∈ news) ∨ p = (d, o') ∨ p ∈ rs' := by
  induction U with
  | head =>
    intro p hp
    rcases List.mem_cons.mp hp with rfl | hp
    · exact .inr (.inl rfl)
    · rcases List.mem_append.mp hp with hp | hp
      · exact .inr (.inr hp)
      · exact .inl ⟨hrs p hp, .tail _ hp⟩
  | tail hn _ ih =>
    intro p hp
    rcases List.mem_cons.mp hp with rfl | hp
    · exact .inl ⟨hn, .head _⟩
    · rcases ih p hp with h | h | h
      · exact .inl ⟨h.1, .tail _ h.2⟩
      · exact .inr (.inl h)
      · exact .inr (.inr h)
section
variable {A : Around} {s : Shared} {x dx lr f : Addr} {h1 : Int} {k1 : Tok} {args pre vo : List Value} {rows old : List Row} {k n : Nat} {Q E : Value → Shared → Prop} {h₀ : Heap} {L : Addr} {m : Str → Option Value} {news rs : List (Addr × Obj)} {g : Obj → List (Addr × Obj) → List (Addr × Obj)} {K : Addr → Prop}
theorem ev_u0 (c : ∀ vs n, (∀ p ∈ eobs h1 k1 x dx lr vs n, s.heap.get? p.1 = some p.2) → vs.length + rows.length ≤ 2 ^ 20 → Calls w A s f (.ref x :: args) (three x dx lr) (EvOut s.heap h1 k1 x dx lr vs rows)) (F : Fr h₀ L s.heap m) (N : News h₀ L s.heap news) (hx : (x, instObj 255 dx) ∈ news) (hd : (dx, edict h1 k1 lr) ∈ news) (U : UpdT lr (listOf (List.toArray (pre ++ vo)) n) rs news g)
    (hrs : ∀ p ∈ rs, p.1 ≠ lr) (hR : RowsAt K news old vo) (hK : ∀ a, K a → a ≠ lr) (hKs : ∀ a, s.heap.get? a = none → K a) (hap : Apart3 x dx lr) (hz : pre.length + old.length + rows.length ≤ 2 ^ 20)
    (kk : ∀ n' rs' vs' h' tk, RowsAt K (g (listOf (List.toArray (pre ++ vs')) n') rs') (old ++ rows) vs' → (∀ p ∈ rs', p.1 ≠ lr) → Fr h₀ L h' m → News h₀ L h' (g (listOf (List.toArray (pre ++ vs')) n') rs') → (∀ p ∈ news, p.1 ≠ lr → p ∈ g (listOf (List.toArray (pre ++ vs')) n') rs') → Q .none { s with heap := h', toks := tk }) :
    wpAny (model PR w) A (call (.ref f) (.ref x :: args)) Q E s := by
  have hu := N _ U.mem
  have hxx := N _ hx
  have hdd := N _ hd
  have all : ∀ p ∈ eobs h1 k1 x dx lr (pre ++ vo) n, s.heap.get? p.1 = some p.2 ∧ p.1 ≠ L ∧ h₀.get? p.1 = none := fun p hp => by
    simp only [List.mem_cons, List.not_mem_nil, or_false] at hp
    rcases hp with rfl | rfl | rfl
    · exact hxx
    · exact hdd
    · exact hu
  refine wpAny_mono (c (pre ++ vo) n (fun p hp => (all p hp).1) (by rw [List.length_append, hR.length]; exact hz)) (fun v s' p => ?_) fun _ _ x => x.elim
  refine ex0_4 p ?_; clear p; intro S hk eK; subst eK; intro gN30; refine ex3_3 gN30 ?_; clear gN30; intro vs' n' rs' ho hr hrows
  rw [S.to]
  rw [List.append_assoc] at ho
  have off : ∀ b, three x dx lr b → b ≠ L ∧ h₀.get? b = none := by
    rintro b (rfl | rfl | rfl)
    · exact hxx.2
    · exact hdd.2
    · exact hu.2
  refine ex3_2 (F.ns) ?_; intro oL es ep hL rL
  have F' : Fr h₀ L s'.heap m := ⟨⟨oL, es, ep, hk _ _ hL fun q => (off _ q).1 rfl, rL⟩, fun b o e => hk b o (F.keep b o e) fun q => (by rw [(off b q).2] at e; cases e), F.above⟩
  have hrs2 : ∀ p ∈ rs' ++ rs, p.1 ≠ lr := fun p hp => by
    rcases List.mem_append.mp hp with hp | hp
    · intro e; have := (hr p hp).2; rw [e, hu.1] at this; cases this
    · exact hrs p hp
  have hnews : News h₀ L s'.heap (g (listOf (List.toArray (pre ++ (vo ++ vs'))) n') (rs' ++ rs)) := fun p hp => by
    rcases U.inv hrs _ _ p hp with ⟨h1', h2'⟩ | rfl | h
    · have P := N p h2'
      by_cases h3 : three x dx lr p.1
      · refine ⟨?_, P.2⟩
        rcases h3 with h3 | h3 | h3
        · have e : p.2 = instObj 255 dx := by have q := P.1; rw [h3, hxx.1] at q; exact (Option.some.inj q).symm
          rw [h3, e]; exact ho (x, instObj 255 dx) (.head _)
        · have e : p.2 = edict h1 k1 lr := by have q := P.1; rw [h3, hdd.1] at q; exact (Option.some.inj q).symm
          rw [h3, e]; exact ho (dx, edict h1 k1 lr) (.tail _ (.head _))
        · exact absurd h3 h1'
      · exact ⟨hk _ _ P.1 h3, P.2⟩
    · exact ⟨ho (lr, _) (.tail _ (.tail _ (.head _))), hu.2⟩
    · refine ⟨(hr p h).1, fun q => ?_, ?_⟩
      · have := (hr p h).2; rw [q, hL] at this; cases this
      · cases q : h₀.get? p.1 with
        | none => rfl
        | some o => have := (hr p h).2; rw [F.keep _ _ q] at this; cases this
  refine kk n' (rs' ++ rs) (vo ++ vs') s'.heap s'.toks (RowsAt.append (hR.mono fun p hp hk => ⟨U.old _ _ p hp (hK _ hk), hk⟩) ((hrows.mono (K' := K) (news' := rs') fun p hp _ => ⟨hp, hKs _ (hr p hp).2⟩).mono fun p hp hk => ⟨U.new _ _ p (List.mem_append_left _ hp), hk⟩)) hrs2 F' hnews fun p hp hn => U.old _ _ p hp hn
theorem ev_u (c : EvOk w h₀ x dx lr h1 k1 f args rows k) (F : Fr h₀ L s.heap m) (N : News h₀ L s.heap news) (r : Rm A k) (hx : (x, instObj 255 dx) ∈ news) (hd : (dx, edict h1 k1 lr) ∈ news) (U : UpdT lr (listOf (List.toArray (pre ++ vo)) n) rs news g)
    (hrs : ∀ p ∈ rs, p.1 ≠ lr) (hR : RowsAt K news old vo) (hK : ∀ a, K a → a ≠ lr) (hKs : ∀ a, s.heap.get? a = none → K a) (hap : Apart3 x dx lr) (hz : pre.length + old.length + rows.length ≤ 2 ^ 20)
    (kk : ∀ n' rs' vs' h' tk, RowsAt K (g (listOf (List.toArray (pre ++ vs')) n') rs') (old ++ rows) vs' → (∀ p ∈ rs', p.1 ≠ lr) → Fr h₀ L h' m → News h₀ L h' (g (listOf (List.toArray (pre ++ vs')) n') rs') → (∀ p ∈ news, p.1 ≠ lr → p ∈ g (listOf (List.toArray (pre ++ vs')) n') rs') → Q .none { s with heap := h', toks := tk }) :
    wpAny (model PR w) A (call (.ref f) (.ref x :: args)) Q E s :=
  ev_u0 (fun vs n => c A s vs n F.keep r) F N hx hd U hrs hR hK hKs hap hz kk
theorem fresh_back {s : Shared} {L : Addr} {m : Str → Option Value} {news : List (Addr × Obj)} {s₀ : Shared} {hb : Heap} {ws : List (Addr × Obj)} (hk : ∀ b o, s₀.heap.get? b = some o → (∀ p ∈ ws, b ≠ p.1) → hb.get? b = some o) (F : Fr hb L s.heap m) (N : News hb L s.heap news) (hw : ∀ p ∈ ws, ∃ o, (p.1, o) ∈ news) : ∀ a, s.heap.get? a = none → Ek s₀ a := by
  intro a ha
  show s₀.heap.get? a = none
  cases q : s₀.heap.get? a with
  | none => rfl
  | some o =>
    exfalso
    by_cases h : ∀ p ∈ ws, a ≠ p.1
    · rw [F.keep _ _ (hk a o q h)] at ha; cases ha
    · apply h
      intro p hp e
      refine ex1_1 (hw p hp) ?_; intro o' ho'
      rw [e, (N _ ho').1] at ha; cases ha
theorem three_in {news : List (Addr × Obj)} {a b c : Addr} {oa ob oc oa' ob' oc' : Obj} (h1 : (a, oa) ∈ news) (h2 : (b, ob) ∈ news) (h3 : (c, oc) ∈ news) : ∀ p ∈ [(a, oa'), (b, ob'), (c, oc')], ∃ o, (p.1, o) ∈ news := fun p hp => by
  simp only [List.mem_cons, List.not_mem_nil, or_false] at hp
  rcases hp with rfl | rfl | rfl
  · exact ⟨_, h1⟩
  · exact ⟨_, h2⟩
  · exact ⟨_, h3⟩
theorem ev_end {s₂ : Shared} {hb : Heap} {vs vs' v0 : List Value} {n n' : Nat} (S : Same s s₂) (hk : ∀ b o, s.heap.get? b = some o → (∀ p ∈ eobs h1 k1 x dx lr v0 n, b ≠ p.1) → hb.get? b = some o)
    (F : Fr hb L s₂.heap m) (N : News hb L s₂.heap news) (hx : (x, instObj 255 dx) ∈ news) (hd : (dx, edict h1 k1 lr) ∈ news) (hl : (lr, listOf (List.toArray (vs ++ vs')) n') ∈ news) (hR : RowsAt (Ek s) news rows vs') :
    Post s (three x dx lr) (EvOut s.heap h1 k1 x dx lr vs rows) .none s₂ := by
  refine ⟨S, fun b o e hw => F.keep b o (hk b o e fun p hp q => hw ?_), rfl, vs', n', news.filter (fun p => (s.heap.get? p.1).isNone), fun p hp => ?_, fun p hp => ?_, hR.mono fun p hp hk => ⟨List.mem_filter.mpr ⟨hp, by rw [show s.heap.get? p.1 = none from hk]; rfl⟩, trivial⟩⟩
  · simp only [List.mem_cons, List.not_mem_nil, or_false] at hp
    rcases hp with rfl | rfl | rfl
    · exact .inl q
    · exact .inr (.inl q)
    · exact .inr (.inr q)
  · simp only [List.mem_cons, List.not_mem_nil, or_false] at hp
    rcases hp with rfl | rfl | rfl
    · exact (N _ hx).1
    · exact (N _ hd).1
    · exact (N _ hl).1
  · refine ex0_2 (List.mem_filter.mp hp) ?_; intro h1' h2'
    refine ⟨(N _ h1').1, ?_⟩
    cases q : s.heap.get? p.1 with
    | none => rfl
    | some o => rw [q] at h2'; cases h2'
end
example : Sep := by w_top off; first | walk1 | trivial
local macro_rules | `(tactic| k_all) => `(tactic| k_extra "u77e797")
example : True := by
 k_with "u77e797" => with_reducible assumption
 k_with "mE updT" => (repeat' (first | exact UpdT.head | refine' UpdT.tail ?_ ?_ | k_ne))
 exact trivial
theorem turnableC {h h₁ : Heap} {L : Addr} {m : Str → Option Value} {cells : List (Addr × Obj)} (ws : List (Addr × Obj)) (F : Fr h L h₁ m) (Nc : News h L h₁ cells) (hL : L = h.objs.size) (e : ∀ p ∈ ws, h.get? p.1 = some p.2) {g : Heap} (hg : Le g h) (off : ∀ p ∈ ws, g.get? p.1 = none) :
    ∃ hb, Fr hb L h₁ m ∧ News hb L h₁ (ws ++ cells) ∧ Le g hb ∧ ∀ b o, h.get? b = some o → (∀ p ∈ ws, b ≠ p.1) → hb.get? b = some o := by
  refine ⟨hideAll h (ws.map (·.1)), ⟨F.ns, fun b o e => F.keep b o (of_hideAll _ e), by rw [hideAll_size]; exact F.above⟩, fun p hp => ?_, fun b o eb => hideAll_get _ (hg b o eb) fun hm => ?_, fun b o eb hn => hideAll_get _ eb fun hm => ?_⟩
  · rcases List.mem_append.mp hp with hp | hp
    · exact ⟨F.keep _ _ (e p hp), fun q => absurd (Heap.lt_size (e p hp)) (by rw [q, hL]; exact Nat.lt_irrefl _), hideAll_none _ (List.mem_map_of_mem hp)⟩
    · have P := Nc p hp
      refine ⟨P.1, P.2.1, ?_⟩
      cases q : (hideAll h (ws.map (·.1))).get? p.1 with
      | none => rfl
      | some o => have := of_hideAll _ q; rw [P.2.2] at this; cases this
  · refine ex1_2 (List.mem_map.mp hm) ?_; intro p hp eK; subst eK; rw [off p hp] at eb; cases eb
  · refine ex1_2 (List.mem_map.mp hm) ?_; intro p hp eK; subst eK; exact hn p hp rfl
section
noncomputable def InAsg : Prop := True
example : True := by
 k_with "mnewTuple" => ((fail_if_success (fail_if_success (have mk' : InAsg := by with_reducible assumption))); k_dflt (refine' newTuple_NK ?jF ?jN ?_ ?jz; k_extra "mFN"; (case jz => kmk_size)); intro _ _ _ _; k_extra "msw")
 exact trivial
variable {A : Around} {s : Shared} {x dx lr l : Addr} {h1 : Int} {k1 t1 : Tok} {vs : List Value} {n nl : Nat} {y : Str} {g : Heap} {b : Bool}
theorem assigned_c (O : OkH w g) (hg : Le g s.heap) (r : Rm A 1) (he : ∀ p ∈ eobs h1 k1 x dx lr vs n, s.heap.get? p.1 = some p.2) (hne : Apart3 x dx lr) (hoff : ∀ p ∈ eobs h1 k1 x dx lr vs n, g.get? p.1 = none)
    (hl : s.heap.get? l = some (listOf (List.toArray [.str y t1]) nl)) (hl1 : @Ne Nat l x) (hl2 : @Ne Nat l dx) (hl3 : @Ne Nat l lr) (hz : vs.length + 1 ≤ 2 ^ 20) :
    Calls w A s 224 [.ref x, .ref l, .bool b] (three x dx lr) (EvOut s.heap h1 k1 x dx lr vs [.as y b]) := by
  refine' enterC [((Str.ofString "self"), .ref x), ((Str.ofString "names"), .ref l), ((Str.ofString "is_sure"), .bool b)] (O.keeps hg) r ?k6 ?k7 ?k9 ?kB ?kD ?_ ?c1 ?c2 ?c3 ?c5; k_extra "eC"
  have mkL : InAsg := trivial
  refine ex1_4 (turnableC _ F N hL' he hg hoff) ?_; intro hb F N hgh hk
  have O' := O.keeps hgh
  unfold Apart3 at hne
  refine ex1_2 (Y.one) ?_; intro oc eK; subst eK; intro hoc
  have hoc' : oc.data = .cell (some (.bool b)) := hoc
  have hlb : hb.get? l = some (listOf (List.toArray [.str y t1]) nl) := hk _ _ hl fun p hp => by
    simp only [List.mem_cons, List.not_mem_nil, or_false] at hp
    rcases hp with rfl | rfl | rfl
    · exact hl1
    · exact hl2
    · exact hl3
  have X := OkH.X O'; have T := OkH.top O'
  have hxl : @LT.lt Nat _ lr (L' + 1) := by have : @LT.lt Nat _ lr s.heap.objs.size := Heap.lt_size (he _ (.tail _ (.tail _ (.head _)))); k_extra "mE lia"
  clear Y hoc
  simp only [List.cons_append, List.nil_append] at N
  k_steps
  have hfb := fresh_back hk F N (three_in (by k_mem) (by k_mem) (by k_mem))
  have hcc : s₁.heap.get? (L' + 1) = some oc := News.get N (by k_mem)
  have O3 := O'.keeps F.keep
  refine comp_list0 (fun i ys gg => (i = 0 → ys = []) ∧ (i = 1 → ∃ a t, ys = [.ref a] ∧ gg.get? a = some (tupObj [.str (Str.ofString "assigned") t, .str y t1, .bool b]) ∧ s₁.heap.get? a = none)) (fun _ _ _ _ h k => ⟨h.1, fun e => let ⟨a, t, h1, h2, h3⟩ := h.2 e; ⟨a, t, h1, k _ _ h2, h3⟩⟩) r.hd (F.keep _ _ hlb) (by decide) rfl rfl (by simp) ⟨fun _ => rfl, fun e => by cases e⟩ ?_ ?_
  · intro i v s₃ C m zs hid hv hlen hS F4 hfr hV
    rcases i with _ | i
    · simp at hv
      subst hv
      have hz0 := hV.1 rfl
      subst hz0
      refine tests_nil ?_
      rw [if_pos rfl]
      have N4 : News s₁.heap C s₃.heap [] := News.nil
      have X3 := OkH.X O3; have T3 := OkH.top O3
      clear T X F N
      k_steps
      rename_i h11 F11 N11 le11
      have hoff3 : s₃.heap.get? s₃.heap.objs.size = none := Heap.get?_none_of_le (Nat.le_refl _)
      refine ⟨⟨⟨rfl, rfl, rfl⟩, fun b o _ q => le11 b o q⟩, (fun e => by cases e), fun _ => ⟨_, _, rfl, hideAll_get hid (N11 _ (.head _)).1 (hfr _ hoff3), (N11 _ (.head _)).2.2⟩⟩
    · simp at hv
  · intro D s' zs hS' hD hL hV hlen hle
    refine ex1_1 hL ?_; clear hL; intro nD hL
    refine ex2_3 (hV.2 rfl) ?_; intro a t eK; subst eK; intro ha ha0
    clear hV
    have ha := of_hideAll _ ha
    have hDn := News.neOf N hD
    have hAn := News.neOf N ha0
    simp only [NeAll.e1, NeAll.e2, and_true] at hDn hAn
    have F7 := Fr.le F hle
    have N7 := News.cons F (News.cons F (News.le N hle) ha0 ha) hD (show _ = some (listOf (List.toArray [.ref a]) nD) from hL)
    have S7 := Same.trans S hS'
    clear F N
    k_steps
    exact ev_end S7 hk (by assumption) (by assumption) (by k_mem) (by k_mem) (by k_mem) (.as (by k_mem) (hfb _ ha0) .nil)
end
example : Sep := by w_top off; first | walk1 | trivial
theorem RowsAt.cons {K : Addr → Prop} {news : List (Addr × Obj)} {q : Addr × Obj} {rows : List Row} {vs : List Value} (r : RowsAt K news rows vs) : RowsAt K (q :: news) rows vs := r.mono fun _ hp hk => ⟨.tail _ hp, hk⟩
noncomputable def Ek2 (s : Shared) (I : Addr) : Addr → Prop := fun a => Ek s a ∧ a ≠ I
theorem fresh_back2 {s s₀ : Shared} {hb : Heap} {L I : Addr} {o : Obj} {m : Str → Option Value} {news ws : List (Addr × Obj)} (hk : ∀ b o, s₀.heap.get? b = some o → (∀ p ∈ ws, b ≠ p.1) → hb.get? b = some o) (F : Fr hb L s.heap m) (N : News hb L s.heap news) (hw : ∀ p ∈ ws, ∃ o, (p.1, o) ∈ news) (hI : (I, o) ∈ news) : ∀ a, s.heap.get? a = none → Ek2 s₀ I a :=
  fun a h => ⟨fresh_back hk F N hw a h, fun e => by rw [e, (N _ hI).1] at h; cases h⟩
section
variable {A : Around} {s : Shared} {x dx lr l : Addr} {h1 : Int} {k1 : Tok} {pre vo vl : List Value} {rows old : List Row} {k n nl : Nat} {y : Str} {b : Bool} {Q E : Value → Shared → Prop} {h₀ : Heap} {L : Addr} {m : Str → Option Value} {news rs : List (Addr × Obj)} {g : Obj → List (Addr × Obj) → List (Addr × Obj)} {K : Addr → Prop}
theorem as_u (F : Fr h₀ L s.heap m) (N : News h₀ L s.heap news) (O : OkH w h₀) (r : Rm A 1) (hl : (l, listOf vl.toArray nl) ∈ news) (hs : StrsAre vl [y]) (hl1 : @Ne Nat l x) (hl2 : @Ne Nat l dx) (hl3 : @Ne Nat l lr) (hx : (x, instObj 255 dx) ∈ news) (hd : (dx, edict h1 k1 lr) ∈ news) (U : UpdT lr (listOf (List.toArray (pre ++ vo)) n) rs news g)
    (hrs : ∀ p ∈ rs, p.1 ≠ lr) (hR : RowsAt K news old vo) (hK : ∀ a, K a → a ≠ lr) (hKs : ∀ a, s.heap.get? a = none → K a) (hap : Apart3 x dx lr) (hz : pre.length + old.length + 1 ≤ 2 ^ 20)
    (kk : ∀ n' rs' vs' h' tk, RowsAt K (g (listOf (List.toArray (pre ++ vs')) n') rs') (old ++ [.as y b]) vs' → (∀ p ∈ rs', p.1 ≠ lr) → Fr h₀ L h' m → News h₀ L h' (g (listOf (List.toArray (pre ++ vs')) n') rs') → (∀ p ∈ news, p.1 ≠ lr → p ∈ g (listOf (List.toArray (pre ++ vs')) n') rs') → Q .none { s with heap := h', toks := tk }) :
    wpAny (model PR w) A (call (.ref 224) [.ref x, .ref l, .bool b]) Q E s := by
  have hu := N _ U.mem
  have hxx := N _ hx
  have hdd := N _ hd
  cases hs with
  | cons _ t1 hs =>
  cases hs
  refine ev_u0 (rows := [.as y b]) (args := [.ref l, .bool b]) (fun vs n he hz => assigned_c O F.keep r he hap (fun p hp => ?_) (N _ hl).1 hl1 hl2 hl3 hz) F N hx hd U hrs hR hK hKs hap hz kk
  simp only [List.mem_cons, List.not_mem_nil, or_false] at hp
  rcases hp with rfl | rfl | rfl
  · exact hxx.2.2
  · exact hdd.2.2
  · exact hu.2.2
end
example : True := by
 k_with "mE rows" => (repeat' (first | with_reducible assumption | refine' RowsAt.cons ?_))
 k_with "mE ks" => first | exact fresh_back (by assumption) (by assumption) (by assumption) (three_in (by k_mem) (by k_mem) (by k_mem)) | exact fresh_back2 (by assumption) (by assumption) (by assumption) (three_in (by k_mem) (by k_mem) (by k_mem)) (by k_mem)
 k_with "mE ev" => (k_dflt (refine' ev_u ?jc ?jf ?jn ?jr ?jx ?jd ?ju ?jq ?jrr ?jk ?jks ?jap ?jz ?_; (case jc => k_extra "a"); k_extra "mP2"; (case jr => k_extra "mE rm"); (case jx => k_mem); (case jd => k_mem); (case ju => k_extra "mE updT"); (case jq => k_extra "mnm"); (case jrr => k_extra "mE rows"); (case jk => k_extra "a"); (case jks => k_extra "mE ks"); (case jap => k_extra "a"); (case jz => k_extra "mol")); intro _ _ _ _ _ R' q' F' N' old'; (try dsimp only at R' N' old'); (try simp only [List.nil_append] at R'); revert R' q' F' N' old'; intro _ _ _ _ _; k_extra "msw")
 k_with "mcall ref" => ((with_reducible refine (?_ : wpAny _ _ (call (.ref 224) _) _ _ _)); k_dflt (refine' as_u ?jf ?jn ?jo ?jr ?jl ?js ?jn1 ?jn2 ?jn3 ?jx ?jd ?ju ?jq ?jrr ?jk ?jks ?jap ?jz ?_; k_extra "mP4"; (case jl => k_mem); (case js => first | assumption | exact .cons _ _ .nil); (case jx => k_mem); (case jd => k_mem); (case jn1 => k_ne); (case jn2 => k_ne); (case jn3 => k_ne); (case ju => k_extra "mE updT"); (case jq => k_extra "mnm"); (case jrr => k_extra "mE rows"); (case jk => k_extra "a"); (case jks => k_extra "mE ks"); (case jap => k_extra "a"); (case jz => k_extra "mol")); intro _ _ _ _ _ R' q' F' N' old'; (try dsimp only at R' N' old'); (try simp only [List.nil_append] at R'); revert R' q' F' N' old'; intro _ _ _ _ _; k_extra "msw")
 k_with "mcall ref" => ((with_reducible refine (?_ : wpAny _ _ (call (.ref 231) _) _ _ _)); k_extra "mE ev")
 k_with "mcall ref" => ((with_reducible refine (?_ : wpAny _ _ (call (.ref 238) _) _ _ _)); k_extra "mE ev")
 k_with "mcall ref" => ((with_reducible refine (?_ : wpAny _ _ (call (.ref 245) _) _ _ _)); k_extra "mE ev")
 k_with "mcall ref" => ((with_reducible refine (?_ : wpAny _ _ (call (.ref 252) _) _ _ _)); k_extra "mE ev")
 exact trivial
noncomputable def LookOk (w : World) (t : Tr) (d : Bool → List Row) (n : Nat) : Prop := ∀ (g : Heap) (x dx lr : Addr) (h1 : Int) (k1 : Tok) (v : Value) (b : Bool), OkH w g → TreeAt g t v → Apart3 x dx lr → (∀ p ∈ eobs h1 k1 x dx lr [] 0, g.get? p.1 = none) → EvOk w g x dx lr h1 k1 231 [v, .bool b] (d b) n
theorem three_off {h1 : Int} {h₀ h : Heap} {L x dx lr : Addr} {k1 : Tok} {vs : List Value} {n : Nat} (N : News h₀ L h (eobs h1 k1 x dx lr vs n)) : ∀ p ∈ eobs h1 k1 x dx lr [] 0, h₀.get? p.1 = none := fun p hp => by
  simp only [List.mem_cons, List.not_mem_nil, or_false] at hp
  rcases hp with rfl | rfl | rfl
  · exact (N _ (.head _)).2.2
  · exact (N _ (.tail _ (.head _))).2.2
  · exact (N _ (.tail _ (.tail _ (.head _)))).2.2
theorem off_any {h1 : Int} {g : Heap} {x dx lr : Addr} {k1 : Tok} {vs : List Value} {n : Nat} (h : ∀ p ∈ eobs h1 k1 x dx lr [] 0, g.get? p.1 = none) : ∀ p ∈ eobs h1 k1 x dx lr vs n, g.get? p.1 = none := fun p hp => by
  simp only [List.mem_cons, List.not_mem_nil, or_false] at hp
  rcases hp with rfl | rfl | rfl
  · exact h _ (.head _)
  · exact h _ (.tail _ (.head _))
  · exact h (lr, listOf (List.toArray []) 0) (.tail _ (.tail _ (.head _)))
theorem keep_lr {h1 : Int} {s : Shared} {x dx lr : Addr} {k1 : Tok} {vs : List Value} {n : Nat} (he : ∀ p ∈ eobs h1 k1 x dx lr vs n, s.heap.get? p.1 = some p.2) : ∀ a, Ek s a → a ≠ lr := fun a h e => by
  have this : s.heap.get? lr = some _ := he (lr, listOf vs.toArray n) (.tail _ (.tail _ (.head _)))
  have h' : s.heap.get? a = none := h
  rw [e, this] at h'; cases h'
section
theorem look_quo (y : Str) : LookOk w (T.quo y).tr (fun _ => []) 2 := by
  intro g x dx lr h1 k1 v b O ht hap hoff A s vs nl hg r he hz
  k_extra "qB"; refine TreeAt.ex_k ht ?_; clear ht; intro a t1 t2 c ws eK hT hB _; subst eK; k_extra "qC"
  replace he : ∀ p ∈ eobs h1 k1 x dx lr (vs ++ []) nl, s.heap.get? p.1 = some p.2 := by rw [List.append_nil]; exact he
  refine' enter [((Str.ofString "self"), .ref x), ((Str.ofString "tree"), .ref a), ((Str.ofString "is_sure"), .bool b)] (O.keeps hg) r ?k6 ?k7 ?k9 ?kB ?_ ?c1 ?c2 ?c3 ?c4 ?c5; k_extra "eN"
  refine turnable_k _ F hg hL' he (off_any hoff) ?_; intro hb F N hgh hk
  have O' := O.keeps hgh
  have hR : RowsAt (Ek s) (eobs h1 k1 x dx lr (vs ++ []) nl) [] [] := .nil
  dsimp only [eobs] at N hR
  replace hT := hT.keeps hgh
  have X := OkH.X O'; have Tp := OkH.top O'
  k_steps
  exact ev_end S hk (by assumption) (by assumption) (by k_mem) (by k_mem) (by k_mem) (by walk_at "E rows")
theorem look_sym (y : Str) : LookOk w (T.sym y).tr (fun _ => []) 2 := by
  intro g x dx lr h1 k1 v b O ht hap hoff A s vs nl hg r he hz
  k_extra "qB"; (first | refine TreeAt.sym_k ht ?_ | refine TreeAt.one_k ht ?_); clear ht; intro a t1 t2 eK hT; subst eK; k_extra "qC"
  replace he : ∀ p ∈ eobs h1 k1 x dx lr (vs ++ []) nl, s.heap.get? p.1 = some p.2 := by rw [List.append_nil]; exact he
  refine' enter [((Str.ofString "self"), .ref x), ((Str.ofString "tree"), .ref a), ((Str.ofString "is_sure"), .bool b)] (O.keeps hg) r ?k6 ?k7 ?k9 ?kB ?_ ?c1 ?c2 ?c3 ?c4 ?c5; k_extra "eN"
  refine turnable_k _ F hg hL' he (off_any hoff) ?_; intro hb F N hgh hk
  have O' := O.keeps hgh
  have hR : RowsAt (Ek s) (eobs h1 k1 x dx lr (vs ++ []) nl) [] [] := .nil
  dsimp only [eobs] at N hR
  replace hT := hT.keeps hgh
  have X := OkH.X O'; have Tp := OkH.top O'
  k_steps
  exact ev_end S hk (by assumption) (by assumption) (by k_mem) (by k_mem) (by k_mem) (by walk_at "E rows")
theorem look_one : LookOk w T.one.tr (fun _ => []) 2 := by
  intro g x dx lr h1 k1 v b O ht hap hoff A s vs nl hg r he hz
  k_extra "qB"; (first | refine TreeAt.sym_k ht ?_ | refine TreeAt.one_k ht ?_); clear ht; intro a t1 t2 eK hT; subst eK; k_extra "qC"
  replace he : ∀ p ∈ eobs h1 k1 x dx lr (vs ++ []) nl, s.heap.get? p.1 = some p.2 := by rw [List.append_nil]; exact he
  refine' enter [((Str.ofString "self"), .ref x), ((Str.ofString "tree"), .ref a), ((Str.ofString "is_sure"), .bool b)] (O.keeps hg) r ?k6 ?k7 ?k9 ?kB ?_ ?c1 ?c2 ?c3 ?c4 ?c5; k_extra "eN"
  refine turnable_k _ F hg hL' he (off_any hoff) ?_; intro hb F N hgh hk
  have O' := O.keeps hgh
  have hR : RowsAt (Ek s) (eobs h1 k1 x dx lr (vs ++ []) nl) [] [] := .nil
  dsimp only [eobs] at N hR
  replace hT := hT.keeps hgh
  have X := OkH.X O'; have Tp := OkH.top O'
  k_steps
  exact ev_end S hk (by assumption) (by assumption) (by k_mem) (by k_mem) (by k_mem) (by walk_at "E rows")
theorem look_loc (y : Str) : LookOk w (T.loc y).tr (fun _ => [.as y false]) 3 := by
  intro g x dx lr h1 k1 v b O ht hap hoff A s vs nl hg r he hz
  have hkl := keep_lr he
  k_extra "qB"; (first | (refine TreeAt.e1sR ht ?_; clear ht; intro t1 t2 c e u3 u4 hT hB hE) | (refine TreeAt.e1s_k ht ?_; clear ht; intro a t1 t2 c e u3 u4 eK hT hB hE; subst eK)); k_extra "qC"
  replace he : ∀ p ∈ eobs h1 k1 x dx lr (vs ++ []) nl, s.heap.get? p.1 = some p.2 := by rw [List.append_nil]; exact he
  refine' enter [((Str.ofString "self"), .ref x), ((Str.ofString "tree"), .ref a), ((Str.ofString "is_sure"), .bool b)] (O.keeps hg) r ?k6 ?k7 ?k9 ?kB ?_ ?c1 ?c2 ?c3 ?c4 ?c5; k_extra "eN"
  refine turnable_k _ F hg hL' he (off_any hoff) ?_; intro hb F N hgh hk
  have O' := O.keeps hgh
  have hR : RowsAt (Ek s) (eobs h1 k1 x dx lr (vs ++ []) nl) [] [] := .nil
  dsimp only [eobs] at N hR
  replace hT := hT.keeps hgh
  replace hB := hB.keeps hgh
  replace hE := hE.keeps hgh
  simp only [List.length_cons, List.length_nil] at hz
  have hap' := hap
  unfold Apart3 at hap'
  have X := OkH.X O'; have Tp := OkH.top O'
  k_steps
  exact ev_end S hk (by assumption) (by assumption) (by k_mem) (by k_mem) (by k_mem) (by walk_at "E rows")
end
example : Sep := by w_top off; first | walk1 | trivial
theorem RowsAt.eqr {K : Addr → Prop} {news : List (Addr × Obj)} {r1 r2 : List Row} {vs : List Value} (h : RowsAt K news r1 vs) (e : r1 = r2) : RowsAt K news r2 vs := e ▸ h
theorem up_no : (Str.ofString "+=" == Str.ofString "=") = false := by decide
example : True := by
 k_with "mE eqr" => first | rfl | (simp only [List.append_nil, List.nil_append, List.append_assoc, List.cons_append, beq_self_eq_true, up_no]; done) | (simp [up_no]; done)
 exact trivial
section
variable {n : Nat}
theorem look_set {y : Str} {v : T} {n : Nat} {d : Bool → List Row} (hL : LookOk w v.tr d n) (hd : ∀ b, (d b).length ≤ 2 ^ 18) : LookOk w (T.set y v).tr (fun b => d b ++ [.as y b]) (n + 4) := by
  intro g x dx lr h1 k1 vv b O ht hap hoff A s vs nl hg r he hz
  have hkl := keep_lr he
  k_extra "qB"; (first | (refine TreeAt.e2sR ht ?_; clear ht; intro t1 t2 c e u3 u4 v2 hT hB hE hv2) | (refine TreeAt.e2s_k ht ?_; clear ht; intro a t1 t2 c e u3 u4 v2 eK hT hB hE hv2; subst eK)); k_extra "qC"
  replace he : ∀ p ∈ eobs h1 k1 x dx lr (vs ++ []) nl, s.heap.get? p.1 = some p.2 := by rw [List.append_nil]; exact he
  refine' enter [((Str.ofString "self"), .ref x), ((Str.ofString "tree"), .ref a), ((Str.ofString "is_sure"), .bool b)] (O.keeps hg) r ?k6 ?k7 ?k9 ?kB ?_ ?c1 ?c2 ?c3 ?c4 ?c5; k_extra "eN"
  refine turnable_k _ F hg hL' he (off_any hoff) ?_; intro hb F N hgh hk
  have O' := O.keeps hgh
  have hR : RowsAt (Ek s) (eobs h1 k1 x dx lr (vs ++ []) nl) [] [] := .nil
  have c1 := hL hb x dx lr h1 k1 v2 b O' (TreeAt.keeps hgh _ hv2) hap (three_off N)
  have c2 := look_sym y hb x dx lr h1 k1 (.ref e) b O' (by simp only [T.tr_e, TreeAt.e1, TreeAt.e2, TreeAt.e3]; exact ⟨_, _, _, rfl, hE.keeps hgh⟩) hap (three_off N)
  have hdb := hd b
  dsimp only [eobs] at N hR
  replace hT := hT.keeps hgh
  replace hB := hB.keeps hgh
  replace hE := hE.keeps hgh
  simp only [List.length_append, List.length_cons, List.length_nil] at hz
  have hap' := hap
  unfold Apart3 at hap'
  have X := OkH.X O'; have Tp := OkH.top O'
  cases b <;> (
  k_steps
  rename RowsAt _ _ _ _ => R1
  exact ev_end S hk (by assumption) (by assumption) (by k_mem) (by k_mem) (by k_mem) (R1.eqr (by walk_at "E eqr")))
theorem look_up {y : Str} {v : T} {n : Nat} {d : Bool → List Row} (hL : LookOk w v.tr d n) (hd : ∀ b, (d b).length ≤ 2 ^ 18) : LookOk w (T.up y v).tr (fun b => d b ++ [.as y false]) (n + 4) := by
  intro g x dx lr h1 k1 vv b O ht hap hoff A s vs nl hg r he hz
  have hkl := keep_lr he
  k_extra "qB"; (first | (refine TreeAt.e2sR ht ?_; clear ht; intro t1 t2 c e u3 u4 v2 hT hB hE hv2) | (refine TreeAt.e2s_k ht ?_; clear ht; intro a t1 t2 c e u3 u4 v2 eK hT hB hE hv2; subst eK)); k_extra "qC"
  replace he : ∀ p ∈ eobs h1 k1 x dx lr (vs ++ []) nl, s.heap.get? p.1 = some p.2 := by rw [List.append_nil]; exact he
  refine' enter [((Str.ofString "self"), .ref x), ((Str.ofString "tree"), .ref a), ((Str.ofString "is_sure"), .bool b)] (O.keeps hg) r ?k6 ?k7 ?k9 ?kB ?_ ?c1 ?c2 ?c3 ?c4 ?c5; k_extra "eN"
  refine turnable_k _ F hg hL' he (off_any hoff) ?_; intro hb F N hgh hk
  have O' := O.keeps hgh
  have hR : RowsAt (Ek s) (eobs h1 k1 x dx lr (vs ++ []) nl) [] [] := .nil
  have c1 := hL hb x dx lr h1 k1 v2 b O' (TreeAt.keeps hgh _ hv2) hap (three_off N)
  have c2 := look_sym y hb x dx lr h1 k1 (.ref e) b O' (by simp only [T.tr_e, TreeAt.e1, TreeAt.e2, TreeAt.e3]; exact ⟨_, _, _, rfl, hE.keeps hgh⟩) hap (three_off N)
  have hdb := hd b
  dsimp only [eobs] at N hR
  replace hT := hT.keeps hgh
  replace hB := hB.keeps hgh
  replace hE := hE.keeps hgh
  simp only [List.length_append, List.length_cons, List.length_nil] at hz
  have hap' := hap
  unfold Apart3 at hap'
  have X := OkH.X O'; have Tp := OkH.top O'
  cases b <;> (
  k_steps
  rename RowsAt _ _ _ _ => R1
  exact ev_end S hk (by assumption) (by assumption) (by k_mem) (by k_mem) (by k_mem) (R1.eqr (by walk_at "E eqr")))
end
example : Sep := by w_top off; first | walk1 | trivial
noncomputable def EvJ (s : Shared) (h1 : Int) (k1 : Tok) (x dx lr : Addr) (pre : List Value) (acc : List Row) (nx : List (Addr × Obj)) : Prop :=
  ∃ n' rs' vs', nx = (x, instObj 255 dx) :: (dx, edict h1 k1 lr) :: (lr, listOf (List.toArray (pre ++ vs')) n') :: rs' ∧ (∀ p ∈ rs', p.1 ≠ lr) ∧ RowsAt (Ek s) nx acc vs'
theorem turn_end_ev {h1 : Int} {st : List Str} {s s₁ : Shared} {h₀ h' : Heap} {L I x dx lr : Addr} {o : Obj} {k1 : Tok} {pre vs' : List Value} {n' tk : Nat} {acc acc' : List Row} {m₀ m' : Str → Option Value} {news : List (Addr × Obj)} (F : Fr h₀ L h' m') (N : News h₀ L h' news)
    (hI : (I, o) ∈ news) (hx : (x, instObj 255 dx) ∈ news) (hd : (dx, edict h1 k1 lr) ∈ news) (hl : (lr, listOf (List.toArray (pre ++ vs')) n') ∈ news) (hxI : @Ne Nat x I) (hdI : @Ne Nat dx I) (hlI : @Ne Nat lr I) (hkl : ∀ a, Ek s a → a ≠ lr)
    (ag : Agree st m₀ m') (R : RowsAt (Ek2 s I) news acc vs') (e : acc = acc') : TurnEnd h₀ L (fun m nx => Agree st m₀ m ∧ EvJ s h1 k1 x dx lr pre acc' nx) (I, o) s₁ { s₁ with heap := h', toks := tk } := by
  subst e
  refine turn_end ((x, instObj 255 dx) :: (dx, edict h1 k1 lr) :: (lr, listOf (List.toArray (pre ++ vs')) n') :: news.filter fun p => decide (p.1 ≠ I) && decide (p.1 ≠ lr)) F N hI (fun p hp => ?_) (fun p hp => ?_) ⟨ag, n', _, vs', rfl, fun p hp => ?_, R.mono fun p hp hK => ⟨?_, hK.1⟩⟩
  · rcases List.mem_cons.mp hp with rfl | hp
    · exact hx
    · rcases List.mem_cons.mp hp with rfl | hp
      · exact hd
      · rcases List.mem_cons.mp hp with rfl | hp
        · exact hl
        · exact (List.mem_filter.mp hp).1
  · rcases List.mem_cons.mp hp with rfl | hp
    · exact hxI
    · rcases List.mem_cons.mp hp with rfl | hp
      · exact hdI
      · rcases List.mem_cons.mp hp with rfl | hp
        · exact hlI
        · have := (List.mem_filter.mp hp).2
          simp only [Bool.and_eq_true, decide_eq_true_eq] at this
          exact this.1
  · have := (List.mem_filter.mp hp).2
    simp only [Bool.and_eq_true, decide_eq_true_eq] at this
    exact this.2
  · refine .tail _ (.tail _ (.tail _ (List.mem_filter.mpr ⟨hp, ?_⟩)))
    simp only [Bool.and_eq_true, decide_eq_true_eq]
    exact ⟨hK.2, hkl _ hK.1⟩
theorem rows_turn {s : Shared} {I : Addr} {o : Obj} {acc : List Row} {vs : List Value} {nx : List (Addr × Obj)} (R : RowsAt (Ek s) nx acc vs) (hne : ∀ p ∈ nx, p.1 ≠ I) : RowsAt (Ek2 s I) ((I, o) :: nx) acc vs :=
  R.mono fun p hp hK => ⟨.tail _ hp, hK, hne p hp⟩
structure PlL (hd : Str) : Prop where
  em : (hd == Str.ofString "") = false
  si : (SILS.any fun x => x == hd) = false
  fu : (FUNS.any fun x => x == hd) = false
  up : (UPDS.any fun x => x == hd) = false
  lo : (hd == Str.ofString "local") = false
  fo : (hd == Str.ofString "for") = false
  ii : (hd == Str.ofString "in") = false
  hi : (HIDS.any fun x => x == hd) = false
  tr : (hd == Str.ofString "try") = false
theorem treesAt_get {h : Heap} : ∀ {ts : List Tr} {vs : List Value}, TreesAt h ts vs → ∀ (i : Nat) (v : Value), vs[i]? = some v → ∃ t, ts[i]? = some t ∧ TreeAt h t v
  | [], vs, e, i, v, hv => by simp only [TreesAt.e1, TreesAt.e2] at e; rw [e] at hv; simp at hv
  | t :: ts, vs, e, i, v, hv => by
    k_extra "qB"; refine TreesAt.cons_k e ?_; clear e; intro v' r eK h1 h2; subst eK; k_extra "qC"
    cases i with
    | zero => simp only [List.getElem?_cons_zero, Option.some.injEq] at hv; subst hv; exact ⟨t, rfl, h1⟩
    | succ i => simpa using treesAt_get h2 i v (by simpa using hv)
theorem range_next (ds : Nat → List Row) (i : Nat) : (List.range (i + 1)).flatMap ds = (List.range i).flatMap ds ++ ds i := by rw [List.range_succ, List.flatMap_append]; simp
theorem len_next (ds : Nat → List Row) {i k : Nat} (h : i < k) : ((List.range i).flatMap ds).length + (ds i).length ≤ ((List.range k).flatMap ds).length := by
  have e : ((List.range i).flatMap ds).length + (ds i).length = ((List.range (i + 1)).flatMap ds).length := by rw [range_next, List.length_append]
  rw [e]
  obtain ⟨j, rfl⟩ : ∃ j, k = i + 1 + j := ⟨k - (i + 1), (Nat.add_sub_of_le h).symm⟩
  clear e h
  induction j with
  | zero => exact Nat.le_refl _
  | succ j ih => rw [show i + 1 + (j + 1) = (i + 1 + j) + 1 from rfl, range_next ds (i + 1 + j), List.length_append]; k_extra "mE lia"
section
variable {n : Nat}
theorem look_plain {ky : Str} {n : Nat} {ps : List Tr} {ds : Nat → Bool → List Row} {u : Bool} (hp : PlL ky) (hu : (UNSS.any fun y => y == ky) = u) (hLs : ∀ i t, ps[i]? = some t → LookOk w t (ds i) n) :
    LookOk w (.ex ky ps) (fun b => (List.range ps.length).flatMap fun i => ds i (b && !u)) (n + 3) := by
  intro g x dx lr h1 k1 vv b O ht hap hoff A s vs nl hg r he hz
  have hkl := keep_lr he
  k_extra "qB"; obtain ⟨p1, p2, p3, p4, p5, p6, p7, p8, p9⟩ := hp; k_extra "qC"
  subst hu
  k_extra "qB"; refine TreeAt.ex_k ht ?_; clear ht; intro a t1 t2 c ws eK hT hB hts; subst eK; k_extra "qC"
  have hlen := TreesAt.length hts
  replace he : ∀ p ∈ eobs h1 k1 x dx lr (vs ++ []) nl, s.heap.get? p.1 = some p.2 := by rw [List.append_nil]; exact he
  refine' enter [((Str.ofString "self"), .ref x), ((Str.ofString "tree"), .ref a), ((Str.ofString "is_sure"), .bool b)] (O.keeps hg) r ?k6 ?k7 ?k9 ?kB ?_ ?c1 ?c2 ?c3 ?c4 ?c5; k_extra "eN"
  refine turnable_k _ F hg hL' he (off_any hoff) ?_; intro hb F N hgh hk
  have O' := O.keeps hgh
  have hR : RowsAt (Ek s) (eobs h1 k1 x dx lr (vs ++ []) nl) [] [] := .nil
  have c1 : ∀ i t v b', ps[i]? = some t → TreeAt hb t v → EvOk w hb x dx lr h1 k1 231 [v, .bool b'] (ds i b') n := fun i t v b' e h => hLs i t e hb x dx lr h1 k1 v b' O' h hap (three_off N)
  have hkl2 : ∀ I a, Ek2 s I a → a ≠ lr := fun I a h => hkl a h.1
  dsimp only [eobs] at N hR
  replace hT := hT.keeps hgh
  replace hB := hB.keeps hgh
  replace hts := TreesAt.keeps hgh _ hts
  have hap' := hap
  unfold Apart3 at hap'
  have X := OkH.X O'; have Tp := OkH.top O'
  cases b
  · k_steps
    rename Fr _ _ _ _ => F1
    rename News _ _ _ _ => N1
    refine iterTup [] (fun i nx => EvJ s h1 k1 x dx lr vs ((List.range i).flatMap fun i => ds i false) nx) rfl r.hd ?_ hB F1 N1 ⟨nl, [], [], rfl, (fun _ h => nomatch h), hR⟩ ?_ ?_
    · exact Nat.ne_of_lt (Nat.lt_of_lt_of_le hB.lt F1.above)
    · intro i v q nx h tk I o hv hI hne gR31 F2 N2; k_extra "qD"; refine ex3_3 gR31 ?_; clear gR31; intro n' rs' vs' eK; subst eK; intro hrs' R'
      refine ex1_2 (treesAt_get hts i v (by simpa using hv)) ?_; intro t ht' hta
      have hi : i < ps.length := by
        rcases Nat.lt_or_ge i ps.length with h | h
        · exact h
        · rw [List.getElem?_eq_none h] at ht'; cases ht'
      have c2 := c1 i t v false ht' hta
      have R2 := rows_turn (o := o) R' hne
      have hxI : @Ne Nat x I := hne _ (.head _)
      have hdI : @Ne Nat dx I := hne _ (.tail _ (.head _))
      have hlI : @Ne Nat lr I := hne _ (.tail _ (.tail _ (.head _)))
      have hkI := hkl2 I
      have hz2 := len_next (fun i => ds i false) hi
      have hz3 := Nat.le_trans (Nat.add_le_add_left hz2 vs.length) hz
      (try dsimp only at hz3)
      rw [← Nat.add_assoc] at hz3
      clear F1 N1 hR hne R' c1 hz2
      k_steps
      rename RowsAt _ _ _ _ => R3
      exact turn_end_ev (by assumption) (by assumption) (by k_mem) (by k_mem) (by k_mem) (by k_mem) hxI hdI hlI hkl (Agree.set (Agree.over _) rfl) R3 (range_next _ _).symm
    · intro q nx h tk gR32 F2 N2; k_extra "qD"; refine ex3_3 gR32 ?_; clear gR32; intro n' rs' vs' eK; subst eK; intro hrs' R'
      clear F1 N1 hR
      k_steps
      exact ev_end S hk (by assumption) (by assumption) (by k_mem) (by k_mem) (by k_mem) (R'.eqr (by rw [List.size_toArray, hlen]; rfl))
  · k_steps
    rename Fr _ _ _ _ => F1
    rename News _ _ _ _ => N1
    refine iterTup [] (fun i nx => EvJ s h1 k1 x dx lr vs ((List.range i).flatMap fun i => ds i (!(UNSS.any fun y => y == ky))) nx) rfl r.hd ?_ hB F1 N1 ⟨nl, [], [], rfl, (fun _ h => nomatch h), hR⟩ ?_ ?_
    · exact Nat.ne_of_lt (Nat.lt_of_lt_of_le hB.lt F1.above)
    · intro i v q nx h tk I o hv hI hne gR33 F2 N2; k_extra "qD"; refine ex3_3 gR33 ?_; clear gR33; intro n' rs' vs' eK; subst eK; intro hrs' R'
      refine ex1_2 (treesAt_get hts i v (by simpa using hv)) ?_; intro t ht' hta
      have hi : i < ps.length := by
        rcases Nat.lt_or_ge i ps.length with h | h
        · exact h
        · rw [List.getElem?_eq_none h] at ht'; cases ht'
      have c2 := c1 i t v (!(UNSS.any fun y => y == ky)) ht' hta
      have R2 := rows_turn (o := o) R' hne
      have hxI : @Ne Nat x I := hne _ (.head _)
      have hdI : @Ne Nat dx I := hne _ (.tail _ (.head _))
      have hlI : @Ne Nat lr I := hne _ (.tail _ (.tail _ (.head _)))
      have hkI := hkl2 I
      have hz2 := len_next (fun i => ds i (!(UNSS.any fun y => y == ky))) hi
      have hz3 := Nat.le_trans (Nat.add_le_add_left hz2 vs.length) hz
      (try dsimp only at hz3)
      rw [← Nat.add_assoc] at hz3
      clear F1 N1 hR hne R' c1 hz2
      k_steps
      rename RowsAt _ _ _ _ => R3
      exact turn_end_ev (by assumption) (by assumption) (by k_mem) (by k_mem) (by k_mem) (by k_mem) hxI hdI hlI hkl (Agree.set (Agree.over _) rfl) R3 (range_next _ _).symm
    · intro q nx h tk gR34 F2 N2; k_extra "qD"; refine ex3_3 gR34 ?_; clear gR34; intro n' rs' vs' eK; subst eK; intro hrs' R'
      clear F1 N1 hR
      k_steps
      exact ev_end S hk (by assumption) (by assumption) (by k_mem) (by k_mem) (by k_mem) (R'.eqr (by rw [List.size_toArray, hlen]; rfl))
end
example : Sep := by w_top off; first | walk1 | trivial
section
variable {n : Nat}
theorem look_locs {y : Str} {v : T} {n : Nat} {d : Bool → List Row} (hL : LookOk w (T.set y v).tr d n) : LookOk w (T.locs y v).tr d (n + 3) := by
  have hLs : ∀ (i : Nat) t, [(T.set y v).tr][i]? = some t → LookOk w t ((fun _ => d) i) n := fun i t e => by
    cases i with
    | zero => simp only [List.getElem?_cons_zero, Option.some.injEq] at e; subst e; exact hL
    | succ i => simp at e
  suffices h : LookOk w (T.locs y v).tr (fun b => (List.range [(T.set y v).tr].length).flatMap fun i => (fun _ => d) i (b && true)) (n + 3) by
    have e : (fun b => (List.range [(T.set y v).tr].length).flatMap fun i => (fun _ => d) i (b && true)) = d := by
      funext b; cases b <;> simp [List.range_succ]
    rw [e] at h; exact h
  obtain ⟨ps, hps⟩ : ∃ ps, ps = [(T.set y v).tr] := ⟨_, rfl⟩
  obtain ⟨ds, hds⟩ : ∃ ds : Nat → Bool → List Row, ds = fun _ => d := ⟨_, rfl⟩
  rw [← hps, ← hds] at hLs ⊢
  intro g x dx lr h1 k1 vv b O ht hap hoff A s vs nl hg r he hz
  have hkl := keep_lr he
  k_extra "qB"; refine TreeAt.ex_k ht ?_; clear ht; intro a t1 t2 c ws eK hT hB hts; subst eK; k_extra "qC"
  have hts' := hts
  simp only [TreesAt.e1, TreesAt.e2, TreeAt.e1, TreeAt.e2, TreeAt.e3] at hts'
  refine ex2_3 hts' ?_; clear hts'; intro _ _ eK; subst eK; intro gN35 eK; subst eK; refine ex5_3 gN35 ?_; clear gN35; intro e1 u3 u4 f1 ws2 eK; subst eK; intro hE _
  replace hts : TreesAt g ps [.ref e1] := by rw [hps]; simpa only [T.tr_e] using hts
  have hlen := TreesAt.length hts
  replace he : ∀ p ∈ eobs h1 k1 x dx lr (vs ++ []) nl, s.heap.get? p.1 = some p.2 := by rw [List.append_nil]; exact he
  refine' enter [((Str.ofString "self"), .ref x), ((Str.ofString "tree"), .ref a), ((Str.ofString "is_sure"), .bool b)] (O.keeps hg) r ?k6 ?k7 ?k9 ?kB ?_ ?c1 ?c2 ?c3 ?c4 ?c5; k_extra "eN"
  refine turnable_k _ F hg hL' he (off_any hoff) ?_; intro hb F N hgh hk
  have O' := O.keeps hgh
  have hR : RowsAt (Ek s) (eobs h1 k1 x dx lr (vs ++ []) nl) [] [] := .nil
  have c1 : ∀ i t v b', ps[i]? = some t → TreeAt hb t v → EvOk w hb x dx lr h1 k1 231 [v, .bool b'] (ds i b') n := fun i t v b' e h => hLs i t e hb x dx lr h1 k1 v b' O' h hap (three_off N)
  have hkl2 : ∀ I a, Ek2 s I a → a ≠ lr := fun I a h => hkl a h.1
  dsimp only [eobs] at N hR
  replace hT := hT.keeps hgh
  replace hB := hB.keeps hgh
  replace hE := hE.keeps hgh
  replace hts := TreesAt.keeps hgh _ hts
  have hap' := hap
  unfold Apart3 at hap'
  have X := OkH.X O'; have Tp := OkH.top O'
  cases b
  · k_steps
    rename Fr _ _ _ _ => F1
    rename News _ _ _ _ => N1
    refine iterTup [] (fun i nx => EvJ s h1 k1 x dx lr vs ((List.range i).flatMap fun i => ds i false) nx) rfl r.hd ?_ hB F1 N1 ⟨nl, [], [], rfl, (fun _ h => nomatch h), hR⟩ ?_ ?_
    · exact Nat.ne_of_lt (Nat.lt_of_lt_of_le hB.lt F1.above)
    · intro i v q nx h tk I o hv hI hne gR36 F2 N2; k_extra "qD"; refine ex3_3 gR36 ?_; clear gR36; intro n' rs' vs' eK; subst eK; intro hrs' R'
      refine ex1_2 (treesAt_get hts i v (by simpa using hv)) ?_; intro t ht' hta
      have hi : i < ps.length := by
        rcases Nat.lt_or_ge i ps.length with h | h
        · exact h
        · rw [List.getElem?_eq_none h] at ht'; cases ht'
      have c2 := c1 i t v false ht' hta
      have R2 := rows_turn (o := o) R' hne
      have hxI : @Ne Nat x I := hne _ (.head _)
      have hdI : @Ne Nat dx I := hne _ (.tail _ (.head _))
      have hlI : @Ne Nat lr I := hne _ (.tail _ (.tail _ (.head _)))
      have hkI := hkl2 I
      have hz2 := len_next (fun i => ds i false) hi
      have hz3 := Nat.le_trans (Nat.add_le_add_left hz2 vs.length) hz
      (try dsimp only at hz3)
      rw [← Nat.add_assoc] at hz3
      clear F1 N1 hR hne R' c1 hz2
      k_steps
      rename RowsAt _ _ _ _ => R3
      exact turn_end_ev (by assumption) (by assumption) (by k_mem) (by k_mem) (by k_mem) (by k_mem) hxI hdI hlI hkl (Agree.set (Agree.over _) rfl) R3 (range_next _ _).symm
    · intro q nx h tk gR37 F2 N2; k_extra "qD"; refine ex3_3 gR37 ?_; clear gR37; intro n' rs' vs' eK; subst eK; intro hrs' R'
      clear F1 N1 hR
      k_steps
      exact ev_end S hk (by assumption) (by assumption) (by k_mem) (by k_mem) (by k_mem) (R'.eqr (by rw [List.size_toArray, hlen]; rfl))
  · k_steps
    rename Fr _ _ _ _ => F1
    rename News _ _ _ _ => N1
    refine iterTup [] (fun i nx => EvJ s h1 k1 x dx lr vs ((List.range i).flatMap fun i => ds i (!(UNSS.any fun y => y == Str.ofString "local"))) nx) rfl r.hd ?_ hB F1 N1 ⟨nl, [], [], rfl, (fun _ h => nomatch h), hR⟩ ?_ ?_
    · exact Nat.ne_of_lt (Nat.lt_of_lt_of_le hB.lt F1.above)
    · intro i v q nx h tk I o hv hI hne gR38 F2 N2; k_extra "qD"; refine ex3_3 gR38 ?_; clear gR38; intro n' rs' vs' eK; subst eK; intro hrs' R'
      refine ex1_2 (treesAt_get hts i v (by simpa using hv)) ?_; intro t ht' hta
      have hi : i < ps.length := by
        rcases Nat.lt_or_ge i ps.length with h | h
        · exact h
        · rw [List.getElem?_eq_none h] at ht'; cases ht'
      have c2 := c1 i t v (!(UNSS.any fun y => y == Str.ofString "local")) ht' hta
      have R2 := rows_turn (o := o) R' hne
      have hxI : @Ne Nat x I := hne _ (.head _)
      have hdI : @Ne Nat dx I := hne _ (.tail _ (.head _))
      have hlI : @Ne Nat lr I := hne _ (.tail _ (.tail _ (.head _)))
      have hkI := hkl2 I
      have hz2 := len_next (fun i => ds i (!(UNSS.any fun y => y == Str.ofString "local"))) hi
      have hz3 := Nat.le_trans (Nat.add_le_add_left hz2 vs.length) hz
      (try dsimp only at hz3)
      rw [← Nat.add_assoc] at hz3
      clear F1 N1 hR hne R' c1 hz2
      k_steps
      rename RowsAt _ _ _ _ => R3
      exact turn_end_ev (by assumption) (by assumption) (by k_mem) (by k_mem) (by k_mem) (by k_mem) hxI hdI hlI hkl (Agree.set (Agree.over _) rfl) R3 (range_next _ _).symm
    · intro q nx h tk gR39 F2 N2; k_extra "qD"; refine ex3_3 gR39 ?_; clear gR39; intro n' rs' vs' eK; subst eK; intro hrs' R'
      clear F1 N1 hR
      k_steps
      exact ev_end S hk (by assumption) (by assumption) (by k_mem) (by k_mem) (by k_mem) (R'.eqr (by rw [List.size_toArray, hlen]; rfl))
end
example : Sep := by w_top off; first | walk1 | trivial
noncomputable def EvF (w : World) (f : Addr) (t : Tr) (d : Bool → List Row) (n : Nat) : Prop := ∀ (g : Heap) (x dx lr : Addr) (h1 : Int) (k1 : Tok) (v : Value) (b : Bool), OkH w g → TreeAt g t v → Apart3 x dx lr → (∀ p ∈ eobs h1 k1 x dx lr [] 0, g.get? p.1 = none) → EvOk w g x dx lr h1 k1 f [v, .bool b] (d b) n
theorem UpdT.split {d : Addr} {o : Obj} {rs news : List (Addr × Obj)} {g : Obj → List (Addr × Obj) → List (Addr × Obj)} (U : UpdT d o rs news g) : ∃ pre, news = pre ++ (d, o) :: rs ∧ (∀ o' rs', g o' rs' = pre ++ (d, o') :: rs') ∧ ∀ p ∈ pre, p.1 ≠ d := by
  induction U with
  | head => exact ⟨[], rfl, fun _ _ => rfl, fun _ h => nomatch h⟩
  | tail hn _ ih =>
    refine ex1_3 ih ?_; clear ih; intro pre e k q
    refine ⟨_ :: pre, by rw [e]; rfl, fun o' rs' => by show _ :: _ = _; rw [k]; rfl, fun p hp => ?_⟩
    rcases List.mem_cons.mp hp with rfl | hp
    · exact hn
    · exact q p hp
section
variable {A : Around} {s : Shared} {lr a l : Addr} {t1 : Tok} {pre vo us : List Value} {old : List Row} {n n2 : Nat} {ys : List Str} {Q E : Value → Shared → Prop} {h₀ : Heap} {L : Addr} {m : Str → Option Value} {news rs : List (Addr × Obj)} {g : Obj → List (Addr × Obj) → List (Addr × Obj)} {K : Addr → Prop}
theorem held_u (F : Fr h₀ L s.heap m) (N : News h₀ L s.heap news) (U : UpdT lr (listOf (List.toArray (pre ++ vo)) n) rs news g) (hrs : ∀ p ∈ rs, p.1 ≠ lr) (hR : RowsAt K news old vo) (hK : ∀ a, K a → a ≠ lr)
    (hm : (a, tupObj [.str (Str.ofString "held") t1, .ref l, .bool true]) ∈ news) (hl : (l, listOf us.toArray n2) ∈ news) (hs : StrsAre us ys) (ka : K a) (kl : K l) (hz : pre.length + old.length ≤ 2 ^ 20)
    (kk : ∀ n' h', RowsAt K (g (listOf (List.toArray (pre ++ (vo ++ [.ref a]))) n') rs) (old ++ [.held ys]) (vo ++ [.ref a]) → Fr h₀ L h' m → News h₀ L h' (g (listOf (List.toArray (pre ++ (vo ++ [.ref a]))) n') rs) → Q .none { s with heap := h' }) :
    wpAny (model PR w) A (call (.builtin "list.append") [.ref lr, .ref a]) Q E s := by
  refine ex1_3 (U.split) ?_; intro pr e hg q
  have z := N _ U.mem
  have hlen := hR.length
  refine append_at (hsz := by rw [sizeLine_eq, List.size_toArray, List.length_append]; k_extra "mE lia") z.1 fun h' hs' ho' => ?_
  have e2 : listOf ((List.toArray (pre ++ vo)).push (.ref a)) (n + 1) = listOf (List.toArray (pre ++ (vo ++ [.ref a]))) (n + 1) := by simp
  have hR2 : RowsAt K news (old ++ [.held ys]) (vo ++ [.ref a]) := hR.append (.held hm ka hl kl hs .nil)
  refine kk (n + 1) h' (hR2.mono fun p hp hk => ⟨U.old _ [] p hp (hK _ hk), hk⟩) (F.change hs' z.2.1 z.2.2) ?_
  rw [hg, ← e2]
  subst e
  exact news_set N q hrs hs' ho'
theorem fresh_in {a L : Addr} {news : List (Addr × Obj)} {s₀ : Shared} {hb h : Heap} {o : Obj} {ws : List (Addr × Obj)} (hk : ∀ b o, s₀.heap.get? b = some o → (∀ p ∈ ws, b ≠ p.1) → hb.get? b = some o) (N : News hb L h news) (hm : (a, o) ∈ news) (hw : ∀ p ∈ ws, a ≠ p.1) : Ek s₀ a := by
  show s₀.heap.get? a = none
  cases q : s₀.heap.get? a with
  | none => rfl
  | some o' => have h1 := hk a o' q hw; rw [(N _ hm).2.2] at h1; cases h1
theorem ne_three {lr a x dx : Addr} {o1 o2 o3 : Obj} (h1 : @Ne Nat a x) (h2 : @Ne Nat a dx) (h3 : @Ne Nat a lr) : ∀ p ∈ [(x, o1), (dx, o2), (lr, o3)], a ≠ p.1 := fun p hp => by
  simp only [List.mem_cons, List.not_mem_nil, or_false] at hp
  rcases hp with rfl | rfl | rfl
  · exact h1
  · exact h2
  · exact h3
end
example : True := by
 k_with "mE ek" => exact fresh_in (by assumption) (by assumption) (by k_mem) (ne_three (by k_ne) (by k_ne) (by k_ne))
 k_with "mcall builtin:list.append" => (k_here; (with_reducible refine (?_ : wpAny _ _ (call (Value.builtin _) [Value.ref _, Value.ref _]) _ _ _)); k_dflt (refine' held_u ?jf ?jn ?ju ?jq ?jrr ?jk ?jhm ?jhl ?js ?jka ?jkl ?jz ?_; k_extra "mP2"; (case jhm => k_mem); (case jhl => k_mem); (case js => k_extra "a"); (case jk => k_extra "a"); (case ju => k_extra "mE updT"); (case jq => k_extra "mnm"); (case jrr => k_extra "mE rows"); (case jka => k_extra "mE ek"); (case jkl => k_extra "mE ek"); (case jz => k_extra "mol")); intro _ _ R' F' N'; (try dsimp only at R' N'); (try simp only [List.nil_append] at R' N'); revert R' F' N'; intro _ _ _; k_extra "msw")
 exact trivial
section
variable {n : Nat}
theorem clos_fn {z : Str} {as : List Ar} {t : T} {n : Nat} {d : Bool → List Row} (hU : UsedOk w t n) (hok : (T.fn z as t).ok) (hzt : t.sz < 2 ^ 19) (hL : LookOk w t.tr d (n + 20)) (hdl : ∀ b, (d b).length ≤ 2 ^ 18) :
    EvF w 252 (T.fn z as t).tr (fun b => .held (funUses t.used as t) :: (d false ++ [.as z b])) (n + 22) := by
  intro g x dx lr h1 k1 vv b O ht hap hoff A s vs nl hg r he hz
  have hkl := keep_lr he
  k_extra "qB"; (first | (refine TreeAt.e2R ht ?_; clear ht; intro u1 u2 b1 v' v4 hT hB gA1 h4) | (refine TreeAt.e2_k ht ?_; clear ht; intro a u1 u2 b1 v' v4 eK hT hB gA1 h4; subst eK)); refine TreeAt.ex_k gA1 ?_; clear gA1; intro c u3 u4 d1 vs2 eK hC hD gT2; subst eK; refine TreesAt.cons_k gT2 ?_; clear gT2; intro v3 r3 eK gA3 h3; subst eK; (first | refine TreeAt.sym_k gA3 ?_ | refine TreeAt.one_k gA3 ?_); clear gA3; intro e u5 u6 eK hE; subst eK; k_extra "qC"
  replace he : ∀ p ∈ eobs h1 k1 x dx lr (vs ++ []) nl, s.heap.get? p.1 = some p.2 := by rw [List.append_nil]; exact he
  refine' enter [((Str.ofString "self"), .ref x), ((Str.ofString "tree"), .ref a), ((Str.ofString "is_sure"), .bool b)] (O.keeps hg) r ?k6 ?k7 ?k9 ?kB ?_ ?c1 ?c2 ?c3 ?c4 ?c5; k_extra "eN"
  refine turnable_k _ F hg hL' he (off_any hoff) ?_; intro hb F N hgh hk
  have O' := O.keeps hgh
  have hR : RowsAt (Ek s) (eobs h1 k1 x dx lr (vs ++ []) nl) [] [] := .nil
  have hc : ∀ A s', OkH w s'.heap → Le hb s'.heap → Rm A (n + 8) → Calls w A s' 164 [.ref a] nil (Fresh s' (funUses t.used as t)) := fun A s' O' le r' => by
    have le' := hgh.trans le
    exact function_uses_f t hU O' r' (hT.keeps le') (hB.keeps le') (hC.keeps le') (hD.keeps le') (hE.keeps le') (TreesAt.keeps le' _ h3) hok.2.1 (TreeAt.keeps le' _ h4) hzt
  have c1 := hL hb x dx lr h1 k1 v4 false O' (TreeAt.keeps hgh _ h4) hap (three_off N)
  have hdb := hdl false
  have hzz : (z != Str.ofString "") = true := by show (!(z == Str.ofString "")) = true; rw [hok.1]; rfl
  dsimp only [eobs] at N hR
  replace hT := hT.keeps hgh
  replace hB := hB.keeps hgh
  replace hC := hC.keeps hgh
  replace hD := hD.keeps hgh
  replace hE := hE.keeps hgh
  simp only [List.length_append, List.length_cons, List.length_nil] at hz
  have hap' := hap
  unfold Apart3 at hap'
  have X := OkH.X O'; have Tp := OkH.top O'
  k_steps
  rename RowsAt _ _ _ _ => R1
  exact ev_end S hk (by assumption) (by assumption) (by k_mem) (by k_mem) (by k_mem) (R1.eqr (by walk_at "E eqr"))
theorem clos_arr {as : List Ar} {t : T} {n : Nat} {d : Bool → List Row} (hU : UsedOk w t n) (hok : (T.arr as t).ok) (hzt : t.sz < 2 ^ 19) (hL : LookOk w t.tr d (n + 20)) (hdl : ∀ b, (d b).length ≤ 2 ^ 18) :
    EvF w 252 (T.arr as t).tr (fun _ => .held (funUses t.used as t) :: d false) (n + 22) := by
  intro g x dx lr h1 k1 vv b O ht hap hoff A s vs nl hg r he hz
  have hkl := keep_lr he
  k_extra "qB"; (first | (refine TreeAt.e2R ht ?_; clear ht; intro u1 u2 b1 v' v4 hT hB gA1 h4) | (refine TreeAt.e2_k ht ?_; clear ht; intro a u1 u2 b1 v' v4 eK hT hB gA1 h4; subst eK)); refine TreeAt.ex_k gA1 ?_; clear gA1; intro c u3 u4 d1 vs2 eK hC hD h3; subst eK; k_extra "qC"
  replace he : ∀ p ∈ eobs h1 k1 x dx lr (vs ++ []) nl, s.heap.get? p.1 = some p.2 := by rw [List.append_nil]; exact he
  refine' enter [((Str.ofString "self"), .ref x), ((Str.ofString "tree"), .ref a), ((Str.ofString "is_sure"), .bool b)] (O.keeps hg) r ?k6 ?k7 ?k9 ?kB ?_ ?c1 ?c2 ?c3 ?c4 ?c5; k_extra "eN"
  refine turnable_k _ F hg hL' he (off_any hoff) ?_; intro hb F N hgh hk
  have O' := O.keeps hgh
  have hR : RowsAt (Ek s) (eobs h1 k1 x dx lr (vs ++ []) nl) [] [] := .nil
  have hc : ∀ A s', OkH w s'.heap → Le hb s'.heap → Rm A (n + 8) → Calls w A s' 164 [.ref a] nil (Fresh s' (funUses t.used as t)) := fun A s' O' le r' => by
    have le' := hgh.trans le
    exact function_uses_a t hU O' r' (hT.keeps le') (hB.keeps le') (hC.keeps le') (hD.keeps le') (TreesAt.keeps le' _ h3) hok.1 (TreeAt.keeps le' _ h4) hzt
  have c1 := hL hb x dx lr h1 k1 v4 false O' (TreeAt.keeps hgh _ h4) hap (three_off N)
  have hdb := hdl false
  dsimp only [eobs] at N hR
  replace hT := hT.keeps hgh
  replace hB := hB.keeps hgh
  replace hC := hC.keeps hgh
  replace hD := hD.keeps hgh
  simp only [List.length_append, List.length_cons, List.length_nil] at hz
  have hap' := hap
  unfold Apart3 at hap'
  have X := OkH.X O'; have Tp := OkH.top O'
  k_steps
  rename RowsAt _ _ _ _ => R1
  exact ev_end S hk (by assumption) (by assumption) (by k_mem) (by k_mem) (by k_mem) (R1.eqr (by walk_at "E eqr"))
end
example : Sep := by w_top off; first | walk1 | trivial
section
variable {n : Nat}
theorem look_fun {ky : Str} {n : Nat} {ps : List Tr} {d : Bool → List Row} (h1 : (ky == Str.ofString "") = false) (h2 : (SILS.any fun x => x == ky) = false) (h3 : (FUNS.any fun x => x == ky) = true) (hC : EvF w 252 (.ex ky ps) d n) : LookOk w (.ex ky ps) d (n + 2) := by
  intro g x dx lr h1 k1 vv b O ht hap hoff A s vs nl hg r he hz
  have hkl := keep_lr he
  have ht0 := ht
  k_extra "qB"; refine TreeAt.ex_k ht ?_; clear ht; intro a t1 t2 c ws eK hT hB hts; subst eK; k_extra "qC"
  replace he : ∀ p ∈ eobs h1 k1 x dx lr (vs ++ []) nl, s.heap.get? p.1 = some p.2 := by rw [List.append_nil]; exact he
  refine' enter [((Str.ofString "self"), .ref x), ((Str.ofString "tree"), .ref a), ((Str.ofString "is_sure"), .bool b)] (O.keeps hg) r ?k6 ?k7 ?k9 ?kB ?_ ?c1 ?c2 ?c3 ?c4 ?c5; k_extra "eN"
  refine turnable_k _ F hg hL' he (off_any hoff) ?_; intro hb F N hgh hk
  have O' := O.keeps hgh
  have hR : RowsAt (Ek s) (eobs h1 k1 x dx lr (vs ++ []) nl) [] [] := .nil
  have c1 := hC hb x dx lr h1 k1 _ b O' (TreeAt.keeps hgh _ ht0) hap (three_off N)
  dsimp only [eobs] at N hR
  replace hT := hT.keeps hgh
  have hap' := hap
  unfold Apart3 at hap'
  have X := OkH.X O'; have Tp := OkH.top O'
  k_steps
  rename RowsAt _ _ _ _ => R1
  exact ev_end S hk (by assumption) (by assumption) (by k_mem) (by k_mem) (by k_mem) (R1.eqr (by walk_at "E eqr"))
theorem bound_in {y : Str} {v : T} {n : Nat} {d : Bool → List Row} (hL : LookOk w v.tr d n) (hdl : ∀ b, (d b).length ≤ 2 ^ 18) : EvF w 238 (.ex (Str.ofString "in") [.sym y, v.tr]) (fun b => d b ++ [.as y true]) (n + 4) := by
  intro g x dx lr h1 k1 vv b O ht hap hoff A s vs nl hg r he hz
  have hkl := keep_lr he
  k_extra "qB"; (first | (refine TreeAt.e2sR ht ?_; clear ht; intro t1 t2 c e u3 u4 v2 hT hB hE hv2) | (refine TreeAt.e2s_k ht ?_; clear ht; intro a t1 t2 c e u3 u4 v2 eK hT hB hE hv2; subst eK)); k_extra "qC"
  replace he : ∀ p ∈ eobs h1 k1 x dx lr (vs ++ []) nl, s.heap.get? p.1 = some p.2 := by rw [List.append_nil]; exact he
  refine' enter [((Str.ofString "self"), .ref x), ((Str.ofString "tree"), .ref a), ((Str.ofString "is_sure"), .bool b)] (O.keeps hg) r ?k6 ?k7 ?k9 ?kB ?_ ?c1 ?c2 ?c3 ?c4 ?c5; k_extra "eN"
  refine turnable_k _ F hg hL' he (off_any hoff) ?_; intro hb F N hgh hk
  have O' := O.keeps hgh
  have hR : RowsAt (Ek s) (eobs h1 k1 x dx lr (vs ++ []) nl) [] [] := .nil
  have c1 := hL hb x dx lr h1 k1 v2 b O' (TreeAt.keeps hgh _ hv2) hap (three_off N)
  have hdb := hdl b
  dsimp only [eobs] at N hR
  replace hT := hT.keeps hgh
  replace hB := hB.keeps hgh
  replace hE := hE.keeps hgh
  simp only [List.length_append, List.length_cons, List.length_nil] at hz
  have hap' := hap
  unfold Apart3 at hap'
  have X := OkH.X O'; have Tp := OkH.top O'
  k_steps
  rename RowsAt _ _ _ _ => R1
  exact ev_end S hk (by assumption) (by assumption) (by k_mem) (by k_mem) (by k_mem) (R1.eqr (by walk_at "E eqr"))
theorem bound_for {y : Str} {v u : T} {n : Nat} {d e : Bool → List Row} (hL : LookOk w v.tr d n) (hdl : ∀ b, (d b).length ≤ 2 ^ 18) (hM : LookOk w u.tr e n) (hel : ∀ b, (e b).length ≤ 2 ^ 18) : EvF w 238 (T.fr y v u).tr (fun b => (d b ++ [.as y true]) ++ e false) (n + 4) := by
  intro g x dx lr h1 k1 vv b O ht hap hoff A s vs nl hg r he hz
  have hkl := keep_lr he
  k_extra "qB"; (first | (refine TreeAt.e2R ht ?_; clear ht; intro t1 t2 c v' v4 hT hB gA1 hv4) | (refine TreeAt.e2_k ht ?_; clear ht; intro a t1 t2 c v' v4 eK hT hB gA1 hv4; subst eK)); (first | (refine TreeAt.e2sR gA1 ?_; clear gA1; intro u3 u4 d1 e2 u5 u6 v2 hC hD hE hv2) | (refine TreeAt.e2s_k gA1 ?_; clear gA1; intro e1 u3 u4 d1 e2 u5 u6 v2 eK hC hD hE hv2; subst eK)); k_extra "qC"
  replace he : ∀ p ∈ eobs h1 k1 x dx lr (vs ++ []) nl, s.heap.get? p.1 = some p.2 := by rw [List.append_nil]; exact he
  refine' enter [((Str.ofString "self"), .ref x), ((Str.ofString "tree"), .ref a), ((Str.ofString "is_sure"), .bool b)] (O.keeps hg) r ?k6 ?k7 ?k9 ?kB ?_ ?c1 ?c2 ?c3 ?c4 ?c5; k_extra "eN"
  refine turnable_k _ F hg hL' he (off_any hoff) ?_; intro hb F N hgh hk
  have O' := O.keeps hgh
  have hR : RowsAt (Ek s) (eobs h1 k1 x dx lr (vs ++ []) nl) [] [] := .nil
  have c1 := hL hb x dx lr h1 k1 v2 b O' (TreeAt.keeps hgh _ hv2) hap (three_off N)
  have c2 := hM hb x dx lr h1 k1 v4 false O' (TreeAt.keeps hgh _ hv4) hap (three_off N)
  have hdb := hdl b
  have heb := hel false
  dsimp only [eobs] at N hR
  replace hT := hT.keeps hgh
  replace hB := hB.keeps hgh
  replace hC := hC.keeps hgh
  replace hD := hD.keeps hgh
  replace hE := hE.keeps hgh
  simp only [List.length_append, List.length_cons, List.length_nil] at hz
  have hap' := hap
  unfold Apart3 at hap'
  have X := OkH.X O'; have Tp := OkH.top O'
  k_steps
  rename RowsAt _ _ _ _ => R1
  exact ev_end S hk (by assumption) (by assumption) (by k_mem) (by k_mem) (by k_mem) (R1.eqr (by walk_at "E eqr"))
theorem look_bound {ky : Str} {n : Nat} {ps : List Tr} {d : Bool → List Row} (hk : ky = Str.ofString "in" ∨ ky = Str.ofString "for") (hC : EvF w 238 (.ex ky ps) d n) : LookOk w (.ex ky ps) d (n + 2) := by
  intro g x dx lr h1 k1 vv b O ht hap hoff A s vs nl hg r he hz
  have hkl := keep_lr he
  have ht0 := ht
  k_extra "qB"; refine TreeAt.ex_k ht ?_; clear ht; intro a t1 t2 c ws eK hT hB hts; subst eK; k_extra "qC"
  replace he : ∀ p ∈ eobs h1 k1 x dx lr (vs ++ []) nl, s.heap.get? p.1 = some p.2 := by rw [List.append_nil]; exact he
  rcases hk with rfl | rfl <;> (
  refine' enter [((Str.ofString "self"), .ref x), ((Str.ofString "tree"), .ref a), ((Str.ofString "is_sure"), .bool b)] (O.keeps hg) r ?k6 ?k7 ?k9 ?kB ?_ ?c1 ?c2 ?c3 ?c4 ?c5; k_extra "eN"
  refine turnable_k _ F hg hL' he (off_any hoff) ?_; intro hb F N hgh hk
  have O' := O.keeps hgh
  have hR : RowsAt (Ek s) (eobs h1 k1 x dx lr (vs ++ []) nl) [] [] := .nil
  have c1 := hC hb x dx lr h1 k1 _ b O' (TreeAt.keeps hgh _ ht0) hap (three_off N)
  dsimp only [eobs] at N hR
  replace hT := hT.keeps hgh
  have hap' := hap
  unfold Apart3 at hap'
  have X := OkH.X O'; have Tp := OkH.top O'
  k_steps
  rename RowsAt _ _ _ _ => R1
  exact ev_end S hk (by assumption) (by assumption) (by k_mem) (by k_mem) (by k_mem) (R1.eqr (by walk_at "E eqr")))
end
example : Sep := by w_top off; first | walk1 | trivial
theorem evj_of {h1 : Int} {s : Shared} {x dx lr : Addr} {k1 : Tok} {pre vs' : List Value} {n' : Nat} {acc : List Row} {news : List (Addr × Obj)} (hx : (x, instObj 255 dx) ∈ news) (hd : (dx, edict h1 k1 lr) ∈ news) (hl : (lr, listOf (List.toArray (pre ++ vs')) n') ∈ news) (hkl : ∀ a, Ek s a → a ≠ lr) (R : RowsAt (Ek s) news acc vs') :
    ∃ nx, (∀ p ∈ nx, p ∈ news) ∧ EvJ s h1 k1 x dx lr pre acc nx := by
  refine ⟨(x, instObj 255 dx) :: (dx, edict h1 k1 lr) :: (lr, listOf (List.toArray (pre ++ vs')) n') :: news.filter fun p => decide (p.1 ≠ lr), fun p hp => ?_, n', _, vs', rfl, fun p hp => ?_, R.mono fun p hp hK => ⟨.tail _ (.tail _ (.tail _ (List.mem_filter.mpr ⟨hp, decide_eq_true (hkl _ hK)⟩))), hK⟩⟩
  · rcases List.mem_cons.mp hp with rfl | hp
    · exact hx
    · rcases List.mem_cons.mp hp with rfl | hp
      · exact hd
      · rcases List.mem_cons.mp hp with rfl | hp
        · exact hl
        · exact (List.mem_filter.mp hp).1
  · exact of_decide_eq_true (List.mem_filter.mp hp).2
example : True := by
 k_with "mcall ref" => ((with_reducible refine (?_ : wpAny _ _ (call (.ref 28) _) _ _ _)); (refine' is_expr_v ?jf ?jn ?jo ?jr ?jx0 ?jx1 ?_; k_extra "mP4"; k_extra "mX2"); intro _ _ _ _; k_extra "msw")
 exact trivial
section
variable {n : Nat}
theorem hidden_cmp {p : T} {y : Str} {v : T} {n : Nat} {d e : Bool → List Row} (hU : UsedOk w (T.cmp p y v) n) (hI : LookOk w (.ex (Str.ofString "in") [.sym y, v.tr]) d n) (hdl : ∀ b, (d b).length ≤ 2 ^ 18) (hM : LookOk w p.tr e n) (hel : ∀ b, (e b).length ≤ 2 ^ 18) :
    EvF w 245 (T.cmp p y v).tr (fun b => (d b ++ [.held (T.cmp p y v).used]) ++ e false) (n + 4) := by
  intro g x dx lr h1 k1 vv b O ht hap hoff A s vs nl hg r he hz
  have hkl := keep_lr he
  have ht0 := ht
  simp only [T.tr_e] at ht
  k_extra "qB"; (first | (refine TreeAt.e2R ht ?_; clear ht; intro t1 t2 c v' v2 hT hB hp hi) | (refine TreeAt.e2_k ht ?_; clear ht; intro a t1 t2 c v' v2 eK hT hB hp hi; subst eK)); k_extra "qC"
  replace he : ∀ p ∈ eobs h1 k1 x dx lr (vs ++ []) nl, s.heap.get? p.1 = some p.2 := by rw [List.append_nil]; exact he
  refine' enter [((Str.ofString "self"), .ref x), ((Str.ofString "tree"), .ref a), ((Str.ofString "is_sure"), .bool b)] (O.keeps hg) r ?k6 ?k7 ?k9 ?kB ?_ ?c1 ?c2 ?c3 ?c4 ?c5; k_extra "eN"
  refine turnable_k _ F hg hL' he (off_any hoff) ?_; intro hb F N hgh hk
  have O' := O.keeps hgh
  have hR : RowsAt (Ek s) (eobs h1 k1 x dx lr (vs ++ []) nl) [] [] := .nil
  have c1 := hI hb x dx lr h1 k1 v2 b O' (TreeAt.keeps hgh _ hi) hap (three_off N)
  have c2 := hM hb x dx lr h1 k1 v' false O' (TreeAt.keeps hgh _ hp) hap (three_off N)
  have hdb := hdl b
  have heb := hel false
  have hkl2 : ∀ I a, Ek2 s I a → a ≠ lr := fun I a h => hkl a h.1
  dsimp only [eobs] at N hR
  replace hT := hT.keeps hgh
  replace hB := hB.keeps hgh
  replace ht0 := TreeAt.keeps hgh _ ht0
  replace hp := TreeAt.keeps hgh _ hp
  replace hi := TreeAt.keeps hgh _ hi
  simp only [TreeAt.e1, TreeAt.e2, TreeAt.e3] at hi
  refine ex5_3 hi ?_; clear hi; intro ai i1 i2 bi wi eK; subst eK; intro hTi _
  simp only [List.length_append, List.length_cons, List.length_nil] at hz
  have hap' := hap
  unfold Apart3 at hap'
  have X := OkH.X O'; have Tp := OkH.top O'
  k_steps
  rename Fr _ _ _ _ => F1
  rename News _ _ _ _ => N1
  refine iterTup [] (fun i nx => EvJ s h1 k1 x dx lr vs (if i ≤ 1 then [] else d b) nx) rfl r.hd ?_ hB F1 N1 ⟨nl, [], [], rfl, (fun _ h => nomatch h), hR⟩ ?_ ?_
  · exact Nat.ne_of_lt (Nat.lt_of_lt_of_le hB.lt F1.above)
  · intro i v q nx h tk I o hv hI' hne gR40 F2 N2; k_extra "qD"; refine ex3_3 gR40 ?_; clear gR40; intro n' rs' vs' eK; subst eK; intro hrs' R'
    have R2 := rows_turn (o := o) R' hne
    have hxI : @Ne Nat x I := hne _ (.head _)
    have hdI : @Ne Nat dx I := hne _ (.tail _ (.head _))
    have hlI : @Ne Nat lr I := hne _ (.tail _ (.tail _ (.head _)))
    have hkI := hkl2 I
    clear F1 N1 hR hne R'
    rcases i with _ | _ | i
    · simp only [List.getElem?_toArray, List.getElem?_cons_zero, Option.some.injEq] at hv
      subst hv
      clear c1 c2
      cases hl : p.leaf with
      | true =>
        refine ex4_3 (T.leaf_at hl hp) ?_; intro a3 kd t3 v3 eK; subst eK; intro hT3 hkd
        k_steps
        rename RowsAt _ _ _ _ => R3
        exact turn_end_ev (by assumption) (by assumption) (by k_mem) (by k_mem) (by k_mem) (by k_mem) hxI hdI hlI hkl (Agree.set (Agree.over _) rfl) R3 rfl
      | false =>
        refine ex5_3 (T.node_in hl hp) ?_; intro a3 t3 h3 t4 b3 eK; subst eK; intro hT3 hin
        k_steps
        rename RowsAt _ _ _ _ => R3
        exact turn_end_ev (by assumption) (by assumption) (by k_mem) (by k_mem) (by k_mem) (by k_mem) hxI hdI hlI hkl (Agree.set (Agree.over _) rfl) R3 rfl
    · simp only [List.getElem?_toArray, List.getElem?_cons_succ, List.getElem?_cons_zero, Option.some.injEq] at hv
      subst hv
      replace R2 : RowsAt (Ek2 s I) _ [] _ := R2
      clear c2
      k_steps
      rename RowsAt _ _ _ _ => R3
      exact turn_end_ev (by assumption) (by assumption) (by k_mem) (by k_mem) (by k_mem) (by k_mem) hxI hdI hlI hkl (Agree.set (Agree.over _) rfl) R3 rfl
    · simp at hv
  · intro q nx h tk gR41 F2 N2; k_extra "qD"; refine ex3_3 gR41 ?_; clear gR41; intro n' rs' vs' eK; subst eK; intro hrs' R'
    replace R' : RowsAt (Ek s) _ (d b) _ := R'
    clear F1 N1 hR c1
    k_steps
    rename Fr _ _ _ _ => F3
    rename News _ _ _ _ => N3
    rename RowsAt _ _ _ _ => R4
    refine ex1_2 (evj_of (x := x) (dx := dx) (lr := lr) (h1 := h1) (k1 := k1) (pre := vs) (by k_mem) (by k_mem) (by k_mem) hkl R4) ?_; intro nx hsub hj
    have N4 := News.sub N3 hsub
    clear N3 R4
    refine iterTup [] (fun i nx => EvJ s h1 k1 x dx lr vs (if i = 0 then d b ++ [Row.held (T.cmp p y v).used] else (d b ++ [Row.held (T.cmp p y v).used]) ++ e false) nx) rfl r.hd ?_ hB F3 N4 hj ?_ ?_
    · exact Nat.ne_of_lt (Nat.lt_of_lt_of_le hB.lt F3.above)
    · intro i v q nx h tk I o hv hI' hne gR42 F2 N2; k_extra "qD"; refine ex3_3 gR42 ?_; clear gR42; intro n' rs' vs' eK; subst eK; intro hrs' R'
      have R2 := rows_turn (o := o) R' hne
      have hxI : @Ne Nat x I := hne _ (.head _)
      have hdI : @Ne Nat dx I := hne _ (.tail _ (.head _))
      have hlI : @Ne Nat lr I := hne _ (.tail _ (.tail _ (.head _)))
      have hkI := hkl2 I
      clear F3 N4 hj hsub hne R'
      rcases i with _ | _ | i
      · simp only [List.getElem?_toArray, List.getElem?_cons_zero, Option.some.injEq] at hv
        subst hv
        replace R2 : RowsAt (Ek2 s I) _ (d b ++ [Row.held (T.cmp p y _).used]) _ := R2
        cases hl : p.leaf with
        | true =>
          refine ex4_3 (T.leaf_at hl hp) ?_; intro a3 kd t3 v3 eK; subst eK; intro hT3 hkd
          k_steps
          rename RowsAt _ _ _ _ => R3
          exact turn_end_ev (by assumption) (by assumption) (by k_mem) (by k_mem) (by k_mem) (by k_mem) hxI hdI hlI hkl (Agree.set (Agree.over _) rfl) R3 rfl
        | false =>
          refine ex5_3 (T.node_in hl hp) ?_; intro a3 t3 h3 t4 b3 eK; subst eK; intro hT3 hin
          k_steps
          rename RowsAt _ _ _ _ => R3
          exact turn_end_ev (by assumption) (by assumption) (by k_mem) (by k_mem) (by k_mem) (by k_mem) hxI hdI hlI hkl (Agree.set (Agree.over _) rfl) R3 rfl
      · simp only [List.getElem?_toArray, List.getElem?_cons_succ, List.getElem?_cons_zero, Option.some.injEq] at hv
        subst hv
        k_steps
        rename RowsAt _ _ _ _ => R3
        exact turn_end_ev (by assumption) (by assumption) (by k_mem) (by k_mem) (by k_mem) (by k_mem) hxI hdI hlI hkl (Agree.set (Agree.over _) rfl) R3 rfl
      · simp at hv
    · intro q nx h tk gR43 F2 N2; k_extra "qD"; refine ex3_3 gR43 ?_; clear gR43; intro n' rs' vs' eK; subst eK; intro hrs' R'
      clear F3 N4 hj hsub
      k_steps
      exact ev_end S hk (by assumption) (by assumption) (by k_mem) (by k_mem) (by k_mem) (R'.eqr rfl)
end
example : Sep := by w_top off; first | walk1 | trivial
theorem any_mem {y : Str} {xs : List Str} : xs.any (· == y) = true ↔ y ∈ xs := by
  simp [List.any_eq_true]
theorem any_not {y : Str} {xs : List Str} : xs.any (· == y) = false ↔ y ∉ xs := by
  rw [← any_mem]; cases xs.any (· == y) <;> simp
theorem mem_put1 {y z : Str} {xs : List Str} : z ∈ put1 xs y ↔ z ∈ xs ∨ z = y := by
  unfold put1
  split
  · rename_i h
    rw [any_mem] at h
    constructor
    · exact .inl
    · rintro (h' | rfl)
      · exact h'
      · exact h
  · simp
theorem mem_putAll {z : Str} {ys : List Str} : ∀ {xs : List Str}, z ∈ putAll xs ys ↔ z ∈ xs ∨ z ∈ ys := by
  unfold putAll
  induction ys with
  | nil => intro xs; simp
  | cons y r ih => intro xs; rw [List.foldl_cons, ih, mem_put1, List.mem_cons, or_assoc]
theorem mem_joinFold {z : Str} {xss : List (List Str)} : ∀ {xs : List Str}, z ∈ xss.foldl putAll xs ↔ z ∈ xs ∨ ∃ ys ∈ xss, z ∈ ys := by
  induction xss with
  | nil => intro xs; simp
  | cons y r ih =>
    intro xs
    rw [List.foldl_cons, ih, mem_putAll]
    simp only [List.mem_cons, exists_eq_or_imp, or_assoc]
theorem mem_joinAll {z : Str} {xss : List (List Str)} : z ∈ joinAll xss ↔ ∃ ys ∈ xss, z ∈ ys := by
  unfold joinAll; rw [mem_joinFold]; simp
theorem mem_wout {z : Str} {xs ys : List Str} : z ∈ wout xs ys ↔ z ∈ xs ∧ z ∉ ys := by
  unfold wout
  rw [List.mem_filter, Bool.not_eq_true', any_not]
theorem nodup_put1 {y : Str} {xs : List Str} (h : xs.Nodup) : (put1 xs y).Nodup := by
  unfold put1
  split
  · exact h
  · rename_i h'
    rw [Bool.not_eq_true, any_not] at h'
    rw [List.nodup_append]
    refine ⟨h, by simp, fun a ha b hb => ?_⟩
    rw [List.mem_singleton] at hb
    rw [hb]; intro e; exact h' (e ▸ ha)
theorem nodup_putAll {ys : List Str} : ∀ {xs : List Str}, xs.Nodup → (putAll xs ys).Nodup := by
  unfold putAll
  induction ys with
  | nil => intro xs h; exact h
  | cons y r ih => intro xs h; exact ih (nodup_put1 h)
theorem nodup_joinAll (xss : List (List Str)) : (joinAll xss).Nodup := by
  have : ∀ (xss : List (List Str)) {xs : List Str}, xs.Nodup → (xss.foldl putAll xs).Nodup := by
    intro xss
    induction xss with
    | nil => intro xs h; exact h
    | cons y r ih => intro xs h; exact ih (nodup_putAll h)
  exact this xss List.nodup_nil
noncomputable def sy (x : Str) (bo : List Str) : List Str := if bo.any (· == x) then [] else [x]
theorem mem_sy {x z : Str} {bo : List Str} : z ∈ sy x bo ↔ z = x ∧ z ∉ bo := by
  unfold sy
  split
  · rename_i h
    rw [any_mem] at h
    constructor
    · intro h'; cases h'
    · intro gR44; refine ex0_2 gR44 ?_; clear gR44; intro eK; subst eK; intro h'; exact absurd h h'
  · rename_i h
    rw [Bool.not_eq_true, any_not] at h
    rw [List.mem_singleton]
    constructor
    · intro eK; subst eK; exact ⟨rfl, h⟩
    · exact And.left
theorem sy_len (x : Str) (bo : List Str) : (sy x bo).length ≤ 1 := by unfold sy; split <;> simp
noncomputable def T.walk : T → List Str → List Str
  | .sym x, bo => sy x bo
  | .one, _ => []
  | .set x v, bo => sy x bo ++ v.walk bo
  | .up x v, bo => sy x bo ++ v.walk bo
  | .loc x, bo => sy x bo
  | .locs x v, bo => sy x bo ++ v.walk bo
  | .dot x, bo => sy x bo
  | .quo _, _ => []
  | .fn z as b, bo => sy z bo ++ ((dfl as).flatMap (sy · (bo ++ as.map (·.1))) ++ b.walk ((bo ++ as.map (·.1)) ++ b.locals))
  | .arr as b, bo => (dfl as).flatMap (sy · (bo ++ as.map (·.1))) ++ b.walk ((bo ++ as.map (·.1)) ++ b.locals)
  | .blk a b, bo => a.walk bo ++ b.walk bo
  | .ite a b, bo => a.walk bo ++ b.walk bo
  | .whl a b, bo => a.walk bo ++ b.walk (bo ++ b.locals)
  | .lt x a b, bo => a.walk bo ++ b.walk ((bo ++ [x]) ++ b.locals)
  | .fr x a b, bo => a.walk bo ++ b.walk ((bo ++ [x]) ++ b.locals)
  | .cmp a x b, bo => b.walk bo ++ a.walk ((bo ++ [x]) ++ a.locals)
theorem T.walk_e : (∀ (x : Str) (bo : List Str), (T.sym x).walk bo = (sy x bo : List Str)) ∧ (∀ (e0 : List Str), (T.one).walk e0 = ([] : List Str)) ∧ (∀ (x : Str) (v : T) (bo : List Str), (T.set x v).walk bo = (sy x bo ++ v.walk bo : List Str)) ∧ (∀ (x : Str) (v : T) (bo : List Str), (T.up x v).walk bo = (sy x bo ++ v.walk bo : List Str)) ∧ (∀ (x : Str) (bo : List Str), (T.loc x).walk bo = (sy x bo : List Str)) ∧ (∀ (x : Str) (v : T) (bo : List Str), (T.locs x v).walk bo = (sy x bo ++ v.walk bo : List Str)) ∧ (∀ (x : Str) (bo : List Str), (T.dot x).walk bo = (sy x bo : List Str)) ∧ (∀ (w0 : Str) (e0 : List Str), (T.quo w0).walk e0 = ([] : List Str)) ∧ (∀ (z : Str) (as : List Ar) (b : T) (bo : List Str), (T.fn z as b).walk bo = (sy z bo ++ ((dfl as).flatMap (sy · (bo ++ as.map (·.1))) ++ b.walk ((bo ++ as.map (·.1)) ++ b.locals)) : List Str)) ∧ (∀ (as : List Ar) (b : T) (bo : List Str), (T.arr as b).walk bo = ((dfl as).flatMap (sy · (bo ++ as.map (·.1))) ++ b.walk ((bo ++ as.map (·.1)) ++ b.locals) : List Str)) ∧ (∀ (a : T) (b : T) (bo : List Str), (T.blk a b).walk bo = (a.walk bo ++ b.walk bo : List Str)) ∧ (∀ (a : T) (b : T) (bo : List Str), (T.ite a b).walk bo = (a.walk bo ++ b.walk bo : List Str)) ∧ (∀ (a : T) (b : T) (bo : List Str), (T.whl a b).walk bo = (a.walk bo ++ b.walk (bo ++ b.locals) : List Str)) ∧ (∀ (x : Str) (a : T) (b : T) (bo : List Str), (T.lt x a b).walk bo = (a.walk bo ++ b.walk ((bo ++ [x]) ++ b.locals) : List Str)) ∧ (∀ (x : Str) (a : T) (b : T) (bo : List Str), (T.fr x a b).walk bo = (a.walk bo ++ b.walk ((bo ++ [x]) ++ b.locals) : List Str)) ∧ (∀ (a : T) (x : Str) (b : T) (bo : List Str), (T.cmp a x b).walk bo = (b.walk bo ++ a.walk ((bo ++ [x]) ++ a.locals) : List Str)) :=
  ⟨fun _ _ => rfl, fun _ => rfl, fun _ _ _ => rfl, fun _ _ _ => rfl, fun _ _ => rfl, fun _ _ _ => rfl, fun _ _ => rfl, fun _ _ => rfl, fun _ _ _ _ => rfl, fun _ _ _ => rfl, fun _ _ _ => rfl, fun _ _ _ => rfl, fun _ _ _ => rfl, fun _ _ _ _ => rfl, fun _ _ _ _ => rfl, fun _ _ _ _ => rfl⟩
noncomputable def inside (as : List Ar) (b : T) (bo : List Str) : List Str := (dfl as).flatMap (sy · (bo ++ as.map (·.1))) ++ b.walk ((bo ++ as.map (·.1)) ++ b.locals)
theorem mem_scUses {us own : List Str} {b : T} {z : Str} : z ∈ scUses us b own ↔ z ∈ us ∧ z ∉ own ∧ z ∉ b.locals := by
  unfold scUses
  rw [mem_wout, List.mem_append, mem_putAll, not_or]
  simp
theorem mem_inside {as : List Ar} {b : T} {bo : List Str} {z : Str} (hb : ∀ bo, z ∈ b.walk bo ↔ z ∈ b.used ∧ z ∉ bo) : z ∈ inside as b bo ↔ z ∈ funUses b.used as b ∧ z ∉ bo := by
  unfold inside funUses
  rw [List.mem_append, List.mem_flatMap, hb, mem_wout, mem_joinAll]
  simp only [mem_sy, List.mem_cons, List.not_mem_nil, or_false, exists_eq_or_imp, exists_eq_left, mem_putAll, false_or, mem_scUses, List.append_nil, List.mem_append, not_or, not_false_eq_true, true_and]
  show (∃ a, a ∈ dfl as ∧ z = a ∧ z ∉ bo ∧ z ∉ as.map (·.1)) ∨ _ ↔ ((z ∈ dfl as ∨ _) ∧ _) ∧ _
  constructor
  · rintro (⟨a, h1, rfl, h2, h3⟩ | ⟨h1, ⟨h2, h3⟩, h4⟩)
    · exact ⟨⟨.inl h1, h3⟩, h2⟩
    · exact ⟨⟨.inr ⟨h1, h4⟩, h3⟩, h2⟩
  · rintro ⟨⟨h1 | ⟨h1, h4⟩, h3⟩, h2⟩
    · exact .inl ⟨z, h1, rfl, h2, h3⟩
    · exact .inr ⟨h1, ⟨h2, h3⟩, h4⟩
theorem j1 {z : Str} {a : List Str} : z ∈ joinAll [a] ↔ z ∈ a := mem_joinAll.trans ⟨fun ⟨_, h, k⟩ => List.mem_singleton.mp h ▸ k, fun h => ⟨a, .head _, h⟩⟩
theorem j2 {z : Str} {a b : List Str} : z ∈ joinAll [a, b] ↔ z ∈ a ∨ z ∈ b := mem_joinAll.trans ⟨fun ⟨_, h, k⟩ => (List.mem_cons.mp h).elim (fun e => .inl (e ▸ k)) fun h => .inr (List.mem_singleton.mp h ▸ k), fun h => h.elim (fun h => ⟨a, .head _, h⟩) fun h => ⟨b, .tail _ (.head _), h⟩⟩
theorem w2 {z : Str} {la lb ja jb : List Str} {n : Prop} (ha : z ∈ la ↔ z ∈ ja ∧ n) (hb : z ∈ lb ↔ z ∈ jb ∧ n) : z ∈ la ++ lb ↔ z ∈ joinAll [ja, jb] ∧ n := by
  rw [List.mem_append, j2, ha, hb]; exact or_and_right.symm
theorem wsy {z x : Str} {bo : List Str} : z ∈ sy x bo ↔ z ∈ [x] ∧ z ∉ bo := by rw [mem_sy, List.mem_singleton]
theorem wsc {z : Str} {b : T} (hb : ∀ bo, z ∈ b.walk bo ↔ z ∈ b.used ∧ z ∉ bo) {bo xs own : List Str} (ho : z ∈ own ↔ z ∈ xs) : z ∈ b.walk ((bo ++ xs) ++ b.locals) ↔ z ∈ scUses b.used b own ∧ z ∉ bo := by
  rw [hb, mem_scUses, List.mem_append, List.mem_append, not_or, not_or, ho]
  exact ⟨fun ⟨h1, ⟨h2, h3⟩, h4⟩ => ⟨⟨h1, h3, h4⟩, h2⟩, fun ⟨⟨h1, h3, h4⟩, h2⟩ => ⟨h1, ⟨h2, h3⟩, h4⟩⟩
theorem wsn {z : Str} {b : T} (hb : ∀ bo, z ∈ b.walk bo ↔ z ∈ b.used ∧ z ∉ bo) {bo : List Str} : z ∈ b.walk (bo ++ b.locals) ↔ z ∈ scUses b.used b [] ∧ z ∉ bo := by
  have h := wsc hb (bo := bo) (xs := []) (own := []) Iff.rfl
  rwa [List.append_nil] at h
theorem wpo {z : Str} {a la : List Str} {n : Prop} (h : z ∈ la ↔ z ∈ a ∧ n) : z ∈ la ↔ z ∈ putAll [] (wout a []) ∧ n := by
  rw [h, mem_putAll, mem_wout]
  exact ⟨fun ⟨h1, h2⟩ => ⟨.inr ⟨h1, fun h => (nomatch h)⟩, h2⟩, fun ⟨h1, h2⟩ => ⟨(h1.resolve_left fun h => (nomatch h)).1, h2⟩⟩
theorem wp1 {z x : Str} : z ∈ putAll [] [x] ↔ z ∈ [x] := by rw [mem_putAll]; exact ⟨fun h => h.resolve_left (fun h => (nomatch h)), .inr⟩
theorem mem_walk (z : Str) : ∀ (t : T) (bo : List Str), z ∈ t.walk bo ↔ z ∈ t.used ∧ z ∉ bo := by
  intro t
  induction t with
  | sym x => exact fun bo => wsy
  | one => exact fun bo => ⟨fun h => (nomatch h), fun h => (nomatch h.1)⟩
  | quo x => exact fun bo => ⟨fun h => (nomatch h), fun h => (nomatch h.1)⟩
  | loc x => exact fun bo => wsy.trans (and_congr_left' j1.symm)
  | dot x => exact fun bo => wsy.trans (and_congr_left' j1.symm)
  | set x v ih => exact fun bo => w2 wsy (ih bo)
  | up x v ih => exact fun bo => w2 wsy (ih bo)
  | locs x v ih => exact fun bo => (w2 wsy (ih bo)).trans (and_congr_left' j1.symm)
  | blk a b iha ihb => exact fun bo => w2 (iha bo) (ihb bo)
  | ite a b iha ihb => exact fun bo => w2 (iha bo) (ihb bo)
  | whl a b iha ihb => exact fun bo => w2 (iha bo) (wsn ihb)
  | lt x a b iha ihb => exact fun bo => w2 (wpo (iha bo)) (wsc ihb wp1)
  | fr x a b iha ihb => exact fun bo => w2 (iha bo) (wsc ihb Iff.rfl)
  | cmp a x b iha ihb => exact fun bo => w2 (wpo (ihb bo)) (wsc iha wp1)
  | fn y as b ih => exact fun bo => w2 wsy (mem_inside (as := as) (bo := bo) ih)
  | arr as b ih => exact fun bo => (mem_inside (as := as) (bo := bo) ih).trans (and_congr_left' (j2.trans (or_iff_right List.not_mem_nil)).symm)
example : Sep := by w_top off; first | walk1 | trivial
noncomputable def T.rows (H : T → List Str) : T → Bool → List Row
  | .sym x0, _ => []
  | .one, _ => []
  | .set x v, s => v.rows H s ++ [.as x s]
  | .up x v, s => v.rows H s ++ [.as x false]
  | .loc x, _ => [.as x false]
  | .locs x v, s => v.rows H s ++ [.as x s]
  | .dot x0, _ => []
  | .quo x0, _ => []
  | .fn z as b, s => .held (H (.fn z as b)) :: (b.rows H false ++ [.as z s])
  | .arr as b, _ => .held (H (.arr as b)) :: b.rows H false
  | .blk a b, s => a.rows H s ++ b.rows H s
  | .ite a b, _ => a.rows H false ++ b.rows H false
  | .whl a b, _ => a.rows H false ++ b.rows H false
  | .lt x a b, s => (a.rows H s ++ [.as x s]) ++ b.rows H s
  | .fr x a b, s => (a.rows H s ++ [.as x true]) ++ b.rows H false
  | .cmp a x b, s => ((b.rows H s ++ [.as x true]) ++ [.held (H (.cmp a x b))]) ++ a.rows H false
theorem T.rows_e (H : T → List Str) : (∀ (x0 : Str) (e0 : Bool), (T.sym x0).rows H e0 = ([] : List Row)) ∧ (∀ (e0 : Bool), (T.one).rows H e0 = ([] : List Row)) ∧ (∀ (x : Str) (v : T) (s : Bool), (T.set x v).rows H s = (v.rows H s ++ [.as x s] : List Row)) ∧ (∀ (x : Str) (v : T) (s : Bool), (T.up x v).rows H s = (v.rows H s ++ [.as x false] : List Row)) ∧ (∀ (x : Str) (e0 : Bool), (T.loc x).rows H e0 = ([.as x false] : List Row)) ∧ (∀ (x : Str) (v : T) (s : Bool), (T.locs x v).rows H s = (v.rows H s ++ [.as x s] : List Row)) ∧ (∀ (x0 : Str) (e0 : Bool), (T.dot x0).rows H e0 = ([] : List Row)) ∧ (∀ (x0 : Str) (e0 : Bool), (T.quo x0).rows H e0 = ([] : List Row)) ∧ (∀ (z : Str) (as : List Ar) (b : T) (s : Bool), (T.fn z as b).rows H s = (.held (H (.fn z as b)) :: (b.rows H false ++ [.as z s]) : List Row)) ∧ (∀ (as : List Ar) (b : T) (e0 : Bool), (T.arr as b).rows H e0 = (.held (H (.arr as b)) :: b.rows H false : List Row)) ∧ (∀ (a : T) (b : T) (s : Bool), (T.blk a b).rows H s = (a.rows H s ++ b.rows H s : List Row)) ∧ (∀ (a : T) (b : T) (e0 : Bool), (T.ite a b).rows H e0 = (a.rows H false ++ b.rows H false : List Row)) ∧ (∀ (a : T) (b : T) (e0 : Bool), (T.whl a b).rows H e0 = (a.rows H false ++ b.rows H false : List Row)) ∧ (∀ (x : Str) (a : T) (b : T) (s : Bool), (T.lt x a b).rows H s = ((a.rows H s ++ [.as x s]) ++ b.rows H s : List Row)) ∧ (∀ (x : Str) (a : T) (b : T) (s : Bool), (T.fr x a b).rows H s = ((a.rows H s ++ [.as x true]) ++ b.rows H false : List Row)) ∧ (∀ (a : T) (x : Str) (b : T) (s : Bool), (T.cmp a x b).rows H s = (((b.rows H s ++ [.as x true]) ++ [.held (H (.cmp a x b))]) ++ a.rows H false : List Row)) :=
  ⟨fun _ _ => rfl, fun _ => rfl, fun _ _ _ => rfl, fun _ _ _ => rfl, fun _ _ => rfl, fun _ _ _ => rfl, fun _ _ => rfl, fun _ _ => rfl, fun _ _ _ _ => rfl, fun _ _ _ => rfl, fun _ _ _ => rfl, fun _ _ _ => rfl, fun _ _ _ => rfl, fun _ _ _ _ => rfl, fun _ _ _ _ => rfl, fun _ _ _ _ => rfl⟩
noncomputable def T.H1 : T → List Str
  | .sym x0 => (T.sym x0).used
  | .one => (T.one).used
  | .set x0 x1 => (T.set x0 x1).used
  | .up x0 x1 => (T.up x0 x1).used
  | .loc x0 => (T.loc x0).used
  | .locs x0 x1 => (T.locs x0 x1).used
  | .dot x0 => (T.dot x0).used
  | .quo x0 => (T.quo x0).used
  | .fn _ as b => funUses b.used as b
  | .arr as b => funUses b.used as b
  | .blk x0 x1 => (T.blk x0 x1).used
  | .ite x0 x1 => (T.ite x0 x1).used
  | .whl x0 x1 => (T.whl x0 x1).used
  | .lt x0 x1 x2 => (T.lt x0 x1 x2).used
  | .fr x0 x1 x2 => (T.fr x0 x1 x2).used
  | .cmp x0 x1 x2 => (T.cmp x0 x1 x2).used
theorem T.H1_e : (∀ (x0 : Str), (T.sym x0).H1 = ((T.sym x0).used : List Str)) ∧ ((T.one).H1 = ((T.one).used : List Str)) ∧ (∀ (x0 : Str) (x1 : T), (T.set x0 x1).H1 = ((T.set x0 x1).used : List Str)) ∧ (∀ (x0 : Str) (x1 : T), (T.up x0 x1).H1 = ((T.up x0 x1).used : List Str)) ∧ (∀ (x0 : Str), (T.loc x0).H1 = ((T.loc x0).used : List Str)) ∧ (∀ (x0 : Str) (x1 : T), (T.locs x0 x1).H1 = ((T.locs x0 x1).used : List Str)) ∧ (∀ (x0 : Str), (T.dot x0).H1 = ((T.dot x0).used : List Str)) ∧ (∀ (x0 : Str), (T.quo x0).H1 = ((T.quo x0).used : List Str)) ∧ (∀ (w0 : Str) (as : List Ar) (b : T), (T.fn w0 as b).H1 = (funUses b.used as b : List Str)) ∧ (∀ (as : List Ar) (b : T), (T.arr as b).H1 = (funUses b.used as b : List Str)) ∧ (∀ (x0 : T) (x1 : T), (T.blk x0 x1).H1 = ((T.blk x0 x1).used : List Str)) ∧ (∀ (x0 : T) (x1 : T), (T.ite x0 x1).H1 = ((T.ite x0 x1).used : List Str)) ∧ (∀ (x0 : T) (x1 : T), (T.whl x0 x1).H1 = ((T.whl x0 x1).used : List Str)) ∧ (∀ (x0 : Str) (x1 : T) (x2 : T), (T.lt x0 x1 x2).H1 = ((T.lt x0 x1 x2).used : List Str)) ∧ (∀ (x0 : Str) (x1 : T) (x2 : T), (T.fr x0 x1 x2).H1 = ((T.fr x0 x1 x2).used : List Str)) ∧ (∀ (x0 : T) (x1 : Str) (x2 : T), (T.cmp x0 x1 x2).H1 = ((T.cmp x0 x1 x2).used : List Str)) :=
  ⟨fun _ => rfl, rfl, fun _ _ => rfl, fun _ _ => rfl, fun _ => rfl, fun _ _ => rfl, fun _ => rfl, fun _ => rfl, fun _ _ _ => rfl, fun _ _ => rfl, fun _ _ => rfl, fun _ _ => rfl, fun _ _ => rfl, fun _ _ _ => rfl, fun _ _ _ => rfl, fun _ _ _ => rfl⟩
noncomputable def T.H2 : T → List Str
  | .sym x0 => (T.sym x0).walk []
  | .one => (T.one).walk []
  | .set x0 x1 => (T.set x0 x1).walk []
  | .up x0 x1 => (T.up x0 x1).walk []
  | .loc x0 => (T.loc x0).walk []
  | .locs x0 x1 => (T.locs x0 x1).walk []
  | .dot x0 => (T.dot x0).walk []
  | .quo x0 => (T.quo x0).walk []
  | .fn _ as b => inside as b []
  | .arr as b => inside as b []
  | .blk x0 x1 => (T.blk x0 x1).walk []
  | .ite x0 x1 => (T.ite x0 x1).walk []
  | .whl x0 x1 => (T.whl x0 x1).walk []
  | .lt x0 x1 x2 => (T.lt x0 x1 x2).walk []
  | .fr x0 x1 x2 => (T.fr x0 x1 x2).walk []
  | .cmp x0 x1 x2 => (T.cmp x0 x1 x2).walk []
theorem T.H2_e : (∀ (x0 : Str), (T.sym x0).H2 = ((T.sym x0).walk [] : List Str)) ∧ ((T.one).H2 = ((T.one).walk [] : List Str)) ∧ (∀ (x0 : Str) (x1 : T), (T.set x0 x1).H2 = ((T.set x0 x1).walk [] : List Str)) ∧ (∀ (x0 : Str) (x1 : T), (T.up x0 x1).H2 = ((T.up x0 x1).walk [] : List Str)) ∧ (∀ (x0 : Str), (T.loc x0).H2 = ((T.loc x0).walk [] : List Str)) ∧ (∀ (x0 : Str) (x1 : T), (T.locs x0 x1).H2 = ((T.locs x0 x1).walk [] : List Str)) ∧ (∀ (x0 : Str), (T.dot x0).H2 = ((T.dot x0).walk [] : List Str)) ∧ (∀ (x0 : Str), (T.quo x0).H2 = ((T.quo x0).walk [] : List Str)) ∧ (∀ (w0 : Str) (as : List Ar) (b : T), (T.fn w0 as b).H2 = (inside as b [] : List Str)) ∧ (∀ (as : List Ar) (b : T), (T.arr as b).H2 = (inside as b [] : List Str)) ∧ (∀ (x0 : T) (x1 : T), (T.blk x0 x1).H2 = ((T.blk x0 x1).walk [] : List Str)) ∧ (∀ (x0 : T) (x1 : T), (T.ite x0 x1).H2 = ((T.ite x0 x1).walk [] : List Str)) ∧ (∀ (x0 : T) (x1 : T), (T.whl x0 x1).H2 = ((T.whl x0 x1).walk [] : List Str)) ∧ (∀ (x0 : Str) (x1 : T) (x2 : T), (T.lt x0 x1 x2).H2 = ((T.lt x0 x1 x2).walk [] : List Str)) ∧ (∀ (x0 : Str) (x1 : T) (x2 : T), (T.fr x0 x1 x2).H2 = ((T.fr x0 x1 x2).walk [] : List Str)) ∧ (∀ (x0 : T) (x1 : Str) (x2 : T), (T.cmp x0 x1 x2).H2 = ((T.cmp x0 x1 x2).walk [] : List Str)) :=
  ⟨fun _ => rfl, rfl, fun _ _ => rfl, fun _ _ => rfl, fun _ => rfl, fun _ _ => rfl, fun _ => rfl, fun _ => rfl, fun _ _ _ => rfl, fun _ _ => rfl, fun _ _ => rfl, fun _ _ => rfl, fun _ _ => rfl, fun _ _ _ => rfl, fun _ _ _ => rfl, fun _ _ _ => rfl⟩
theorem mem_H (t : T) (z : Str) : z ∈ t.H1 ↔ z ∈ t.H2 := by
  cases t <;> simp only [T.H1_e, T.H2_e]
  case fn y as b => rw [mem_inside (mem_walk z b)]; simp
  case arr as b => rw [mem_inside (mem_walk z b)]; simp
  all_goals (rw [mem_walk]; simp)
inductive Rel : List Row → List Row → Prop
  | nil : Rel [] []
  | as (y : Str) (b : Bool) {r1 r2 : List Row} : Rel r1 r2 → Rel (.as y b :: r1) (.as y b :: r2)
  | held {ys zs : List Str} {r1 r2 : List Row} : (∀ z, z ∈ ys ↔ z ∈ zs) → Rel r1 r2 → Rel (.held ys :: r1) (.held zs :: r2)
theorem Rel.append {a b c d : List Row} (h : Rel a b) (k : Rel c d) : Rel (a ++ c) (b ++ d) := by
  induction h with
  | nil => exact k
  | as y b _ ih => exact .as y b ih
  | held e _ ih => exact .held e ih
theorem T.rel (t : T) : ∀ s, Rel (t.rows T.H1 s) (t.rows T.H2 s) := by
  induction t with
  | sym x => intro s; exact .nil
  | one => intro s; exact .nil
  | quo x => intro s; exact .nil
  | dot x => intro s; exact .nil
  | loc x => intro s; exact .as _ _ .nil
  | set x v ih => intro s; exact (ih s).append (.as _ _ .nil)
  | up x v ih => intro s; exact (ih s).append (.as _ _ .nil)
  | locs x v ih => intro s; exact (ih s).append (.as _ _ .nil)
  | fn z as b ih => intro s; exact .held (mem_H (.fn z as b)) ((ih false).append (.as _ _ .nil))
  | arr as b ih => intro s; exact .held (mem_H (.arr as b)) (ih false)
  | blk a b iha ihb => intro s; exact (iha s).append (ihb s)
  | ite a b iha ihb => intro s; exact (iha false).append (ihb false)
  | whl a b iha ihb => intro s; exact (iha false).append (ihb false)
  | lt x a b iha ihb => intro s; exact ((iha s).append (.as _ _ .nil)).append (ihb s)
  | fr x a b iha ihb => intro s; exact ((iha s).append (.as _ _ .nil)).append (ihb false)
  | cmp a x b iha ihb => intro s; exact (((ihb s).append (.as _ _ .nil)).append (.held (mem_H (.cmp a x b)) .nil)).append (iha false)
noncomputable def heldOf : List Row → List (List Str)
  | [] => []
  | .held ys :: r => ys :: heldOf r
  | .as _ _ :: r => heldOf r
noncomputable def doneOf : List Row → Nat → List (Str × Bool × Nat)
  | [], _ => []
  | .held _ :: r, n => doneOf r (n + 1)
  | .as y b :: r, n => (y, b, n) :: doneOf r n
theorem heldOf_n : heldOf [] = [] := rfl
theorem heldOf_h (ys : List Str) (r : List Row) : heldOf (.held ys :: r) = ys :: heldOf r := rfl
theorem heldOf_a (y : Str) (b : Bool) (r : List Row) : heldOf (.as y b :: r) = heldOf r := rfl
theorem doneOf_n (n : Nat) : doneOf [] n = [] := rfl
theorem doneOf_h (ys : List Str) (r : List Row) (n : Nat) : doneOf (.held ys :: r) n = doneOf r (n + 1) := rfl
theorem doneOf_a (y : Str) (b : Bool) (r : List Row) (n : Nat) : doneOf (.as y b :: r) n = (y, b, n) :: doneOf r n := rfl
noncomputable def firstOf (rows : List Row) (name : Str) : Nat := (heldOf rows).findIdx fun ys => ys.any (· == name)
noncomputable def rowsOf (rows : List Row) (name : Str) : List (Str × Bool × Nat) := (doneOf rows 0).filter fun r => r.1 == name
noncomputable def captOk (rows : List Row) (name : Str) : Bool := decide (1 < (rowsOf rows name).length) || (rowsOf rows name).any fun r => !r.2.1 || decide (firstOf rows name < r.2.2)
noncomputable def capt (rows : List Row) : List Str := (joinAll (heldOf rows)).filter (captOk rows)
noncomputable def Row.holds (name : Str) : Row → Bool
  | .held ys => ys.any (· == name)
  | _ => false
noncomputable def Row.gives (name : Str) : Row → Bool
  | .as y _ => y == name
  | _ => false
noncomputable def Row.sure : Row → Bool
  | .as _ b => b
  | _ => false
theorem Row.gives_h (z : Str) (ys : List Str) : (Row.held ys).gives z = false := rfl
theorem Row.gives_a (z y : Str) (b : Bool) : (Row.as y b).gives z = (y == z) := rfl
theorem Row.sure_h (ys : List Str) : (Row.held ys).sure = false := rfl
theorem Row.sure_a (y : Str) (b : Bool) : (Row.as y b).sure = b := rfl
noncomputable def idxs (p : Row → Bool) (rows : List Row) : List Nat := (List.range rows.length).filter fun i => (rows[i]?.map p).getD false
noncomputable def sureAt (rows : List Row) (i : Nat) : Bool := (rows[i]?.map Row.sure).getD false
noncomputable def dueOk (rows : List Row) (name : Str) : Bool :=
  match idxs (Row.holds name) rows, idxs (Row.gives name) rows with
  | h :: _, g :: gs => decide (1 < gs.length + 1) || !sureAt rows g || decide (h < g)
  | _, _ => false
theorem idxs_cons (p : Row → Bool) (r : Row) (rows : List Row) : idxs p (r :: rows) = (if p r then [0] else []) ++ (idxs p rows).map (· + 1) := by
  unfold idxs
  rw [List.length_cons, List.range_succ_eq_map, List.filter_cons, List.filter_map]
  simp only [List.getElem?_cons_zero, Option.map_some, Option.getD_some]
  have e : (fun i => ((r :: rows)[i]?.map p).getD false) ∘ Nat.succ = fun i => (rows[i]?.map p).getD false := by
    funext i; simp
  rw [e]
  by_cases h : p r = true
  · rw [if_pos h, if_pos h]; rfl
  · rw [if_neg h, if_neg h]; rfl
theorem idxs_append (p : Row → Bool) (a b : List Row) : idxs p (a ++ b) = idxs p a ++ (idxs p b).map (· + a.length) := by
  induction a with
  | nil => simp [idxs]
  | cons x a ih =>
    rw [List.cons_append, idxs_cons, ih, idxs_cons, List.append_assoc, List.map_append, List.map_map]
    congr 2
theorem idxs_none {p : Row → Bool} {a : List Row} (h : ∀ r ∈ a, p r = false) : idxs p a = [] := by
  induction a with
  | nil => rfl
  | cons x a ih => rw [idxs_cons, h x (.head _), ih fun r hr => h r (.tail _ hr)]; rfl
theorem idxs_lt {p : Row → Bool} {a : List Row} {i : Nat} (h : i ∈ idxs p a) : i < a.length := by
  unfold idxs at h
  rw [List.mem_filter, List.mem_range] at h
  exact h.1
theorem done_idx (name : Str) : ∀ (rows : List Row) (n : Nat), ((doneOf rows n).filter fun r => r.1 == name).map (·.2.1) = (idxs (Row.gives name) rows).map (sureAt rows) := by
  intro rows
  induction rows with
  | nil => intro n; rfl
  | cons x rows ih =>
    intro n
    have e : ∀ l : List Nat, (l.map (· + 1)).map (sureAt (x :: rows)) = l.map (sureAt rows) := fun l => by
      rw [List.map_map]; congr 1
    cases x with
    | held ys =>
      rw [idxs_cons, doneOf_h, ih]
      simp only [Row.gives_h, Row.gives_a, Bool.false_eq_true, if_false, List.nil_append]
      rw [e]
    | as y b =>
      rw [idxs_cons, doneOf_a, List.map_append, e, ← ih n, List.filter_cons]
      cases h : y == name <;> simp [Row.gives_h, Row.gives_a, h, sureAt, Row.sure_h, Row.sure_a]
theorem done_append (a b : List Row) : ∀ n, doneOf (a ++ b) n = doneOf a n ++ doneOf b (n + (heldOf a).length) := by
  induction a with
  | nil => intro n; rfl
  | cons x a ih =>
    intro n
    cases x with
    | held ys => rw [List.cons_append, doneOf_h, ih, doneOf_h, heldOf_h, List.length_cons, Nat.add_assoc, Nat.add_comm 1]
    | as y b => rw [List.cons_append, doneOf_a, ih, doneOf_a, heldOf_a, List.cons_append]
theorem held_append (a b : List Row) : heldOf (a ++ b) = heldOf a ++ heldOf b := by
  induction a with
  | nil => rfl
  | cons x a ih => cases x <;> simp [heldOf_n, heldOf_h, heldOf_a, ih]
theorem done_bounds (rows : List Row) : ∀ n, ∀ r ∈ doneOf rows n, n ≤ r.2.2 ∧ r.2.2 ≤ n + (heldOf rows).length := by
  induction rows with
  | nil => intro n r hr; cases hr
  | cons x rows ih =>
    intro n r hr
    cases x with
    | held ys =>
      have := ih (n + 1) r hr
      simp only [heldOf_n, heldOf_h, heldOf_a, List.length_cons]; k_extra "mE lia"
    | as y b =>
      simp only [doneOf_n, doneOf_h, doneOf_a] at hr
      rcases List.mem_cons.mp hr with rfl | hr
      · simp [heldOf_n, heldOf_h, heldOf_a]
      · exact ih n r hr
theorem held_split {name : Str} {rows : List Row} (h : ∃ ys ∈ heldOf rows, name ∈ ys) : ∃ pre ys post, rows = pre ++ .held ys :: post ∧ name ∈ ys ∧ (∀ r ∈ pre, r.holds name = false) := by
  induction rows with
  | nil => obtain ⟨ys, h, _⟩ := h; cases h
  | cons x rows ih =>
    by_cases hx : x.holds name = true
    · cases x with
      | held ys => exact ⟨[], ys, rows, rfl, any_mem.mp hx, fun _ h => nomatch h⟩
      | as y b => cases hx
    · have h' : ∃ ys ∈ heldOf rows, name ∈ ys := by
        refine ex1_2 h ?_; clear h; intro ys h1 h2
        cases x with
        | as y b => exact ⟨ys, h1, h2⟩
        | held zs =>
          rcases List.mem_cons.mp h1 with rfl | h1
          · exact absurd (any_mem.mpr h2) hx
          · exact ⟨ys, h1, h2⟩
      refine ex3_3 (ih h') ?_; intro pre ys post e h1 h2
      refine ⟨x :: pre, ys, post, by rw [e]; rfl, h1, fun r hr => ?_⟩
      rcases List.mem_cons.mp hr with rfl | hr
      · simpa using hx
      · exact h2 r hr
theorem find_first {name : Str} {pre post : List Row} {ys : List Str} (hy : name ∈ ys) (hp : ∀ r ∈ pre, r.holds name = false) : firstOf (pre ++ .held ys :: post) name = (heldOf pre).length := by
  unfold firstOf
  rw [held_append, List.findIdx_append]
  have : List.findIdx (fun ys => ys.any (· == name)) (heldOf pre) = (heldOf pre).length := by
    rw [List.findIdx_eq_length]
    intro zs hz
    clear hy
    induction pre with
    | nil => cases hz
    | cons x pre ih =>
      cases x with
      | as y b => exact ih (fun r hr => hp r (.tail _ hr)) hz
      | held ws =>
        rcases List.mem_cons.mp hz with rfl | hz
        · exact hp _ (.head _)
        · exact ih (fun r hr => hp r (.tail _ hr)) hz
  rw [this, if_neg (Nat.lt_irrefl _)]
  simp only [heldOf_n, heldOf_h, heldOf_a]
  rw [List.findIdx_cons, any_mem.mpr hy]
  simp
theorem capt_due_one {name : Str} {rows : List Row} (h : ∃ ys ∈ heldOf rows, name ∈ ys) : captOk rows name = dueOk rows name := by
  refine ex3_3 (held_split h) ?_; intro pre ys post eK; subst eK; intro hy hp
  have hh : idxs (Row.holds name) (pre ++ .held ys :: post) = pre.length :: (idxs (Row.holds name) post).map (fun i => i + 1 + pre.length) := by
    rw [idxs_append, idxs_none hp, idxs_cons, if_pos (show Row.holds name (.held ys) = true from any_mem.mpr hy)]
    simp
  have hg : idxs (Row.gives name) (pre ++ .held ys :: post) = idxs (Row.gives name) pre ++ (idxs (Row.gives name) post).map (fun i => i + 1 + pre.length) := by
    rw [idxs_append, idxs_cons]
    simp [Row.gives_h, Row.gives_a]
  have hd : rowsOf (pre ++ .held ys :: post) name = ((doneOf pre 0).filter fun r => r.1 == name) ++ ((doneOf post ((heldOf pre).length + 1)).filter fun r => r.1 == name) := by
    unfold rowsOf
    rw [done_append, List.filter_append]; simp only [doneOf_n, doneOf_h, doneOf_a, Nat.zero_add]
  have q1 := done_idx name pre 0
  have q2 := done_idx name post ((heldOf pre).length + 1)
  have b1 := done_bounds pre 0
  have b2 := done_bounds post ((heldOf pre).length + 1)
  have hf := find_first (post := post) hy hp
  unfold captOk dueOk
  rw [hh, hg, hf, hd]
  have hAs : ∀ r ∈ (doneOf pre 0).filter fun r => r.1 == name, r.2.2 ≤ (heldOf pre).length := fun r hr => by have := (b1 r (List.mem_filter.mp hr).1).2; k_extra "mE lia"
  have hBs : ∀ r ∈ (doneOf post ((heldOf pre).length + 1)).filter fun r => r.1 == name, (heldOf pre).length < r.2.2 := fun r hr => by have := (b2 r (List.mem_filter.mp hr).1).1; k_extra "mE lia"
  have hGs : ∀ i ∈ idxs (Row.gives name) pre, i < pre.length := fun i hi => idxs_lt hi
  have sl : ∀ i, i < pre.length → sureAt (pre ++ .held ys :: post) i = sureAt pre i := fun i hi => by unfold sureAt; rw [List.getElem?_append_left hi]
  generalize (doneOf pre 0).filter (fun r => r.1 == name) = A at *
  generalize (doneOf post ((heldOf pre).length + 1)).filter (fun r => r.1 == name) = B at *
  generalize idxs (Row.gives name) pre = G at *
  generalize idxs (Row.gives name) post = G2 at *
  clear hh hg hd hf b1 b2 hp
  have l1 : A.length = G.length := by have := congrArg List.length q1; simpa using this
  have l2 : B.length = G2.length := by have := congrArg List.length q2; simpa using this
  rcases G with _ | ⟨g, gs⟩
  · have : A = [] := List.eq_nil_of_length_eq_zero l1
    subst this
    rcases G2 with _ | ⟨g2, gs2⟩
    · have : B = [] := List.eq_nil_of_length_eq_zero l2
      subst this
      rfl
    · rcases B with _ | ⟨b, bs⟩
      · cases l2
      · have hb := hBs b (.head _)
        simp only [List.nil_append, List.map_cons, List.any_cons, decide_eq_true hb, Bool.or_true, Bool.true_or]
        have : pre.length < g2 + 1 + pre.length := by k_extra "mE lia"
        rw [decide_eq_true this]; simp
  · rcases A with _ | ⟨a, as⟩
    · cases l1
    · have ha := hAs a (.head _)
      have hgl := hGs g (.head _)
      simp only [List.map_cons, List.cons.injEq] at q1
      simp only [List.cons_append, List.length_cons, List.length_append, List.length_map] at l1 l2 ⊢
      rw [sl g hgl, ← q1.1]
      by_cases hlen : gs.length + G2.length = 0
      · have e1 : as = [] := List.eq_nil_of_length_eq_zero (by k_extra "mE lia")
        have e2 : B = [] := List.eq_nil_of_length_eq_zero (by k_extra "mE lia")
        subst e1 e2
        have n1 : ¬ (heldOf pre).length < a.2.2 := by k_extra "mE lia"
        have n2 : ¬ pre.length < g := by k_extra "mE lia"
        have n3 : gs.length = 0 := by k_extra "mE lia"
        have n4 : G2.length = 0 := by k_extra "mE lia"
        simp [n1, n2, n3, n4]
      · have n1 : 1 < as.length + 1 + B.length := by k_extra "mE lia"
        have n2 : 1 < gs.length + G2.length + 1 := by k_extra "mE lia"
        simp only [decide_eq_true n2, Bool.true_or]
        have n3 : 1 < as.length + B.length + 1 := by k_extra "mE lia"
        simp [n1, n3]
theorem due_held {name : Str} {rows : List Row} (h : dueOk rows name = true) : ∃ ys ∈ heldOf rows, name ∈ ys := by
  apply Classical.byContradiction
  intro hn
  have : idxs (Row.holds name) rows = [] := by
    refine idxs_none fun r hr => ?_
    cases r with
    | as y b => rfl
    | held ys =>
      apply Classical.byContradiction
      intro hk
      refine hn ⟨ys, ?_, any_mem.mp (show Row.holds name (.held ys) = true by cases q : Row.holds name (.held ys) with | true => rfl | false => exact absurd q hk)⟩
      clear h hn hk
      induction rows with
      | nil => cases hr
      | cons x rows ih =>
        rcases List.mem_cons.mp hr with rfl | hr'
        · exact .head _
        · clear hr
          cases x with
          | as y b => exact ih hr'
          | held zs => exact .tail _ (ih hr')
  unfold dueOk at h
  rw [this] at h
  cases h
theorem Rel.captOk {r1 r2 : List Row} (h : Rel r1 r2) (name : Str) : Internal.captOk r1 name = Internal.captOk r2 name := by
  have hd : ∀ n, doneOf r1 n = doneOf r2 n := by
    induction h with
    | nil => intro n; rfl
    | as y b _ ih => intro n; simp only [doneOf_n, doneOf_h, doneOf_a, ih]
    | held _ _ ih => intro n; simp only [doneOf_n, doneOf_h, doneOf_a, ih]
  have hf : firstOf r1 name = firstOf r2 name := by
    unfold firstOf
    clear hd
    induction h with
    | nil => rfl
    | as y b _ ih => exact ih
    | @held ys zs _ _ e _ ih =>
      simp only [heldOf_n, heldOf_h, heldOf_a, List.findIdx_cons, ih]
      have : ys.any (· == name) = zs.any (· == name) := by
        cases h1 : zs.any (· == name) with
        | true => exact any_mem.mpr ((e name).mpr (any_mem.mp h1))
        | false => exact any_not.mpr fun h2 => any_not.mp h1 ((e name).mp h2)
      rw [this]
  unfold Internal.captOk rowsOf
  rw [hd, hf]
theorem Rel.mem {r1 r2 : List Row} (h : Rel r1 r2) (name : Str) : (∃ ys ∈ heldOf r1, name ∈ ys) ↔ ∃ ys ∈ heldOf r2, name ∈ ys := by
  induction h with
  | nil => rfl
  | as y b _ ih => exact ih
  | held e _ ih => simp only [heldOf_n, heldOf_h, heldOf_a, List.mem_cons, exists_eq_or_imp, ih, e name]
theorem mem_capt {r1 r2 : List Row} (h : Rel r1 r2) (name : Str) : name ∈ capt r1 ↔ dueOk r2 name = true := by
  unfold capt
  rw [List.mem_filter, mem_joinAll, h.mem, h.captOk]
  constructor
  · intro gR45; refine ex0_2 gR45 ?_; clear gR45; intro h1 h2; rw [← capt_due_one h1]; exact h2
  · intro h1; have := due_held h1; exact ⟨this, by rw [capt_due_one this]; exact h1⟩
example : Sep := by w_top off; first | walk1 | trivial
section
variable {n : Nat}
theorem look_hid {n : Nat} {ps : List Tr} {d : Bool → List Row} (hC : EvF w 245 (.ex (Str.ofString "comprehension") ps) d n) : LookOk w (.ex (Str.ofString "comprehension") ps) d (n + 2) := by
  intro g x dx lr h1 k1 vv b O ht hap hoff A s vs nl hg r he hz
  have hkl := keep_lr he
  have ht0 := ht
  k_extra "qB"; refine TreeAt.ex_k ht ?_; clear ht; intro a t1 t2 c ws eK hT hB hts; subst eK; k_extra "qC"
  replace he : ∀ p ∈ eobs h1 k1 x dx lr (vs ++ []) nl, s.heap.get? p.1 = some p.2 := by rw [List.append_nil]; exact he
  refine' enter [((Str.ofString "self"), .ref x), ((Str.ofString "tree"), .ref a), ((Str.ofString "is_sure"), .bool b)] (O.keeps hg) r ?k6 ?k7 ?k9 ?kB ?_ ?c1 ?c2 ?c3 ?c4 ?c5; k_extra "eN"
  refine turnable_k _ F hg hL' he (off_any hoff) ?_; intro hb F N hgh hk
  have O' := O.keeps hgh
  have hR : RowsAt (Ek s) (eobs h1 k1 x dx lr (vs ++ []) nl) [] [] := .nil
  have c1 := hC hb x dx lr h1 k1 _ b O' (TreeAt.keeps hgh _ ht0) hap (three_off N)
  dsimp only [eobs] at N hR
  replace hT := hT.keeps hgh
  have hap' := hap
  unfold Apart3 at hap'
  have X := OkH.X O'; have Tp := OkH.top O'
  k_steps
  rename RowsAt _ _ _ _ => R1
  exact ev_end S hk (by assumption) (by assumption) (by k_mem) (by k_mem) (by k_mem) (R1.eqr (by walk_at "E eqr"))
end
section
theorem LookOk.le {t : Tr} {d : Bool → List Row} {n k : Nat} (h : LookOk w t d n) (hk : n ≤ k) : LookOk w t d k := fun g x dx lr h1 k1 v b O ht hap hoff A s vs m hg r he hz => h g x dx lr h1 k1 v b O ht hap hoff A s vs m hg (r.le hk) he hz
theorem LookOk.eqd {t : Tr} {d e : Bool → List Row} {n : Nat} (h : LookOk w t d n) (hd : d = e) : LookOk w t e n := hd ▸ h
theorem look_two {ky : Str} {p q : Tr} {d e : Bool → List Row} {u : Bool} {n : Nat} (hp : PlL ky) (hu : (UNSS.any fun y => y == ky) = u) (h1 : LookOk w p d n) (h2 : LookOk w q e n) : LookOk w (.ex ky [p, q]) (fun b => d (b && !u) ++ e (b && !u)) (n + 3) := by
  refine (look_plain (ps := [p, q]) (ds := fun i => if i = 0 then d else e) hp hu fun i t ht => ?_).eqd ?_
  · rcases i with _ | _ | i
    · simp only [List.getElem?_cons_zero, Option.some.injEq] at ht; subst ht; exact h1
    · simp only [List.getElem?_cons_succ, List.getElem?_cons_zero, Option.some.injEq] at ht; subst ht; exact h2
    · simp at ht
  · funext b; simp [List.range_succ]
theorem look_one1 {ky : Str} {p : Tr} {d : Bool → List Row} {u : Bool} {n : Nat} (hp : PlL ky) (hu : (UNSS.any fun y => y == ky) = u) (h1 : LookOk w p d n) : LookOk w (.ex ky [p]) (fun b => d (b && !u)) (n + 3) := by
  refine (look_plain (ps := [p]) (ds := fun _ => d) hp hu fun i t ht => ?_).eqd ?_
  · rcases i with _ | i
    · simp only [List.getElem?_cons_zero, Option.some.injEq] at ht; subst ht; exact h1
    · simp at ht
  · funext b; simp [List.range_succ]
theorem T.rows_len (H : T → List Str) (t : T) : ∀ b, (t.rows H b).length ≤ t.sz := by
  induction t with
  | sym x => intro b; simp [T.rows_e]
  | one => intro b; simp [T.rows_e]
  | quo x => intro b; simp [T.rows_e]
  | dot x => intro b; simp [T.rows_e]
  | loc x => intro b; simp [T.rows_e, T.sz_e]
  | set x v ih => intro b; have := ih b; simp only [T.rows_e, T.sz_e, List.length_append, List.length_cons, List.length_nil]; k_extra "mE lia"
  | up x v ih => intro b; have := ih b; simp only [T.rows_e, T.sz_e, List.length_append, List.length_cons, List.length_nil]; k_extra "mE lia"
  | locs x v ih => intro b; have := ih b; simp only [T.rows_e, T.sz_e, List.length_append, List.length_cons, List.length_nil]; k_extra "mE lia"
  | fn z as v ih => intro b; have := ih false; simp only [T.rows_e, T.sz_e, List.length_append, List.length_cons, List.length_nil]; k_extra "mE lia"
  | arr as v ih => intro b; have := ih false; simp only [T.rows_e, T.sz_e, List.length_append, List.length_cons, List.length_nil]; k_extra "mE lia"
  | blk p q ihp ihq => intro b; have := ihp b; have := ihq b; simp only [T.rows_e, T.sz_e, List.length_append]; k_extra "mE lia"
  | ite p q ihp ihq => intro b; have := ihp false; have := ihq false; simp only [T.rows_e, T.sz_e, List.length_append]; k_extra "mE lia"
  | whl p q ihp ihq => intro b; have := ihp false; have := ihq false; simp only [T.rows_e, T.sz_e, List.length_append]; k_extra "mE lia"
  | lt x p q ihp ihq => intro b; have := ihp b; have := ihq b; simp only [T.rows_e, T.sz_e, List.length_append, List.length_cons, List.length_nil]; k_extra "mE lia"
  | fr x p q ihp ihq => intro b; have := ihp b; have := ihq false; simp only [T.rows_e, T.sz_e, List.length_append, List.length_cons, List.length_nil]; k_extra "mE lia"
  | cmp p x q ihp ihq => intro b; have := ihq b; have := ihp false; simp only [T.rows_e, T.sz_e, List.length_append, List.length_cons, List.length_nil]; k_extra "mE lia"
theorem T.rows_len' (H : T → List Str) {t : T} (h : t.sz < 2 ^ 18) : ∀ b, (t.rows H b).length ≤ 2 ^ 18 := fun b => Nat.le_trans (t.rows_len H b) (Nat.le_of_lt h)
theorem look_ok : ∀ t : T, t.ok → t.sz < 2 ^ 18 → LookOk w t.tr (t.rows T.H1) (9 * t.ht + 60) := by
  have pl1 : PlL (Str.ofString "block") := ⟨by decide, by decide, by decide, by decide, by decide, by decide, by decide, by decide, by decide⟩
  have pl2 : PlL (Str.ofString "if") := ⟨by decide, by decide, by decide, by decide, by decide, by decide, by decide, by decide, by decide⟩
  have pl3 : PlL (Str.ofString "while") := ⟨by decide, by decide, by decide, by decide, by decide, by decide, by decide, by decide, by decide⟩
  have pl4 : PlL (Str.ofString "let") := ⟨by decide, by decide, by decide, by decide, by decide, by decide, by decide, by decide, by decide⟩
  have pl5 : PlL (Str.ofString ".") := ⟨by decide, by decide, by decide, by decide, by decide, by decide, by decide, by decide, by decide⟩
  intro t
  induction t with
  | sym x => intro _ _; exact (look_sym x).le (by k_extra "mE lia")
  | one => intro _ _; exact look_one.le (by k_extra "mE lia")
  | quo x => intro _ _; exact (look_quo x).le (by k_extra "mE lia")
  | loc x => intro _ _; exact (look_loc x).le (by k_extra "mE lia")
  | dot x => intro _ _; exact ((look_two pl5 (u := false) (by decide) (look_sym x) (look_sym (Str.ofString "v"))).le (by k_extra "mE lia")).eqd rfl
  | set x v ih => intro ho hz; simp only [T.sz_e] at hz; exact (look_set (ih ho (by k_extra "mE lia")) (T.rows_len' _ (by k_extra "mE lia"))).le (by simp only [T.ht_e]; k_extra "mE lia")
  | up x v ih => intro ho hz; simp only [T.sz_e] at hz; exact (look_up (ih ho (by k_extra "mE lia")) (T.rows_len' _ (by k_extra "mE lia"))).le (by simp only [T.ht_e]; k_extra "mE lia")
  | locs x v ih => intro ho hz; simp only [T.sz_e] at hz; exact (look_locs (look_set (ih ho (by k_extra "mE lia")) (T.rows_len' _ (by k_extra "mE lia")))).le (by simp only [T.ht_e]; k_extra "mE lia")
  | fn z as v ih =>
    intro ho hz
    have hz' := hz
    simp only [T.sz_e] at hz'
    exact (look_fun (by decide) (by decide) (by decide) (clos_fn ((used_ok v ho.2.2 (by k_extra "mE lia")).le (k := 9 * v.ht + 40) (by k_extra "mE lia")) ho (by k_extra "mE lia") (ih ho.2.2 (by k_extra "mE lia")) (T.rows_len' _ (by k_extra "mE lia")))).le (by simp only [T.ht_e]; k_extra "mE lia")
  | arr as v ih =>
    intro ho hz
    have hz' := hz
    simp only [T.sz_e] at hz'
    exact (look_fun (by decide) (by decide) (by decide) (clos_arr ((used_ok v ho.2 (by k_extra "mE lia")).le (k := 9 * v.ht + 40) (by k_extra "mE lia")) ho (by k_extra "mE lia") (ih ho.2 (by k_extra "mE lia")) (T.rows_len' _ (by k_extra "mE lia")))).le (by simp only [T.ht_e]; k_extra "mE lia")
  | blk p q ihp ihq =>
    intro ho hz
    simp only [T.sz_e] at hz
    exact ((look_two pl1 (u := false) (by decide) ((ihp ho.1 (by k_extra "mE lia")).le (k := 9 * max p.ht q.ht + 60) (by k_extra "mE lia")) ((ihq ho.2 (by k_extra "mE lia")).le (by k_extra "mE lia"))).le (by simp only [T.ht_e]; k_extra "mE lia")).eqd (by funext b; cases b <;> rfl)
  | ite p q ihp ihq =>
    intro ho hz
    simp only [T.sz_e] at hz
    exact ((look_two pl2 (u := true) (by decide) ((ihp ho.1 (by k_extra "mE lia")).le (k := 9 * max p.ht q.ht + 60) (by k_extra "mE lia")) ((ihq ho.2 (by k_extra "mE lia")).le (by k_extra "mE lia"))).le (by simp only [T.ht_e]; k_extra "mE lia")).eqd (by funext b; cases b <;> rfl)
  | whl p q ihp ihq =>
    intro ho hz
    simp only [T.sz_e] at hz
    exact ((look_two pl3 (u := true) (by decide) ((ihp ho.1 (by k_extra "mE lia")).le (k := 9 * max p.ht q.ht + 60) (by k_extra "mE lia")) ((ihq ho.2 (by k_extra "mE lia")).le (by k_extra "mE lia"))).le (by simp only [T.ht_e]; k_extra "mE lia")).eqd (by funext b; cases b <;> rfl)
  | lt x p q ihp ihq =>
    intro ho hz
    simp only [T.sz_e] at hz
    exact ((look_two pl4 (u := false) (by decide) (look_one1 pl1 (u := false) (by decide) (look_set (y := x) ((ihp ho.1 (by k_extra "mE lia")).le (k := 9 * max p.ht q.ht + 60) (by k_extra "mE lia")) (T.rows_len' _ (by k_extra "mE lia")))) ((ihq ho.2 (by k_extra "mE lia")).le (by k_extra "mE lia"))).le (by simp only [T.ht_e]; k_extra "mE lia")).eqd (by funext b; cases b <;> rfl)
  | fr x p q ihp ihq =>
    intro ho hz
    simp only [T.sz_e] at hz
    exact ((look_bound (.inr rfl) (bound_for (y := x) ((ihp ho.1 (by k_extra "mE lia")).le (k := 9 * max p.ht q.ht + 60) (by k_extra "mE lia")) (T.rows_len' _ (by k_extra "mE lia")) ((ihq ho.2 (by k_extra "mE lia")).le (by k_extra "mE lia")) (T.rows_len' _ (by k_extra "mE lia")))).le (by simp only [T.ht_e]; k_extra "mE lia")).eqd rfl
  | cmp p x q ihp ihq =>
    intro ho hz
    have hz' := hz
    simp only [T.sz_e] at hz'
    have hi := look_bound (ky := Str.ofString "in") (.inl rfl) (bound_in (y := x) ((ihq ho.2 (by k_extra "mE lia")).le (k := 9 * max p.ht q.ht + 60) (by k_extra "mE lia")) (T.rows_len' _ (by k_extra "mE lia")))
    exact ((look_hid (hidden_cmp ((used_ok (.cmp p x q) ho (by k_extra "mE lia")).le (k := 9 * max p.ht q.ht + 66) (by simp only [T.ht_e]; k_extra "mE lia")) hi (fun b => by
      have := q.rows_len T.H1 b
      simp only [List.length_append, List.length_cons, List.length_nil]; k_extra "mE lia") ((ihp ho.1 (by k_extra "mE lia")).le (by k_extra "mE lia")) (T.rows_len' _ (by k_extra "mE lia")))).le (by simp only [T.ht_e]; k_extra "mE lia")).eqd rfl
end
example : Sep := by w_top off; first | walk1 | trivial
noncomputable def NewEvents (g : Heap) (x dx : Addr) (v : Value) (h' : Heap) : Prop :=
  v = .none ∧ ∃ h1 k1 lr, Apart3 x dx lr ∧ (∀ p ∈ eobs h1 k1 x dx lr [] 0, h'.get? p.1 = some p.2) ∧ g.get? lr = none
theorem einit_end {h1 : Int} {k1 : Tok} {x dx lr : Addr} {s s₂ : Shared} {hb : Heap} {L : Addr} {m : Str → Option Value} {news : List (Addr × Obj)} (S : Same s s₂)
    (hk : ∀ b o, s.heap.get? b = some o → (∀ p ∈ [(x, instObj 255 dx), (dx, dictOf [] 0)], b ≠ p.1) → hb.get? b = some o)
    (F : Fr hb L s₂.heap m) (N : News hb L s₂.heap news) (hne : Apart3 x dx lr) (hx : (x, instObj 255 dx) ∈ news) (hd : (dx, edict h1 k1 lr) ∈ news)
    (hl : (lr, listOf (List.toArray []) 0) ∈ news) :
    Post s (fun b => b = x ∨ b = dx) (NewEvents s.heap x dx) .none s₂ := by
  have ho : ∀ b : Addr, hb.get? b = none → @Ne Nat x b → @Ne Nat dx b → s.heap.get? b = none := fun b e n1 n2 => by
    cases q : s.heap.get? b with
    | none => rfl
    | some o =>
      have := hk b o q fun p hp => by
        simp only [List.mem_cons, List.not_mem_nil, or_false] at hp
        rcases hp with rfl | rfl
        · exact fun e => n1 e.symm
        · exact fun e => n2 e.symm
      rw [e] at this; cases this
  refine ⟨S, fun b o e hw => F.keep b o (hk b o e fun p hp q => hw (by
    simp only [List.mem_cons, List.not_mem_nil, or_false] at hp
    rcases hp with rfl | rfl
    · exact .inl q
    · exact .inr q)), rfl, h1, k1, lr, hne, fun p hp => ?_, ?_⟩
  · simp only [List.mem_cons, List.not_mem_nil, or_false] at hp
    rcases hp with rfl | rfl | rfl
    · exact (N _ hx).1
    · exact (N _ hd).1
    · exact (N _ hl).1
  · exact ho lr (N _ hl).2.2 (by unfold Apart3 at hne; k_extra "mE lia") (by unfold Apart3 at hne; k_extra "mE lia")
theorem events_init {A : Around} {s : Shared} {x dx : Addr} {g : Heap} (O : OkH w g) (hg : Le g s.heap) (r : Rm A 1) (he : ∀ p ∈ [(x, instObj 255 dx), (dx, dictOf [] 0)], s.heap.get? p.1 = some p.2) (hne : @LT.lt Nat _ dx x)
    (hoff : ∀ p ∈ [(x, instObj 255 dx), (dx, dictOf [] 0)], g.get? p.1 = none) :
    CallsK w A s 219 [.ref x] (fun b => b = x ∨ b = dx) (NewEvents s.heap x dx) := by
  refine' enterK [((Str.ofString "self"), .ref x)] (O.keeps hg) r ?k6 ?k7 ?k9 ?kB ?_ ?c1 ?c2 ?c3 ?c4 ?c5; k_extra "eN"
  refine turnable_k _ F hg hL' he hoff ?_; intro hb F N hgh hk
  have O' := O.keeps hgh
  have X := OkH.X O'; have T := OkH.top O'
  k_steps
  rename_i la h1 l1 h2 F6 N6
  exact einit_end (x := x) (dx := dx) (lr := la) S hk F6 N6 (by unfold Apart3; (try simp only [ALt.e1, ALt.e2, and_true] at *); k_extra "mE lia") (by k_mem) (by k_mem) (by k_mem)
section
variable {A : Around} {s : Shared} {Q E : Value → Shared → Prop} {h₀ : Heap} {L : Addr} {m : Str → Option Value} {news : List (Addr × Obj)}
theorem events_u (F : Fr h₀ L s.heap m) (N : News h₀ L s.heap news) (O : OkH w h₀) (r : Rm A 2)
    (k : ∀ h1 k1 x dx lr h' tk, Apart3 x dx lr → (∀ p ∈ news, @LT.lt Nat _ p.1 dx) → Fr h₀ L h' m → News h₀ L h' (eobs h1 k1 x dx lr [] 0 ++ news) → Q (.ref x) { s with heap := h', toks := tk }) :
    wpAny (model PR w) A (call (.ref 255) []) Q E s := by
  refine call_cls F O.X N (by k_is) (by k_is) (by k_is) fun x dx h' F' N' l1 l2 => ?_
  have hd2 := N' _ (.tail _ (.head _))
  have hx2 := N' _ (.head _)
  have := events_init (A := A.under (.builtin "type.__call__" ⟨[.ref 255], []⟩)) (s := { s with heap := h' }) (x := x) (dx := dx) (O := O) F'.keep (r.made 255 []) (fun p hp => by
    simp only [List.mem_cons, List.not_mem_nil, or_false] at hp
    rcases hp with rfl | rfl
    · exact hx2.1
    · exact hd2.1) l2 (fun p hp => by
    simp only [List.mem_cons, List.not_mem_nil, or_false] at hp
    rcases hp with rfl | rfl
    · exact hx2.2.2
    · exact hd2.2.2)
  refine codeAny_mono this fun r s₂ hr => ?_
  refine ex1_2 hr ?_; clear hr; intro v eK; subst eK; intro hr
  · refine ex0_3 hr ?_; clear hr; intro S hk hr
    refine ex0_2 hr ?_; clear hr; intro eK; subst eK; intro hr
    refine ex3_3 hr ?_; clear hr; intro h1 k1 lr ap ho o1
    refine ⟨rfl, ?_⟩
    show Q (.ref x) s₂
    rw [show s₂ = { s with heap := s₂.heap, toks := s₂.toks } from S.to]
    have hoff : ∀ b : Addr, h'.get? b = none → h₀.get? b = none ∧ b ≠ L := fun b e => by
      refine ⟨?_, fun q => ?_⟩
      · cases q : h₀.get? b with
        | none => rfl
        | some o => rw [F'.keep _ _ q] at e; cases e
      · refine ex3_2 (F'.ns) ?_; intro _ _ _ hL _; rw [q, hL] at e; cases e
    have hF : Fr h₀ L s₂.heap m := by
      refine ex3_2 (F'.ns) ?_; intro oL es ep hL rL
      exact ⟨⟨oL, es, ep, hk _ _ hL fun q => q.elim (fun q => hx2.2.1 q.symm) fun q => hd2.2.1 q.symm, rL⟩, fun b o e => hk b o (F'.keep b o e) fun q => q.elim (fun q => by
        have := hx2.2.2; rw [← show b = x from q, e] at this; cases this) (fun q => by
        have := hd2.2.2; rw [← show b = dx from q, e] at this; cases this), F'.above⟩
    refine k h1 k1 x dx lr s₂.heap s₂.toks ap l1 hF fun p hp => ?_
    rcases List.mem_append.mp hp with hp | hp
    · refine ⟨ho p hp, ?_⟩
      simp only [List.mem_cons, List.not_mem_nil, or_false] at hp
      rcases hp with rfl | rfl | rfl
      · exact hx2.2
      · exact hd2.2
      · exact (hoff _ o1).symm
    · have P := N' p (.tail _ (.tail _ hp))
      refine ⟨hk _ _ P.1 fun q => ?_, P.2⟩
      have l := l1 p hp
      rcases q with q | q
      · have : @Eq Nat p.1 x := q; have : @LT.lt Nat _ dx x := l2; have : @LT.lt Nat _ p.1 dx := l; k_extra "mE lia"
      · have : @Eq Nat p.1 dx := q; have : @LT.lt Nat _ p.1 dx := l; k_extra "mE lia"
end
example : Sep := by w_top off; first | walk1 | trivial
section
variable {prog : Program} {A : Around} {E : Value → Shared → Prop} {s : Shared} {env : Env} {h₀ : Heap} {target : Expr} {body : List Stmt} {Q : Flow → Shared → Prop}
noncomputable def ForG (prog : Program) (w : World) (A : Around) (h₀ : Heap) (env : Env) (target : Expr) (body : List Stmt) (Q : Flow → Shared → Prop) (E : Value → Shared → Prop) (xv : Value) (s₁ : Shared) : Prop :=
  wpAny (model prog w) A (pyIter xv) (fun it s₂ => TurnsAt prog w A h₀ env target body Q E it s₂) E s₁
theorem ForG_stop {prog : Program} {E : Value → Shared → Prop} {target : Expr} {body : List Stmt} {pos : Pos} {iter : Expr} {A : Around} {s : Shared} {env : Env} {h₀ : Heap} {Q : Flow → Shared → Prop} {m : Str → Option Value} (F : Fr h₀ env.locals s.heap m)
    (h : wpAny (model prog w) A (eval iter env) (fun xv s₁ => ForG prog w A h₀ env target body Q (fun _ _ => False) xv s₁) (fun _ _ => False) s)
    (hs : ∀ x, foldedSetIterable iter env x = pure x) :
    wpAny (model prog w) A (exec (.For target iter body [] pos) env) Q E s :=
  wpAny_mono (For_turns (E := fun _ _ => False) F h hs PassesOwn.never) (fun _ _ x => x) fun _ _ x => x.elim
theorem iterGW {prog : Program} {target : Expr} {body : List Stmt} {A : Around} {env : Env} {h₀ : Heap} {l I : Addr} {n : Nat} {P : Nat → Value → Prop} {St : Nat → Heap → Prop} {m₀ : Str → Option Value} {news : List (Addr × Obj)} {ol : Obj} {s₂ : Shared} (J : Nat → (Str → Option Value) → List (Addr × Obj) → Prop)
    (W : Walks prog w A I [I, l] [I] n P St) (hgo : ∀ i v (s : Shared) (Q : Unit → Shared → Prop) (E : Value → Shared → Prop), St i s.heap → Q () s → wpAny (model prog w) A (letOwnedTupleGo target (.ref I) v) Q E s)
    (hS2 : ∃ h₂, s₂ = { s with heap := h₂ } ∧ Le s.heap h₂) (hI : s.heap.get? I = none) (hSt : ∀ i h, St i h → ∃ o, h.get? I = some o) (st0 : St 0 s₂.heap) (hlL : l ≠ env.locals)
    (hol : s.heap.get? l = some ol)
    (hlin : ∀ i m nx, J i m nx → h₀.get? l = some ol ∨ (l, ol) ∈ nx)
    (F : Fr h₀ env.locals s.heap m₀) (N : News h₀ env.locals s.heap news) (hj : J 0 m₀ news)
    (turn : ∀ i v m₁ nx h tk o, i < n → P i v → (∀ p ∈ nx, p.1 ≠ I) → J i m₁ nx → Fr h₀ env.locals h m₁ → News h₀ env.locals h ((I, o) :: nx) →
      wpAny (model prog w) A (assign target env v) (fun _ s₃ => wpAny (model prog w) A (execs body env) (TurnPost h₀ env.locals (J (i + 1)) (I, o) { s with heap := h, toks := tk } Q) E s₃) E { s with heap := h, toks := tk })
    (done : ∀ m₁ nx h tk, J n m₁ nx → Fr h₀ env.locals h m₁ → News h₀ env.locals h nx → Q .next { s with heap := h, toks := tk }) :
    TurnsAt prog w A h₀ env target body Q E (.ref I) s₂ := by
  refine ex1_2 hS2 ?_; clear hS2; intro h₂ eK; subst eK; intro hpush
  have hne0 : ∀ b o, s.heap.get? b = some o → b ≠ I := fun b o e q => by rw [q, hI] at e; cases e
  have h0I : h₀.get? I = none := by
    cases q : h₀.get? I with
    | none => rfl
    | some o => exact absurd rfl (hne0 _ _ (F.keep _ _ q))
  obtain ⟨oL, a1, a2, hL, a3⟩ := id F.ns
  refine exI10 I [I, l] [I] n _ _ St m₀ news J ⟨rfl, KTurns.ofWalks W hgo, ?_, ?_, ?_, st0, Fr.le F hpush, News.le N hpush, hj, ?_, ?_⟩
  · intro hm
    rcases List.mem_cons.mp hm with e | hm
    · exact hne0 _ _ hL e
    · exact hlL (List.mem_singleton.mp hm).symm
  · intro b hb; rw [List.mem_singleton.mp hb]; exact h0I
  · intro p hp hq; exact hne0 _ _ (N p hp).1 (List.mem_singleton.mp hq)
  · intro i v m₁ nx hh' tk' own hin hP hJ hoff hown hownget hmem hst F₁ N₁
    refine ex1_1 (hSt _ _ hst) ?_; intro oI hoI
    have hIn := hmem I (.head _) h0I oI hoI
    have hoffI : ∀ p ∈ nx, p.1 ≠ I := fun p hp e => hoff p hp (List.mem_singleton.mpr e)
    have N₂ : News h₀ env.locals hh' ((I, oI) :: nx) := fun p hp => by
      rcases List.mem_cons.mp hp with rfl | hp
      · exact N₁ _ (List.mem_append_left _ hIn)
      · exact N₁ _ (List.mem_append_right _ hp)
    have fin : ∀ s₃, TurnEnd h₀ env.locals (J (i + 1)) (I, oI) { s with heap := hh', toks := tk' } s₃ → LoopStepU h₀ env.locals [I] own (J (i + 1)) { s with heap := hh', toks := tk' } .next s₃ := by
      intro s₃ gR46; refine ex5_7 gR46 ?_; clear gR46; intro h' tk m' news' nx' e F' N' hit hsub hne hJ'
      refine ⟨rfl, h', tk, m', nx', e, F', fun p hp => ?_, fun p hp hq => hne p hp (List.mem_singleton.mp hq), hJ'⟩
      rcases List.mem_append.mp hp with hp | hp
      · have h1 := hown p hp
        rcases List.mem_cons.mp h1 with h1 | h1
        · have : p = (I, oI) := by
            have h2 := hownget p hp
            have h3 : hh'.get? I = some p.2 := h1 ▸ h2
            obtain ⟨a, b⟩ := p
            dsimp only at h1 h3
            rw [show hh'.get? I = some oI from hoI] at h3
            rw [h1, Option.some.inj h3]
          rw [this]; exact N' _ hit
        · have h1 := List.mem_singleton.mp h1
          have h2 := hownget p hp
          have hl0 : h₀.get? l = none := by have := (N₁ p (List.mem_append_left _ hp)).2.2; rwa [h1] at this
          rcases hlin _ _ _ hJ with e0 | e0
          · rw [hl0] at e0; cases e0
          · have h4 := (N₁ _ (List.mem_append_right _ e0)).1
            have h5 : p = (l, ol) := by
              obtain ⟨a, b⟩ := p
              dsimp only at h1 h2
              subst h1
              have : hh'.get? a = some ol := h4
              rw [h2] at this; cases this; rfl
            rcases hlin _ _ _ hJ' with e1 | e1
            · rw [hl0] at e1; cases e1
            · rw [h5]; exact N' _ (hsub _ e1)
      · exact N' _ (hsub p hp)
    refine wpAny_mono (turn i v m₁ nx hh' tk' oI hin hP hoffI hJ F₁ N₂) (fun _ s₃ h₃ => wpAny_mono h₃ (fun f s₃ p => ?_) fun _ _ e => e) fun _ _ e => e
    cases f with
    | ret v => exact .ret p
    | brk => exact .brk p
    | next => exact .next (fin _ p)
    | cont => exact .cont (fin _ p)
  · rintro h' tk m' news' F' N' _ hJ
    exact done m' news' h' tk hJ F' N'
theorem letgo_any {prog : Program} {E : Value → Shared → Prop} {px : Pos} {x : Str} {A : Around} {s : Shared} {I : Addr} {v : Value} {Q : Unit → Shared → Prop} (h : Q () s) : wpAny (model prog w) A (letOwnedTupleGo (.Name x px) (.ref I) v) Q E s := wpAny_of_eq (a := ()) rfl h
theorem letgo_tup {prog : Program} {E : Value → Shared → Prop} {elts : List Expr} {x1} {pos : Pos} {A : Around} {s : Shared} {I l : Addr} {i : Nat} {v : Value} {Q : Unit → Shared → Prop} (hit : s.heap.IsListIter I l i) (h : Q () s) : wpAny (model prog w) A (letOwnedTupleGo (.Tuple elts x1 pos) (.ref I) v) Q E s := by
  cases v with
  | ref T => exact wpAny_letOwnedTupleGo_listiter hit h
  | _ => exact wpAny_of_eq (a := ()) rfl h
theorem iterG {prog : Program} {E : Value → Shared → Prop} {target : Expr} {body : List Stmt} {A : Around} {s : Shared} {env : Env} {h₀ : Heap} {Q : Flow → Shared → Prop} {L : Addr} (st : List Str) {l : Addr} {vs : Array Value} {m₀ : Str → Option Value} {news : List (Addr × Obj)} {n₀ : Nat} (J : Nat → List (Addr × Obj) → Prop) (hEL : env.locals = L)
    (hh : A.handled = none) (ht : (∃ x px, target = .Name x px) ∨ ∃ e k p, target = .Tuple e k p) (hlL : l ≠ L) (hol : s.heap.get? l = some (listOf vs n₀))
    (hlin : ∀ i nx, J i nx → h₀.get? l = some (listOf vs n₀) ∨ (l, listOf vs n₀) ∈ nx)
    (F : Fr h₀ L s.heap m₀) (N : News h₀ L s.heap news) (hj : J 0 news)
    (turn : ∀ i v q nx h tk I o, vs[i]? = some v → I = s.heap.objs.size → (∀ p ∈ nx, p.1 ≠ I) → J i nx → Fr h₀ L h (over st q m₀) → News h₀ L h ((I, o) :: nx) →
      wpAny (model prog w) A (assign target env v) (fun _ s₃ => wpAny (model prog w) A (execs body env) (TurnPost h₀ L (fun m nx => Agree st m₀ m ∧ J (i + 1) nx) (I, o) { s with heap := h, toks := tk } Q) E s₃) E { s with heap := h, toks := tk })
    (done : ∀ q nx h tk, J vs.size nx → Fr h₀ L h (over st q m₀) → News h₀ L h nx → Q .next { s with heap := h, toks := tk }) :
    ForG prog w A h₀ env target body Q E (.ref l) s := by
  subst hEL
  have hls : s.heap.IsList l vs := ⟨_, hol, rfl, n₀, rfl⟩
  have hne : l ≠ s.heap.objs.size := Nat.ne_of_lt (Heap.lt_size hol)
  refine wpAny_pyIter_list hls ?_
  refine iterGW (fun i m nx => Agree st m₀ m ∧ J i nx) (Walks.list (prog := prog) hh s.heap.objs.size l hne vs) (fun i v s' Q' E' hst hq => ?_) ⟨_, rfl, fun b o e => Heap.get?_push_of_some _ e⟩ (Heap.get?_none_of_le (Nat.le_refl _)) (fun i h st => ?_)
    ⟨⟨_, Heap.get?_push_size _ rfl, rfl, rfl⟩, hls.at fun o e => Heap.get?_push_of_some _ e⟩ hlL hol (fun i m nx hJ => hlin i nx hJ.2) F N ⟨Agree.refl _ _, hj⟩
    (fun i v m₁ nx h tk o hi hv hn hJ F₁ N₁ => turn i v m₁ nx h tk _ o hv rfl hn hJ.2 (by rw [hJ.1.eq] at F₁; exact F₁) N₁) fun m₁ nx h tk hJ F₁ N₁ => done m₁ nx h tk hJ.2 (by rw [hJ.1.eq] at F₁; exact F₁) N₁
  · rcases ht with ⟨x, px, rfl⟩ | ⟨e, k, p, rfl⟩
    · exact letgo_any hq
    · exact letgo_tup hst.1 hq
  · refine ex0_2 st ?_; clear st; intro gN47 _; refine ex1_2 gN47 ?_; clear gN47; intro o ho _; exact ⟨o, ho⟩
end
section
variable {A : Around} {s : Shared} {x dx lr : Addr} {h1 : Int} {k1 : Tok} {v : Value} {n k : Nat} {b : Bool} {Q E : Value → Shared → Prop} {h₀ : Heap} {L : Addr} {m : Str → Option Value} {news rs : List (Addr × Obj)} {g : Obj → List (Addr × Obj) → List (Addr × Obj)} {t : Tr} {d : Bool → List Row}
theorem look_u (hLk : LookOk w t d k) (F : Fr h₀ L s.heap m) (N : News h₀ L s.heap news) (O : OkH w h₀) (r : Rm A k) (ht : TreeAt h₀ t v) (hx : (x, instObj 255 dx) ∈ news) (hd : (dx, edict h1 k1 lr) ∈ news) (U : UpdT lr (listOf (List.toArray []) n) rs news g)
    (hrs : ∀ p ∈ rs, p.1 ≠ lr) (hap : Apart3 x dx lr) (hz : (d b).length ≤ 2 ^ 20)
    (kk : ∀ n' rs' vs' h' tk K, (∀ p ∈ news, ¬ K p.1) → RowsAt K (g (listOf vs'.toArray n') rs') (d b) vs' → (∀ p ∈ rs', p.1 ≠ lr) → Fr h₀ L h' m → News h₀ L h' (g (listOf vs'.toArray n') rs') → (∀ p ∈ news, p.1 ≠ lr → p ∈ g (listOf vs'.toArray n') rs') → Q .none { s with heap := h', toks := tk }) :
    wpAny (model PR w) A (call (.ref 231) [.ref x, v, .bool b]) Q E s := by
  have hu := N _ U.mem
  refine ev_u (pre := []) (vo := []) (old := []) (K := fun a => s.heap.get? a = none) (hLk h₀ x dx lr h1 k1 v b O ht hap fun p hp => ?_) F N r hx hd U hrs .nil (fun a ha e => by rw [e, hu.1] at ha; cases ha) (fun a ha => ha) hap (by simpa using hz)
    (fun n' rs' vs' h' tk R q F' N' old => kk n' rs' vs' h' tk _ (fun p hp hk => by have h1 := (N p hp).1; rw [show s.heap.get? p.1 = none from hk] at h1; cases h1) R q F' N' old)
  simp only [List.mem_cons, List.not_mem_nil, or_false] at hp
  rcases hp with rfl | rfl | rfl
  · exact (N _ hx).2.2
  · exact (N _ hd).2.2
  · exact hu.2.2
end
example : True := by
 k_with "mcall ref" => ((with_reducible refine (?_ : wpAny _ _ (call (.ref 255) _) _ _ _)); (refine' events_u ?jf ?jn ?jo ?jr  ?_; k_extra "mP4"); intro _ _ _ _ _ _ _ ap' l1' F' N'; (simp only [eobs, List.cons_append, List.nil_append] at N'); (try simp only [List.forall_mem_cons, List.not_mem_nil, false_implies, implies_true, and_true] at l1'); (have apu' := ap'); (unfold Apart3 at apu'); revert ap' l1' F' N' apu'; intro _ _ _ _ _; k_extra "msw")
 exact trivial
example : Sep := by w_top off; first | walk1 | trivial
theorem RowsAt.get {K : Addr → Prop} {news : List (Addr × Obj)} {rows : List Row} {vs : List Value} (R : RowsAt K news rows vs) : ∀ (i : Nat) (v : Value), vs[i]? = some v →
    (∃ y b a t1 t2, rows[i]? = some (.as y b) ∧ v = .ref a ∧ (a, tupObj [.str (Str.ofString "assigned") t1, .str y t2, .bool b]) ∈ news) ∨
    (∃ ys a t1 l us n, rows[i]? = some (.held ys) ∧ v = .ref a ∧ (a, tupObj [.str (Str.ofString "held") t1, .ref l, .bool true]) ∈ news ∧ (l, listOf us.toArray n) ∈ news ∧ StrsAre us ys) := by
  induction R with
  | nil => intro i v hv; simp at hv
  | as h1 h2 _ ih =>
    intro i v hv
    cases i with
    | zero => simp only [List.getElem?_cons_zero, Option.some.injEq] at hv; subst hv; exact .inl ⟨_, _, _, _, _, rfl, rfl, h1⟩
    | succ i => simpa using ih i v (by simpa using hv)
  | held h1 h2 h3 h4 h5 _ ih =>
    intro i v hv
    cases i with
    | zero => simp only [List.getElem?_cons_zero, Option.some.injEq] at hv; subst hv; exact .inr ⟨_, _, _, _, _, _, rfl, rfl, h1, h3, h5⟩
    | succ i => simpa using ih i v (by simpa using hv)
inductive HeldIn (news : List (Addr × Obj)) : List Value → List (List Str) → Prop
  | nil : HeldIn news [] []
  | cons {b : Addr} {vb : List Value} {n : Nat} {xs : List Str} {r : List Value} {rs : List (List Str)} : (b, listOf vb.toArray n) ∈ news → StrsAre vb xs → HeldIn news r rs → HeldIn news (.ref b :: r) (xs :: rs)
theorem HeldIn.mono {news news' : List (Addr × Obj)} {vs : List Value} {xss : List (List Str)} (x : HeldIn news vs xss) (k : ∀ p ∈ news, p ∈ news') : HeldIn news' vs xss := by
  induction x with
  | nil => exact .nil
  | cons e hs _ ih => exact .cons (k _ e) hs ih
theorem HeldIn.snoc {news : List (Addr × Obj)} {vs : List Value} {xss : List (List Str)} {b : Addr} {vb : List Value} {n : Nat} {xs : List Str} (x : HeldIn news vs xss) (e : (b, listOf vb.toArray n) ∈ news) (hs : StrsAre vb xs) : HeldIn news (vs ++ [.ref b]) (xss ++ [xs]) := by
  induction x with
  | nil => exact .cons e hs .nil
  | cons e' hs' _ ih => exact .cons e' hs' ih
theorem HeldIn.lists {h₀ h : Heap} {L : Addr} {news : List (Addr × Obj)} {vs : List Value} {xss : List (List Str)} (N : News h₀ L h news) (x : HeldIn news vs xss) : ListsAt h vs xss := by
  induction x with
  | nil => exact .nil
  | cons e hs _ ih => exact .cons (N _ e).1 hs ih
theorem HeldIn.length {news : List (Addr × Obj)} {vs : List Value} {xss : List (List Str)} (x : HeldIn news vs xss) : vs.length = xss.length := by
  induction x with
  | nil => rfl
  | cons _ _ _ ih => simp [ih]
inductive DoneIn (news : List (Addr × Obj)) : List Value → List (Str × Bool × Nat) → Prop
  | nil : DoneIn news [] []
  | cons {a : Addr} {t1 t2 : Tok} {y : Str} {b : Bool} {n : Nat} {r : List Value} {rs : List (Str × Bool × Nat)} : (a, tupObj [.str y t1, .bool b, .int (n : Int) t2]) ∈ news → DoneIn news r rs → DoneIn news (.ref a :: r) ((y, b, n) :: rs)
theorem DoneIn.mono {news news' : List (Addr × Obj)} {vs : List Value} {rs : List (Str × Bool × Nat)} (x : DoneIn news vs rs) (k : ∀ p ∈ news, p ∈ news') : DoneIn news' vs rs := by
  induction x with
  | nil => exact .nil
  | cons e _ ih => exact .cons (k _ e) ih
theorem DoneIn.snoc {y : Str} {news : List (Addr × Obj)} {vs : List Value} {rs : List (Str × Bool × Nat)} {a : Addr} {t1 t2 : Tok} {b : Bool} {n : Nat} (x : DoneIn news vs rs) (e : (a, tupObj [.str y t1, .bool b, .int (n : Int) t2]) ∈ news) : DoneIn news (vs ++ [.ref a]) (rs ++ [(y, b, n)]) := by
  induction x with
  | nil => exact .cons e .nil
  | cons e' _ ih => exact .cons e' ih
theorem DoneIn.length {news : List (Addr × Obj)} {vs : List Value} {rs : List (Str × Bool × Nat)} (x : DoneIn news vs rs) : vs.length = rs.length := by
  induction x with
  | nil => rfl
  | cons _ _ ih => simp [ih]
theorem DoneIn.get {news : List (Addr × Obj)} {vs : List Value} {rs : List (Str × Bool × Nat)} (x : DoneIn news vs rs) : ∀ (i : Nat) (v : Value), vs[i]? = some v → ∃ (a : Addr) (t1 t2 : Tok) (y : Str) (b : Bool) (n : Nat), v = .ref a ∧ (a, tupObj [.str y t1, .bool b, .int (n : Int) t2]) ∈ news ∧ rs[i]? = some (y, b, n) := by
  induction x with
  | nil => intro i v hv; simp at hv
  | cons e _ ih =>
    intro i v hv
    cases i with
    | zero => simp only [List.getElem?_cons_zero, Option.some.injEq] at hv; subst hv; exact ⟨_, _, _, _, _, _, rfl, e, rfl⟩
    | succ i => simpa using ih i v (by simpa using hv)
theorem held_next {rows : List Row} {i : Nat} {r : Row} (h : rows[i]? = some r) : heldOf (rows.take (i + 1)) = heldOf (rows.take i) ++ heldOf [r] := by
  rw [List.take_add_one, h, held_append]; rfl
theorem done_next {rows : List Row} {i : Nat} {r : Row} (h : rows[i]? = some r) : doneOf (rows.take (i + 1)) 0 = doneOf (rows.take i) 0 ++ doneOf [r] (heldOf (rows.take i)).length := by
  rw [List.take_add_one, h, done_append, Nat.zero_add]; rfl
theorem held_len (rows : List Row) : (heldOf rows).length ≤ rows.length := by
  induction rows with
  | nil => exact Nat.le_refl _
  | cons r rs ih => cases r <;> simp only [heldOf_n, heldOf_h, heldOf_a, List.length_cons] <;> k_extra "mE lia"
theorem done_len (rows : List Row) : ∀ n, (doneOf rows n).length ≤ rows.length := by
  induction rows with
  | nil => intro n; exact Nat.le_refl _
  | cons r rs ih => intro n; cases r <;> simp only [doneOf_n, doneOf_h, doneOf_a, List.length_cons] <;> have := ih n <;> have := ih (n + 1) <;> k_extra "mE lia"
noncomputable def gd (a b c : Addr) (l : List (Addr × Obj)) : List (Addr × Obj) := l.filter fun p => decide (p.1 ≠ a) && decide (p.1 ≠ b) && decide (p.1 ≠ c)
theorem mem_gd {a b c : Addr} {l : List (Addr × Obj)} {p : Addr × Obj} : p ∈ gd a b c l ↔ p ∈ l ∧ p.1 ≠ a ∧ p.1 ≠ b ∧ p.1 ≠ c := by
  unfold gd; rw [List.mem_filter]; simp only [Bool.and_eq_true, decide_eq_true_eq, and_assoc]
theorem gd_sub {a b c : Addr} {l : List (Addr × Obj)} : ∀ p ∈ gd a b c l, p ∈ l := fun _ h => (mem_gd.mp h).1
theorem gd_mono {a b c : Addr} {l l' : List (Addr × Obj)} (k : ∀ p ∈ l, p ∈ l') : ∀ p ∈ gd a b c l, p ∈ gd a b c l' := fun p h => mem_gd.mpr ⟨k p (mem_gd.mp h).1, (mem_gd.mp h).2⟩
noncomputable def CapInv (hl dl fl lr c1 c2 : Addr) (oc1 oc2 : Obj) (vs : List Value) (n : Nat) (K : Addr → Prop) (rows : List Row) (i : Nat) (nx : List (Addr × Obj)) : Prop :=
  ∃ vh nh vd nd rest, nx = (hl, listOf vh.toArray nh) :: (dl, listOf vd.toArray nd) :: rest ∧ (∀ p ∈ rest, p.1 ≠ hl) ∧ (∀ p ∈ rest, p.1 ≠ dl) ∧ (fl, listOf (List.toArray []) 0) ∈ rest ∧ (lr, listOf vs.toArray n) ∈ rest ∧ (c1, oc1) ∈ rest ∧ (c2, oc2) ∈ rest ∧
    RowsAt K (gd fl c1 c2 rest) rows vs ∧ HeldIn (gd fl c1 c2 rest) vh (heldOf (rows.take i)) ∧ DoneIn (gd fl c1 c2 rest) vd (doneOf (rows.take i) 0)
theorem HeldIn.tail2 {p q : Addr × Obj} {rest : List (Addr × Obj)} {vs : List Value} {xss : List (List Str)} (x : HeldIn rest vs xss) : HeldIn (p :: q :: rest) vs xss := x.mono fun _ h => .tail _ (.tail _ h)
theorem len_L {E : Value → Shared → Prop} {A : Around} {s : Shared} {h₀ : Heap} {L l : Addr} {news : List (Addr × Obj)} {vs : List Value} {n k : Nat} {Q : Value → Shared → Prop} (N : News h₀ L s.heap news) (hm : (l, listOf vs.toArray n) ∈ news) (hk : vs.length = k) (hz : k ≤ 2 ^ 24)
    (h : Q (.int (k : Int) (s.toks + 1)) { s with toks := s.toks + 1 + 1 }) : wpAny (model PR w) A (call (.builtin "len") [.ref l]) Q E s := by
  subst hk
  refine call_len_list (items := List.toArray vs) ⟨_, (N _ hm).1, rfl, n, rfl⟩ (by rw [List.size_toArray]; k_extra "mE lia") ?_
  rw [List.size_toArray]; exact h
noncomputable def isTrueV : Value → Bool
  | .bool b => b
  | _ => false
theorem isTrueV_b (b : Bool) : isTrueV (.bool b) = b := rfl
theorem index_bools {E : Value → Shared → Prop} {A : Around} {s : Shared} {h₀ : Heap} {L l : Addr} {news : List (Addr × Obj)} {bs : List Bool} {n j : Nat} {Q : Value → Shared → Prop} (N : News h₀ L s.heap news) (hm : (l, listOf (List.toArray (bs.map Value.bool)) n) ∈ news) (hj : bs.findIdx id = j) (hlt : j < bs.length) (hz : bs.length ≤ 2 ^ 20)
    (h : Q (.int (j : Int) s.toks) { s with toks := s.toks + 1 }) : wpAny (model PR w) A (call (.builtin "list.index") [.ref l, .bool true]) Q E s := by
  subst hj
  refine call_meets PySem.F.slot_list_index ⟨_, (N _ hm).1, rfl⟩ PySem.F.entry_list_index (PySem.F.args_list_index_2 _ _)
    (PySem.SeqAt.list_indexAt l (List.toArray (bs.map Value.bool)) n none #[] (.bool true) isTrueV (bs.findIdx id) (by simpa using hlt) (by k_extra "mE lia") ?_ ?_) ⟨(N _ hm).1, fun y hy => ?_, h⟩
  · have h1 : id bs[bs.findIdx id] = true := List.findIdx_getElem (w := hlt)
    simp only [List.getElem_toArray, List.getElem_map, isTrueV_b]
    exact h1
  · intro m hm hlt'
    have hm' : m < bs.length := by simpa using hm
    have h1 := List.not_of_lt_findIdx (p := id) hlt'
    simp only [List.getElem_toArray, List.getElem_map, isTrueV_b]
    simpa using h1
  · refine ex1_2 (List.mem_map.mp (List.mem_toArray.mp hy)) ?_; intro b _ eK; subst eK
    have h1 : PySem.SeqAt.EqAt A.in1 s (.bool b) (.bool true) (b == true) := PySem.SeqAt.EqAt.bool_bool _ _
    simpa [isTrueV_b] using h1
theorem filter_next {α : Type} {l : List α} {p : α → Bool} {i : Nat} {x : α} (h : l[i]? = some x) : (l.take (i + 1)).filter p = (l.take i).filter p ++ (if p x = true then [x] else []) := by
  rw [List.take_add_one, h, List.filter_append]
  cases q : p x <;> simp [q]
theorem map_next {α β : Type} {l : List α} {f : α → β} {i : Nat} {x : α} (h : l[i]? = some x) : (l.take (i + 1)).map f = (l.take i).map f ++ [f x] := by
  rw [List.take_add_one, h]; simp
theorem HeldIn.get {news : List (Addr × Obj)} {vs : List Value} {xss : List (List Str)} (x : HeldIn news vs xss) : ∀ (i : Nat) (v : Value), vs[i]? = some v → ∃ b vb n xs, v = .ref b ∧ (b, listOf vb.toArray n) ∈ news ∧ StrsAre vb xs ∧ xss[i]? = some xs := by
  induction x with
  | nil => intro i v hv; simp at hv
  | cons e hs _ ih =>
    intro i v hv
    cases i with
    | zero => simp only [List.getElem?_cons_zero, Option.some.injEq] at hv; subst hv; exact ⟨_, _, _, _, rfl, e, hs, rfl⟩
    | succ i => simpa using ih i v (by simpa using hv)
theorem first_idx (rows : List Row) (y : Str) : ((heldOf rows).map fun ys => ys.any (· == y)).findIdx id = firstOf rows y := by
  unfold firstOf; rw [List.findIdx_map]; rfl
theorem first_lt {y : Str} {rows : List Row} (h : y ∈ joinAll (heldOf rows)) : firstOf rows y < ((heldOf rows).map fun ys => ys.any (· == y)).length := by
  refine ex1_2 (mem_joinAll.mp h) ?_; intro ys h1 h2
  unfold firstOf
  rw [List.length_map]
  exact List.findIdx_lt_length_of_exists ⟨ys, h1, any_mem.mpr h2⟩
example : Sep := by w_top off; first | walk1 | trivial
theorem allLt_ne {d : Nat} : ∀ {l : List (Addr × Obj)}, AllLt d l → ∀ p ∈ l, p.1 ≠ d
  | [], _ => fun _ h => nomatch h
  | p :: r, h => fun q hq => by
    rcases List.mem_cons.mp hq with rfl | hq
    · exact Nat.ne_of_lt h.1
    · exact allLt_ne h.2 q hq
theorem allLt_mem {d : Nat} {l : List (Addr × Obj)} (h : AllLt d l) : ∀ p ∈ l, @LT.lt Nat _ p.1 d := by
  induction l with
  | nil => exact fun _ h => nomatch h
  | cons q r ih =>
    intro p hp
    rcases List.mem_cons.mp hp with rfl | hp
    · exact h.1
    · exact ih h.2 p hp
noncomputable def Cap2 (fl c1 c2 : Addr) (rest : List (Addr × Obj)) (rows : List Row) (i : Nat) (nx : List (Addr × Obj)) : Prop :=
  ∃ vf nf o1 o2 v1 v2, nx = (fl, listOf vf.toArray nf) :: (c1, o1) :: (c2, o2) :: rest ∧ o1.data = .cell v1 ∧ o2.data = .cell v2 ∧ StrsAre vf (((joinAll (heldOf rows)).take i).filter (captOk rows))
theorem cap2_end {st : List Str} {fl c1 c2 I : Addr} {o1 o2 o : Obj} {v1 v2 : Option Value} {vf : List Value} {nf i tk : Nat} {rows : List Row} {h₀ h' : Heap} {L : Addr} {m₀ m' : Str → Option Value} {s₁ : Shared} {news rest : List (Addr × Obj)} (F : Fr h₀ L h' m') (N : News h₀ L h' news)
    (hI : (I, o) ∈ news) (hf : (fl, listOf vf.toArray nf) ∈ news) (h1 : (c1, o1) ∈ news) (h2 : (c2, o2) ∈ news) (hr : ∀ p ∈ rest, p ∈ news) (hfI : @Ne Nat fl I) (h1I : @Ne Nat c1 I) (h2I : @Ne Nat c2 I) (hrI : ∀ p ∈ rest, p.1 ≠ I)
    (ag : Agree st m₀ m') (d1 : o1.data = .cell v1) (d2 : o2.data = .cell v2) (hs : StrsAre vf (((joinAll (heldOf rows)).take (i + 1)).filter (captOk rows))) :
    TurnEnd h₀ L (fun m nx => Agree st m₀ m ∧ Cap2 fl c1 c2 rest rows (i + 1) nx) (I, o) s₁ { s₁ with heap := h', toks := tk } :=
  turn_end ((fl, listOf vf.toArray nf) :: (c1, o1) :: (c2, o2) :: rest) F N hI (allCons hf (allCons h1 (allCons h2 hr))) (neCons hfI (neCons h1I (neCons h2I hrI))) ⟨ag, vf, nf, o1, o2, v1, v2, rfl, d1, d2, hs⟩
theorem Same.ex {s s' : Shared} (x : Same s s') : ∃ h tk, s' = { s with heap := h, toks := tk } := ⟨_, _, x.to⟩
theorem any_next {α : Type} {l : List α} {p : α → Bool} {i : Nat} {x : α} (h : l[i]? = some x) : (l.take (i + 1)).any p = ((l.take i).any p || p x) := by
  rw [List.take_add_one, h, List.any_append]; simp
theorem cap_end {st : List Str} {hl dl fl lr c1 c2 I : Addr} {oc1 oc2 o : Obj} {vs vh vd : List Value} {n nh nd i tk : Nat} {K : Addr → Prop} {rows : List Row} {h₀ h' : Heap} {L : Addr} {m₀ m' : Str → Option Value} {s₁ : Shared} {news rest rest' : List (Addr × Obj)} (F : Fr h₀ L h' m') (N : News h₀ L h' news)
    (hI : (I, o) ∈ news) (hh : (hl, listOf vh.toArray nh) ∈ news) (hd : (dl, listOf vd.toArray nd) ∈ news) (hhI : @Ne Nat hl I) (hdI : @Ne Nat dl I) (hsub : ∀ p ∈ rest', p ∈ news) (k : ∀ p ∈ rest, p ∈ rest')
    (b1 : ∀ p ∈ rest', p.1 ≠ hl) (b2 : ∀ p ∈ rest', p.1 ≠ dl) (b3 : ∀ p ∈ rest', p.1 ≠ I) (a3 : (fl, listOf (List.toArray []) 0) ∈ rest) (a4 : (lr, listOf vs.toArray n) ∈ rest) (a5 : (c1, oc1) ∈ rest) (a6 : (c2, oc2) ∈ rest) (R : RowsAt K (gd fl c1 c2 rest) rows vs)
    (ag : Agree st m₀ m') (hH : HeldIn (gd fl c1 c2 rest') vh (heldOf (rows.take (i + 1)))) (hD : DoneIn (gd fl c1 c2 rest') vd (doneOf (rows.take (i + 1)) 0)) :
    TurnEnd h₀ L (fun m nx => Agree st m₀ m ∧ CapInv hl dl fl lr c1 c2 oc1 oc2 vs n K rows (i + 1) nx) (I, o) s₁ { s₁ with heap := h', toks := tk } := by
  refine turn_end ((hl, listOf vh.toArray nh) :: (dl, listOf vd.toArray nd) :: rest') F N hI (fun p hp => ?_) (fun p hp => ?_) ⟨ag, vh, nh, vd, nd, rest', rfl, b1, b2, k _ a3, k _ a4, k _ a5, k _ a6, R.mono fun p hp hk => ⟨gd_mono k p hp, hk⟩, hH, hD⟩
  · rcases List.mem_cons.mp hp with rfl | hp
    · exact hh
    · rcases List.mem_cons.mp hp with rfl | hp
      · exact hd
      · exact hsub p hp
  · rcases List.mem_cons.mp hp with rfl | hp
    · exact hhI
    · rcases List.mem_cons.mp hp with rfl | hp
      · exact hdI
      · exact b3 p hp
section
local macro_rules | `(tactic| k_mem) => `(tactic| k_extra "u3aa1d3")
example : True := by
 k_with "u3aa1d3" => with_reducible_and_instances assumption
 k_with "mcall ref" => ((with_reducible refine (?_ : wpAny _ _ (call (.ref 231) _) _ _ _)); k_dflt (refine' look_u ?jc ?jf ?jn ?jo ?jr ?jt ?jx ?jd ?ju ?jq ?jap ?jz ?_; (case jc => k_extra "a"); k_extra "mP3"; (case jr => exact Rm.le (by assumption) (by first | decide | k_extra "mE lia")); (case jt => k_extra "a"); (case jx => k_mem); (case jd => k_mem); (case ju => k_extra "mE updT"); (case jq => first | assumption | (k_extra "mne all"; all_goals k_ne)); (case jap => k_extra "a"); (case jz => k_extra "a")); intro _ _ _ _ _ _ _ R' q' F' N' old'; (try dsimp only at R' N' old'); revert R' q' F' N' old'; intro _ _ _ _ _; k_extra "msw")
 k_with "mE forG" => (walk_at "H Fr"; (with_unfolding_all refine' ForG_stop ?jlF ?_ ?jk3; (case jlF => (rename Fr _ _ _ _ => lF'; exact lF')); (case jk3 => exact fun _ => rfl)))
 k_with "mexec For Tuple Attribute cons nil" => k_extra "mE forG"
 k_with "mexec For Name Call cons nil" => k_extra "mE forG"
 k_with "mcall builtin:len" => (k_dflt (refine' len_L ?jn ?jm ?jk ?jz ?_; (case jn => k_extra "a"); (case jm => k_mem); (case jk => k_extra "a"); (case jz => k_extra "mE lia")))
 k_with "mcall builtin:list.index" => ((with_reducible refine (?_ : wpAny _ _ (call (Value.builtin _) [Value.ref _, Value.bool true]) _ _ _)); k_dflt (refine' index_bools ?jn ?jm ?jj ?jl ?jz ?_; (case jn => k_extra "a"); (case jm => k_mem); (case jj => k_extra "a"); (case jl => k_extra "a"); (case jz => k_extra "a")))
 exact trivial
variable {A : Around} {s : Shared} {v : Value} {n : Nat}
theorem captured_c {A : Around} {s : Shared} {v : Value} {n : Nat} (t : T) {d : Bool → List Row} (hLk : LookOk w t.tr d n) (O : OkH w s.heap) (r : Rm A (n + 8)) (ht : TreeAt s.heap t.tr v) (hz : (d true).length ≤ 2 ^ 18) (hsum : ((heldOf (d true)).map List.length).sum ≤ 2 ^ 20) :
    Calls w A s 264 [v] nil (Fresh s (capt (d true))) := by
  have hz2 : (d true).length ≤ 2 ^ 20 := Nat.le_trans hz (by decide)
  refine' enterC [((Str.ofString "tree"), v)] O r ?k6 ?k7 ?k9 ?kB ?kD ?_ ?c1 ?c2 ?c3 ?c5; k_extra "eC"
  have X := OkH.X O; have Tp := OkH.top O
  refine ex2_3 (Y.two) ?_; intro oc1 oc2 eK; subst eK; intro hoc1 hoc2
  have hc1 : oc1.data = .cell none := hoc1
  have hc2 : oc2.data = .cell none := hoc2
  clear hoc1 hoc2 Y
  k_steps
  rename_i h1 k1 x dx lr g1 tk1 ap l1 apu g2 tk9 n1 rs vs g3 tk2 K nk R q old hl g4 l2 dl g5 l3 fl g6 l4 D1 g7 l5 g8 g9 g10 g11 F N
  simp only [ALt.e1, ALt.e2, and_true] at l2 l3 l4
  have rowsG := R.get
  have hrl := R.length
  generalize d true = rows at *
  have hlr : g11.get? lr = some (listOf vs.toArray n1) := News.get N (by k_mem)
  have hll : lr ≠ L' := (N _ (by k_mem : (lr, listOf vs.toArray n1) ∈ _)).2.1
  have hne1 : @Ne Nat hl dl := by have := l3.1; k_extra "mE lia"
  have hf1 : @Ne Nat fl (L' + 1 + 1) := by k_extra "mE lia"
  have hf2 : @Ne Nat fl (L' + 1) := by k_extra "mE lia"
  refine iterG [Str.ofString "word", Str.ofString "told", Str.ofString "is_sure"] (CapInv hl dl fl lr (L' + 1 + 1) (L' + 1) oc1 oc2 vs n1 K rows) rfl r.hd (.inr ⟨_, _, _, rfl⟩) hll hlr ?_ F (news := (hl, listOf (List.toArray []) 0) :: (dl, listOf (List.toArray []) 0) :: (fl, listOf (List.toArray []) 0) :: (x, instObj 255 dx) :: (dx, edict h1 k1 lr) :: (lr, listOf vs.toArray n1) :: rs) (News.sub N ?_) ?_ ?_ ?_
  · intro i nx hR9
    refine ex5_6 hR9 ?_; clear hR9; intro vh nh vd nd rest eK; subst eK; intro a1 a2 a3 a4 a5
    exact .inr (.tail _ (.tail _ a4))
  · walk_at "mem all"
    intro p hp; k_mem
  · have nrs1 := allLt_ne l2.2.2.2
    have nrs2 := allLt_ne l3.2.2.2.2
    have hx1 : @Ne Nat x hl := by k_extra "mE lia"
    have hx2 : @Ne Nat dx hl := by k_extra "mE lia"
    have hx3 : @Ne Nat lr hl := by k_extra "mE lia"
    have hx4 : @Ne Nat fl hl := by k_extra "mE lia"
    have hy1 : @Ne Nat x dl := by k_extra "mE lia"
    have hy2 : @Ne Nat dx dl := by k_extra "mE lia"
    have hy3 : @Ne Nat lr dl := by k_extra "mE lia"
    have hy4 : @Ne Nat fl dl := by k_extra "mE lia"
    have hw1 : @Ne Nat (L' + 1 + 1) lr := by k_extra "mE lia"
    have hw2 : @Ne Nat (L' + 1) lr := by k_extra "mE lia"
    have nrs3 := allLt_mem l4.2.2.2.2.2
    have hR3 : RowsAt K (gd fl (L' + 1 + 1) (L' + 1) ((fl, listOf (List.toArray []) 0) :: (x, instObj 255 dx) :: (dx, edict h1 k1 lr) :: (lr, listOf vs.toArray n1) :: rs)) rows vs := R.mono fun p hp hk => ⟨mem_gd.mpr ⟨.tail _ hp, fun e => ?_, fun e => nk (L' + 1 + 1, oc1) (by k_mem) (by have e' : p.1 = L' + 1 + 1 := e; rw [e'] at hk; exact hk), fun e => nk (L' + 1, oc2) (by k_mem) (by have e' : p.1 = L' + 1 := e; rw [e'] at hk; exact hk)⟩, hk⟩
    exact ⟨[], 0, [], 0, _, rfl, neCons hx4 (neCons hx1 (neCons hx2 (neCons hx3 nrs1))), neCons hy4 (neCons hy1 (neCons hy2 (neCons hy3 nrs2))), .head _, .tail _ (.tail _ (.tail _ (.head _))), .tail _ (old _ (by k_mem) hw1), .tail _ (old _ (by k_mem) hw2), hR3, .nil, .nil⟩
    rcases List.mem_cons.mp hp with rfl | hp
    · exact absurd e (by show @Ne Nat x fl; k_extra "mE lia")
    · rcases List.mem_cons.mp hp with rfl | hp
      · exact absurd e (by show @Ne Nat dx fl; k_extra "mE lia")
      · rcases List.mem_cons.mp hp with rfl | hp
        · exact absurd e (by show @Ne Nat lr fl; k_extra "mE lia")
        · have h5 := nrs3 p hp
          have h6 : @Eq Nat p.1 fl := e
          k_extra "mE lia"
  · intro i v q nx h tk I o hv hI hne gR48 F2 N2; k_extra "qD"; refine ex5_10 gR48 ?_; clear gR48; intro vh nh vd nd rest eK; subst eK; intro a1 a2 a3 a4 a5 a6 R2 hH hD
    have hhI : @Ne Nat hl I := hne _ (.head _)
    have hdI : @Ne Nat dl I := hne _ (.tail _ (.head _))
    have hrI : ∀ p ∈ rest, p.1 ≠ I := fun p hp => hne p (.tail _ (.tail _ hp))
    have hHl := hH.length
    have hDl := hD.length
    have hh1 := held_len (rows.take i)
    have hd1 := done_len (rows.take i) 0
    have ht1 : (rows.take i).length ≤ rows.length := length_take_le_self _ _
    have hzh : vh.length ≤ 2 ^ 20 := by k_extra "mE lia"
    have hzd : vd.length ≤ 2 ^ 20 := by k_extra "mE lia"
    clear F N hne old l2 l3 l4 l5 rowsG
    k_extra "qB"; rcases R2.get i v (by simpa using hv) with hQa | hQa
    · refine ex5_3 hQa ?_; clear hQa; intro y b a t1 t2 hr eK; subst eK; intro hm'
      k_extra "qC"
      have hm := gd_sub _ hm'
      k_steps
      rename Fr _ _ _ _ => F3
      rename News _ _ _ _ => N3
      rename_i D2 _ l7 _
      refine cap_end (rest := rest) (rest' := (D2, _) :: rest) F3 N3 (by k_mem) (by k_mem) (by k_mem) hhI hdI (allCons (by k_mem) fun p hp => by k_mem) (fun p hp => .tail _ hp) (neCons (by k_ne) a1) (neCons (by k_ne) a2) (neCons (by k_ne) hrI) a3 a4 a5 a6 R2 (Agree.set (Agree.set (Agree.set (Agree.over _) rfl) rfl) rfl) ?_ ?_
      · rw [held_next hr]; simp only [heldOf_n, heldOf_h, heldOf_a, List.append_nil]; exact hH.mono (gd_mono fun p hp => .tail _ hp)
      · rw [done_next hr]; exact (hD.mono (gd_mono fun p hp => .tail _ hp)).snoc (mem_gd.mpr ⟨by rw [← hHl]; exact .head _, Nat.ne_of_gt (allLt_mem l7.2.2.2 _ a3), Nat.ne_of_gt (allLt_mem l7.2.2.2 _ a5), Nat.ne_of_gt (allLt_mem l7.2.2.2 _ a6)⟩)
    · refine ex6_5 hQa ?_; clear hQa; intro ys a t1 l us nu hr eK; subst eK; intro hm' hml hsu
      k_extra "qC"
      have hm := gd_sub _ hm'
      k_steps
      rename Fr _ _ _ _ => F3
      rename News _ _ _ _ => N3
      refine cap_end (rest := rest) (rest' := rest) F3 N3 (by k_mem) (by k_mem) (by k_mem) hhI hdI (fun p hp => by k_mem) (fun p hp => hp) a1 a2 hrI a3 a4 a5 a6 R2 (Agree.set (Agree.set (Agree.set (Agree.over _) rfl) rfl) rfl) ?_ ?_
      · rw [held_next hr]; exact hH.snoc hml hsu
      · rw [done_next hr]; simp only [doneOf_n, doneOf_h, doneOf_a, List.append_nil]; exact hD
  · intro q nx h tk gR49 F2 N2; k_extra "qD"; refine ex5_10 gR49 ?_; clear gR49; intro vh nh vd nd rest eK; subst eK; intro a1 a2 a3 a4 a5 a6 R2 hH hD
    rw [List.size_toArray, hrl, List.take_length] at hH hD
    have hLs := ((hH.mono gd_sub).tail2 (p := (hl, listOf vh.toArray nh)) (q := (dl, listOf vd.toArray nd))).lists N2
    clear F N old l2 l3 l4 l5 rowsG
    k_steps
    rename_i jl vj nj g12 tk5 hsj nej F N
    have hsub : ∀ p ∈ (hl, listOf vh.toArray nh) :: (dl, listOf vd.toArray nd) :: rest, p ∈ (jl, listOf vj.toArray nj) :: (hl, listOf vh.toArray nh) :: (dl, listOf vd.toArray nd) :: rest := fun p hp => .tail _ hp
    have nejr := nej.2.2
    have hrest : ∀ p ∈ rest, @Ne Nat p.1 jl := NeAll.out nejr
    have hjr : ∀ p ∈ rest, jl ≠ p.1 := fun p hp e => hrest p hp e.symm
    have b1 : (jl, listOf vj.toArray nj) ∈ gd fl (L' + 1 + 1) (L' + 1) ((jl, listOf vj.toArray nj) :: (hl, listOf vh.toArray nh) :: (dl, listOf vd.toArray nd) :: rest) := mem_gd.mpr ⟨.head _, hjr _ a3, hjr _ a5, hjr _ a6⟩
    have b2 : (hl, listOf vh.toArray nh) ∈ gd fl (L' + 1 + 1) (L' + 1) ((jl, listOf vj.toArray nj) :: (hl, listOf vh.toArray nh) :: (dl, listOf vd.toArray nd) :: rest) := mem_gd.mpr ⟨.tail _ (.head _), fun e => a1 _ a3 e.symm, fun e => a1 _ a5 e.symm, fun e => a1 _ a6 e.symm⟩
    have b3 : (dl, listOf vd.toArray nd) ∈ gd fl (L' + 1 + 1) (L' + 1) ((jl, listOf vj.toArray nj) :: (hl, listOf vh.toArray nh) :: (dl, listOf vd.toArray nd) :: rest) := mem_gd.mpr ⟨.tail _ (.tail _ (.head _)), fun e => a2 _ a3 e.symm, fun e => a2 _ a5 e.symm, fun e => a2 _ a6 e.symm⟩
    replace hH := hH.mono (gd_mono (l' := (jl, listOf vj.toArray nj) :: (hl, listOf vh.toArray nh) :: (dl, listOf vd.toArray nd) :: rest) fun p hp => .tail _ (.tail _ (.tail _ hp)))
    replace hD := hD.mono (gd_mono (l' := (jl, listOf vj.toArray nj) :: (hl, listOf vh.toArray nh) :: (dl, listOf vd.toArray nd) :: rest) fun p hp => .tail _ (.tail _ (.tail _ hp)))
    have N3 : News s.heap L' g12 ((fl, listOf (List.toArray []) 0) :: (L' + 1 + 1, oc1) :: (L' + 1, oc2) :: gd fl (L' + 1 + 1) (L' + 1) ((jl, listOf vj.toArray nj) :: (hl, listOf vh.toArray nh) :: (dl, listOf vd.toArray nd) :: rest)) := News.sub N (allCons (by k_mem) (allCons (by k_mem) (allCons (by k_mem) gd_sub)))
    have hgd := @mem_gd fl (L' + 1 + 1) (L' + 1) ((jl, listOf vj.toArray nj) :: (hl, listOf vh.toArray nh) :: (dl, listOf vd.toArray nd) :: rest)
    generalize gd fl (L' + 1 + 1) (L' + 1) ((jl, listOf vj.toArray nj) :: (hl, listOf vh.toArray nh) :: (dl, listOf vd.toArray nd) :: rest) = rest2 at *
    have e1 : ∀ p ∈ rest2, p.1 ≠ fl := fun p hp => (hgd.mp hp).2.1
    have e2 : ∀ p ∈ rest2, p.1 ≠ L' + 1 + 1 := fun p hp => (hgd.mp hp).2.2.1
    have e3 : ∀ p ∈ rest2, p.1 ≠ L' + 1 := fun p hp => (hgd.mp hp).2.2.2
    have hjl : jl ≠ L' := (N3 _ (.tail _ (.tail _ (.tail _ b1)))).2.1
    have hjg : g12.get? jl = some (listOf vj.toArray nj) := (N3 _ (.tail _ (.tail _ (.tail _ b1)))).1
    clear hgd N nej nejr hrest hjr a1 a2 a3 a4 a5 a6 hsub R2 hLs R nk hlr l1 apu ap
    refine iterG [Str.ofString "rows"] (Cap2 fl (L' + 1 + 1) (L' + 1) rest2 rows) rfl r.hd (.inl ⟨_, _, rfl⟩) hjl hjg ?_ F N3 ⟨[], 0, oc1, oc2, _, _, rfl, hc1, hc2, .nil⟩ ?_ ?_
    · intro i nx hR9
      refine ex6_2 hR9 ?_; clear hR9; intro vf nf o1 o2 v1 v2 eK; subst eK; intro _
      exact .inr (.tail _ (.tail _ (.tail _ b1)))
    · intro i v' q nx h tk I o hv hI hne gR50 F4 N4; k_extra "qD"; refine ex6_4 gR50 ?_; clear gR50; intro vf nf o1 o2 v1 v2 eK; subst eK; intro hd1 hd2 hsf
      refine ex2_2 (StrsAre.item hsj i v' (by simpa using hv)) ?_; intro y t0 eK; subst eK; intro hy
      have hfI : @Ne Nat fl I := hne _ (.head _)
      have h1I : @Ne Nat (L' + 1 + 1) I := hne _ (.tail _ (.head _))
      have h2I : @Ne Nat (L' + 1) I := hne _ (.tail _ (.tail _ (.head _)))
      have hrI : ∀ p ∈ rest2, p.1 ≠ I := fun p hp => hne p (.tail _ (.tail _ (.tail _ hp)))
      clear F N3 hne hc1 hc2
      refine wpAny_assign_Name ?_
      k_steps
      rename_i g13 on F5 N5 hdn
      have hDl := hD.length
      have hHl := hH.length
      have hd1' := done_len rows 0
      have hh1' := held_len rows
      have hjm : y ∈ joinAll (heldOf rows) := List.mem_of_getElem? hy
      have O5 := O.keeps F5.keep
      have hcn : g13.get? (L' + 1) = some on := News.get N5 (by k_mem)
      refine comp_list0 (fun i ys _ => DoneIn rest2 ys (((doneOf rows 0).take i).filter fun r => r.1 == y)) (fun _ _ _ _ h _ => h) r.hd (News.get N5 (by k_mem : (dl, listOf vd.toArray nd) ∈ _)) (by decide) rfl rfl (by rw [List.size_toArray]; k_extra "mE lia") .nil ?_ (asg_all F5 N5 ?_)
      · intro i2 w2 s₃ C m2 zs hid hv2 hlen hS F6 hfr hV
        refine ex6_3 (hD.get i2 w2 (by simpa using hv2)) ?_; intro a ta tb ya ba na eK; subst eK; intro hma hda
        have hTa : IsTup g13 a (List.toArray [.str ya ta, .bool ba, .int na tb]) := News.isTup N5 (by k_mem)
        have N6 : News g13 C s₃.heap [] := News.nil
        have X5 := OkH.X O5; have T5 := OkH.top O5
        refine tests_one ?_
        clear F5 N5 X Tp F4 N4 hH hD
        change Fr g13 C s₃.heap _ at F6
        k_steps
        · rename_i e
          refine ⟨⟨⟨rfl, rfl, rfl⟩, fun _ _ _ e => e⟩, ?_⟩
          rw [filter_next hda, if_pos e]
          exact hV.snoc hma
        · rename_i e
          refine ⟨⟨⟨rfl, rfl, rfl⟩, fun _ _ _ e => e⟩, ?_⟩
          rw [filter_next hda, if_neg (by rw [e]; exact Bool.false_ne_true), List.append_nil]
          exact hV
      · intro D zs h5 tk5 nD hV hlen hneD F7 N7
        clear N5 F5 F4 N4
        rw [List.size_toArray, hDl, List.take_length] at hV
        replace hV : DoneIn rest2 zs (rowsOf rows y) := hV
        have hzl := hV.length
        have hzl2 : zs.length ≤ 2 ^ 20 := by rw [List.size_toArray] at hlen; k_extra "mE lia"
        k_steps
        have O7 := O.keeps F7.keep
        have hcn7 : h5.get? (L' + 1) = some on := News.get N7 (by k_mem)
        refine comp_list0 (fun i ys _ => ys = (((heldOf rows).take i).map fun ys => ys.any (· == y)).map Value.bool) (fun _ _ _ _ h _ => h) r.hd (News.get N7 (by k_mem : (hl, listOf vh.toArray nh) ∈ _)) (by decide) rfl rfl (by rw [List.size_toArray]; k_extra "mE lia") rfl ?_ (cmp_all F7 N7 ?_)
        · intro i3 w3 s₃ C m2 ws hid hv3 hlen3 hS3 F8 hfr3 hV3
          refine ex4_4 (hH.get i3 w3 (by simpa using hv3)) ?_; intro b vb nb xs eK; subst eK; intro hmb hsb hxs
          have hb3 : h5.IsList b vb.toArray := ⟨_, News.get N7 (by k_mem), rfl, nb, rfl⟩
          have N8 : News h5 C s₃.heap [] := News.nil
          have X5 := OkH.X O7; have T5 := OkH.top O7
          refine tests_nil ?_
          rw [if_pos rfl]
          clear F7 N7 X Tp hH hD hsf hsj
          change Fr h5 C s₃.heap _ at F8
          k_steps
          refine ⟨⟨⟨rfl, rfl, rfl⟩, fun _ _ _ e => e⟩, ?_⟩
          rw [map_next hxs, hV3, List.map_append]; rfl
        · intro D2 ws hh2 tt2 nD2 hV3 hlen3 hne8 F8 N8
          rw [List.size_toArray, hHl, List.take_length] at hV3
          subst hV3
          have hix := first_idx rows y
          have hlt := first_lt hjm
          have hlz : ((heldOf rows).map fun ys => ys.any (· == y)).length ≤ 2 ^ 20 := by rw [List.length_map]; k_extra "mE lia"
          clear F7 N7
          have hvf : vf.length ≤ 2 ^ 20 := by
            have h1 := StrsAre.length hsf
            have h2 := List.length_filter_le (captOk rows) ((joinAll (heldOf rows)).take i)
            have h3 := joinAll_len (heldOf rows)
            have h4 : ((joinAll (heldOf rows)).take i).length ≤ (joinAll (heldOf rows)).length := length_take_le_self _ _
            k_extra "mE lia"
          k_steps
          · rename Fr _ _ _ _ => F9
            rename News _ _ _ _ => N9
            rename_i g9 o9 hd9 _ hgt _
            refine cap2_end F9 N9 (by k_mem) (by k_mem) (by k_mem) (by k_mem) (fun p hp => by k_mem) hfI h1I h2I hrI (Agree.set (Agree.over _) rfl) hd9 hdn ?_
            rw [filter_next hy, if_pos (by unfold captOk; rw [decide_eq_true (show 1 < (rowsOf rows y).length by k_extra "mE lia")]; rfl)]
            exact StrsAre.snoc hsf y t0
          · rename_i g9 o9 F9 N9 hd9 hle1
            have O9 := O.keeps F9.keep
            have hcf : g9.get? (L' + 1 + 1) = some o9 := News.get N9 (by k_mem)
            refine comp_list0 (fun i ys _ => ys.isEmpty = !(((rowsOf rows y).take i).any fun r => !r.2.1 || decide (firstOf rows y < r.2.2))) (fun _ _ _ _ h _ => h) r.hd (News.get N9 (by k_mem : (D, listOf zs.toArray nD) ∈ _)) (by decide) rfl rfl (by rw [List.size_toArray]; k_extra "mE lia") rfl ?_ (cmp_all F9 N9 ?_)
            · intro i3 w3 s₃ C m2 ws hid hv3 hlen3 hS3 F10 hfr3 hV3
              refine ex6_3 (hV.get i3 w3 (by simpa using hv3)) ?_; intro a ta tb ya ba na eK; subst eK; intro hma hda
              have hTa : IsTup g9 a (List.toArray [.str ya ta, .bool ba, .int na tb]) := News.isTup N9 (by k_mem)
              have N10 : News g9 C s₃.heap [] := News.nil
              have X5 := OkH.X O9; have T5 := OkH.top O9
              refine tests_one ?_
              clear F9 N9 X Tp hH hD hsf hsj hV
              change Fr g9 C s₃.heap _ at F10
              cases ba <;> k_steps
              · refine ⟨⟨⟨rfl, rfl, rfl⟩, fun _ _ _ e => e⟩, ?_⟩
                rw [any_next hda]; simp
              · rename_i hlt3
                refine ⟨⟨⟨rfl, rfl, rfl⟩, fun _ _ _ e => e⟩, ?_⟩
                rw [any_next hda]
                have hlt4 : firstOf rows y < na := by k_extra "mE lia"
                simp [hlt4]
              · rename_i hlt3
                refine ⟨⟨⟨rfl, rfl, rfl⟩, fun _ _ _ e => e⟩, ?_⟩
                rw [any_next hda]
                have hlt4 : ¬ firstOf rows y < na := by k_extra "mE lia"
                simp only [decide_eq_false hlt4, Bool.not_true, Bool.or_self, Bool.or_false]
                exact hV3
            · intro D3 ws hh3 tt3 nD3 hV4 hlen4 hne10 F10 N10
              rw [List.size_toArray, hzl, List.take_length] at hV4
              have hlen5 : ¬ 1 < (rowsOf rows y).length := by k_extra "mE lia"
              clear F9 N9
              rcases ws with _ | ⟨w0, ws⟩
              · k_steps
                rename Fr _ _ _ _ => F11
                rename News _ _ _ _ => N11
                refine cap2_end F11 N11 (by k_mem) (by k_mem) (by k_mem) (by k_mem) (fun p hp => by k_mem) hfI h1I h2I hrI (Agree.set (Agree.over _) rfl) hd9 hdn ?_
                have hV5 : ((rowsOf rows y).any fun r => !r.2.1 || decide (firstOf rows y < r.2.2)) = false := by
                  cases q : ((rowsOf rows y).any fun r => !r.2.1 || decide (firstOf rows y < r.2.2)) with
                  | false => rfl
                  | true => rw [q] at hV4; cases hV4
                rw [filter_next hy, if_neg (by unfold captOk; rw [decide_eq_false hlen5, hV5]; decide), List.append_nil]
                exact hsf
              · k_steps
                rename Fr _ _ _ _ => F11
                rename News _ _ _ _ => N11
                refine cap2_end F11 N11 (by k_mem) (by k_mem) (by k_mem) (by k_mem) (fun p hp => by k_mem) hfI h1I h2I hrI (Agree.set (Agree.over _) rfl) hd9 hdn ?_
                have hV5 : ((rowsOf rows y).any fun r => !r.2.1 || decide (firstOf rows y < r.2.2)) = true := by
                  cases q : ((rowsOf rows y).any fun r => !r.2.1 || decide (firstOf rows y < r.2.2)) with
                  | true => rfl
                  | false => rw [q] at hV4; cases hV4
                rw [filter_next hy, if_pos (by unfold captOk; rw [hV5, Bool.or_true])]
                exact StrsAre.snoc hsf y t0
    · intro q nx h tk gR51 F4 N4; k_extra "qD"; refine ex6_4 gR51 ?_; clear gR51; intro vf nf o1 o2 v1 v2 eK; subst eK; intro hd1 hd2 hsf
      k_steps
      refine post_end S F4 ⟨fl, vf, nf, rfl, (N4 _ (.head _)).2.2, (N4 _ (.head _)).1, ?_⟩
      rw [List.size_toArray, StrsAre.length hsj, List.take_length] at hsf
      exact hsf
end
example : True := by
 k_with "mexec For Name Call cons nil" => k_extra "mE for"
 exact trivial
example : Sep := by w_top off; first | walk1 | trivial
noncomputable def AppOk (w : World) (g : Heap) (u : Addr) (f : Addr) (args : List Value) (ys : List Str) (rv : Value) (n : Nat) : Prop :=
  ∀ (A : Around) (s : Shared) (vs : List Value) (k : Nat) (xs : List Str), Le g s.heap → Rm A n → s.heap.get? u = some (listOf vs.toArray k) → StrsAre vs xs → xs.length + ys.length ≤ 2 ^ 20 →
    Calls w A s f args (at1 u) (fun r h' => r = rv ∧ ∃ vs' k', h'.get? u = some (listOf vs'.toArray k') ∧ StrsAre vs' (xs ++ ys))
theorem AppOk.le {g : Heap} {u f : Addr} {args : List Value} {ys : List Str} {rv : Value} {n k : Nat} (h : AppOk w g u f args ys rv n) (hk : n ≤ k) : AppOk w g u f args ys rv k := fun A s vs m xs hg r => h A s vs m xs hg (r.le hk)
section
variable {A : Around} {s : Shared} {u f : Addr} {args vs : List Value} {k n : Nat} {xs ys : List Str} {rv : Value} {Q E : Value → Shared → Prop} {h₀ : Heap} {L : Addr} {m : Str → Option Value} {news : List (Addr × Obj)} {g : Obj → List (Addr × Obj)}
theorem app_u {E : Value → Shared → Prop} {A : Around} {s : Shared} {u f : Addr} {args vs : List Value} {k n : Nat} {xs ys : List Str} {rv : Value} {Q : Value → Shared → Prop} {h₀ : Heap} {L : Addr} {m : Str → Option Value} {news : List (Addr × Obj)} {g : Obj → List (Addr × Obj)} (c : AppOk w h₀ u f args ys rv n) (F : Fr h₀ L s.heap m) (N : News h₀ L s.heap news) (r : Rm A n) (U : UpdF u (listOf vs.toArray k) news g) (hs : StrsAre vs xs) (hz : xs.length + ys.length ≤ 2 ^ 20)
    (kk : ∀ vs' k' h' tk, StrsAre vs' (xs ++ ys) → Fr h₀ L h' m → News h₀ L h' (g (listOf vs'.toArray k')) → Q rv { s with heap := h', toks := tk }) : wpAny (model PR w) A (call (.ref f) args) Q E s := by
  have hu := N _ (UpdF.mem U)
  refine use1 (c A s vs k xs F.keep r hu.1 hs hz) F N U fun v h' tk hQ9 F' N' => ?_
  refine ex0_2 hQ9 ?_; clear hQ9; intro e gN52; refine ex2_2 gN52 ?_; clear gN52; intro vs' k' ho hs'
  rw [e]; exact kk vs' k' h' tk hs' F' (N' _ ho)
end
theorem start1 {h h₁ : Heap} {L u : Addr} {m : Str → Option Value} {vs : List Value} {k : Nat} {g : Heap} (F : Fr h L h₁ m) (hg : Le g h) (hgu : g.get? u = none) (hL : L = h.objs.size) (hu : h.get? u = some (listOf vs.toArray k)) :
    ∃ hb, Fr hb L h₁ m ∧ News hb L h₁ [(u, listOf vs.toArray k)] ∧ Le g hb ∧ (∀ b o, hb.get? b = some o → h.get? b = some o) ∧ ∀ b o, h.get? b = some o → b ≠ u → hb.get? b = some o :=
  ⟨h.hide u, Fr.hide u F, News.hide1 F hu hL, le_hide hg hgu, fun _ _ e => Heap.of_hide e, fun _ _ e hb => (Heap.hide_ne _ hb).trans e⟩
theorem start1_k {h h₁ : Heap} {L u : Addr} {m : Str → Option Value} {vs : List Value} {k : Nat} {g : Heap} (F : Fr h L h₁ m) (hg : Le g h) (hgu : g.get? u = none) (hL : L = h.objs.size) (hu : h.get? u = some (listOf vs.toArray k)) {P : Prop}
    (c : ∀ hb, Fr hb L h₁ m → News hb L h₁ [(u, listOf vs.toArray k)] → Le g hb → (∀ b o, hb.get? b = some o → h.get? b = some o) → (∀ b o, h.get? b = some o → b ≠ u → hb.get? b = some o) → P) : P := by
  refine ex1_5 (start1 F hg hgu hL hu) ?_; intro hb a1 a2 a3 a4 a5; exact c hb a1 a2 a3 a4 a5
theorem app_end {s s₂ : Shared} {hb : Heap} {v : Value} {L u : Addr} {m : Str → Option Value} {vs : List Value} {k : Nat} {xs ys : List Str} {news : List (Addr × Obj)} (S : Same s s₂) (hk : ∀ b o, s.heap.get? b = some o → b ≠ u → hb.get? b = some o) (F : Fr hb L s₂.heap m) (N : News hb L s₂.heap news)
    (hm : (u, listOf vs.toArray k) ∈ news) (hs : StrsAre vs (xs ++ ys)) : Post s (at1 u) (fun r h' => r = v ∧ ∃ vs' k', h'.get? u = some (listOf vs'.toArray k') ∧ StrsAre vs' (xs ++ ys)) v s₂ :=
  ⟨S, fun b o e hb => F.keep b o (hk b o e hb), rfl, vs, k, (N _ hm).1, hs⟩
example : True := by
 k_with "mE app" => (k_dflt (refine' app_u ?jc ?jf ?jn ?jr ?ju ?js ?jz ?_; (case jc => k_extra "a"); k_extra "mP2"; (case jr => k_extra "mE rm"); (case ju => k_updF); (case js => k_extra "man"); (case jz => first | k_extra "mE om" | (simp only [List.length_append, List.length_cons, List.length_nil]; k_extra "mE om") | (simp only [List.length_append, List.length_cons, List.length_nil] at *; k_extra "mE om"))); intro _ _ _ _ _ _ N'; (try dsimp only at N'); revert N'; intro _; k_extra "msw")
 exact trivial
noncomputable def LocOk (w : World) (t : Tr) (ys : List Str) (n : Nat) : Prop := ∀ (g : Heap) (u : Addr) (v : Value), OkH w g → TreeAt g t v → g.get? u = none → AppOk w g u 302 [v, .ref u] ys (.ref u) n
section
example : True := by
 k_with "mcall ref" => ((with_reducible refine (?_ : wpAny _ _ (call (.ref 302) _) _ _ _)); k_extra "mE app")
 exact trivial
variable {n : Nat}
theorem loc_leaf {t : T} (hl : t.leaf = true) : LocOk w t.tr [] 1 := by
  intro g u v O ht hgu A s vs k xs hg r hu hs hz
  refine ex4_3 (T.leaf_at hl ht) ?_; intro a kd t1 v2 eK; subst eK; intro hT hkd
  have hkd2 : (kd != Str.ofString "expr") = true := by show (!(kd == Str.ofString "expr")) = true; rw [hkd]; rfl
  refine' enter [((Str.ofString "tree"), .ref a), ((Str.ofString "found"), .ref u)] (O.keeps hg) r ?k6 ?k7 ?k9 ?kB ?_ ?c1 ?c2 ?c3 ?c4 ?c5; k_extra "eN"
  refine start1_k F hg hgu hL' hu ?_; intro hb F N hgh _ hk
  have O' := O.keeps hgh
  replace hT := hT.keeps hgh
  have X := OkH.X O'; have Tp := OkH.top O'
  k_steps
  exact app_end (xs := xs) (ys := []) S hk (by assumption) (by assumption) (by k_mem) (by rw [List.append_nil]; exact hs)
theorem loc_stop {ky : Str} {ps : List Tr} (hk : ky ∈ [Str.ofString "function", Str.ofString "->", Str.ofString "let", Str.ofString "comprehension", Str.ofString "quote"]) : LocOk w (.ex ky ps) [] 1 := by
  intro g u v O ht hgu A s vs k xs hg r hu hs hz
  k_extra "qB"; refine TreeAt.ex_k ht ?_; clear ht; intro a t1 t2 c ws eK hT hB hts; subst eK; k_extra "qC"
  simp only [List.mem_cons, List.not_mem_nil, or_false] at hk
  rcases hk with rfl | rfl | rfl | rfl | rfl <;> (
  refine' enter [((Str.ofString "tree"), .ref a), ((Str.ofString "found"), .ref u)] (O.keeps hg) r ?k6 ?k7 ?k9 ?kB ?_ ?c1 ?c2 ?c3 ?c4 ?c5; k_extra "eN"
  refine start1_k F hg hgu hL' hu ?_; intro hb F N hgh _ hk
  have O' := O.keeps hgh
  replace hT := hT.keeps hgh
  have X := OkH.X O'; have Tp := OkH.top O'
  k_steps
  exact app_end (xs := xs) (ys := []) S hk (by assumption) (by assumption) (by k_mem) (by rw [List.append_nil]; exact hs))
theorem range_nextS (ds : Nat → List Str) (i : Nat) : (List.range (i + 1)).flatMap ds = (List.range i).flatMap ds ++ ds i := by rw [List.range_succ, List.flatMap_append]; simp
theorem len_nextS (ds : Nat → List Str) {i k : Nat} (h : i < k) : ((List.range i).flatMap ds).length + (ds i).length ≤ ((List.range k).flatMap ds).length := by
  have e : ((List.range i).flatMap ds).length + (ds i).length = ((List.range (i + 1)).flatMap ds).length := by rw [range_nextS, List.length_append]
  rw [e]
  obtain ⟨j, rfl⟩ : ∃ j, k = i + 1 + j := ⟨k - (i + 1), (Nat.add_sub_of_le h).symm⟩
  clear e h
  induction j with
  | zero => exact Nat.le_refl _
  | succ j ih => rw [show i + 1 + (j + 1) = (i + 1 + j) + 1 from rfl, range_nextS ds (i + 1 + j), List.length_append]; k_extra "mE lia"
structure PlA (hd : Str) : Prop where
  li : (([Str.ofString "function", Str.ofString "->", Str.ofString "let", Str.ofString "comprehension", Str.ofString "quote"] : List Str).any fun x => x == hd) = false
  fo : (hd == Str.ofString "for") = false
  lo : (hd == Str.ofString "local") = false
  wh : (hd == Str.ofString "while") = false
theorem loc_plain {ky : Str} {n : Nat} {ps : List Tr} {ds : Nat → List Str} (hp : PlA ky) (hLs : ∀ i t, ps[i]? = some t → LocOk w t (ds i) n) : LocOk w (.ex ky ps) ((List.range ps.length).flatMap ds) (n + 1) := by
  intro g u v O ht hgu A s vs k xs hg r hu hs hz
  k_extra "qB"; refine TreeAt.ex_k ht ?_; clear ht; intro a t1 t2 c ws eK hT hB hts; subst eK; k_extra "qC"
  k_extra "qB"; obtain ⟨p1, p2, p3, p4⟩ := hp; k_extra "qC"
  have hlen := TreesAt.length hts
  refine' enter [((Str.ofString "tree"), .ref a), ((Str.ofString "found"), .ref u)] (O.keeps hg) r ?k6 ?k7 ?k9 ?kB ?_ ?c1 ?c2 ?c3 ?c4 ?c5; k_extra "eN"
  refine start1_k F hg hgu hL' hu ?_; intro hb F N hgh _ hk
  have O' := O.keeps hgh
  have hub : hb.get? u = none := (N _ (.head _)).2.2
  have c1 : ∀ i t v, ps[i]? = some t → TreeAt hb t v → AppOk w hb u 302 [v, .ref u] (ds i) (.ref u) n := fun i t v e h => hLs i t e hb u v O' h hub
  replace hT := hT.keeps hgh
  replace hB := hB.keeps hgh
  replace hts := TreesAt.keeps hgh _ hts
  have X := OkH.X O'; have Tp := OkH.top O'
  k_steps
  rename Fr _ _ _ _ => F1
  rename News _ _ _ _ => N1
  refine iterTup [] (fun i nx => ∃ vs' k', nx = [(u, listOf vs'.toArray k')] ∧ StrsAre vs' (xs ++ (List.range i).flatMap ds)) rfl r.hd ?_ hB F1 (News.sub (l := [(u, listOf vs.toArray k)]) N1 (by walk_at "mem all")) ⟨vs, k, rfl, by simpa using hs⟩ ?_ ?_
  · exact Nat.ne_of_lt (Nat.lt_of_lt_of_le hB.lt F1.above)
  · intro i v q nx h tk I o hv hI hne gR53 F2 N2; k_extra "qD"; refine ex2_2 gR53 ?_; clear gR53; intro vs' k' eK; subst eK; intro hs'
    refine ex1_2 (treesAt_get hts i v (by simpa using hv)) ?_; intro t ht' hta
    have hi : i < ps.length := by
      rcases Nat.lt_or_ge i ps.length with h | h
      · exact h
      · rw [List.getElem?_eq_none h] at ht'; cases ht'
    have c2 := c1 i t v ht' hta
    have huI : @Ne Nat u I := hne _ (.head _)
    have hz2 := len_nextS ds hi
    have hz3 : (xs ++ (List.range i).flatMap ds).length + (ds i).length ≤ 2 ^ 20 := by rw [List.length_append]; k_extra "mE lia"
    clear F1 N1 c1
    k_steps
    rename_i vs2 k2 h2 tk2 hs2 F3 N3
    refine turn_end [(u, listOf vs2.toArray k2)] F3 N3 (by k_mem) (by walk_at "mem all") (neCons huI neNil) ⟨Agree.set (Agree.over _) rfl, vs2, k2, rfl, ?_⟩
    rw [range_nextS, ← List.append_assoc]; exact hs2
  · intro q nx h tk gR54 F2 N2; k_extra "qD"; refine ex2_2 gR54 ?_; clear gR54; intro vs' k' eK; subst eK; intro hs'
    clear F1 N1
    k_steps
    rw [List.size_toArray, hlen] at hs'
    exact app_end S hk F2 N2 (.head _) hs'
end
example : Sep := by w_top off; first | walk1 | trivial
section
example : True := by
 k_with "mcall ref" => ((with_reducible refine (?_ : wpAny _ _ (call (.ref 302) _) _ _ _)); k_extra "mE app")
 exact trivial
variable {n : Nat}
theorem loc_loc {y : Str} {n : Nat} {ys : List Str} (hL : LocOk w (.sym y) ys n) : LocOk w (T.loc y).tr (y :: ys) (n + 1) := by
  intro g u v O ht hgu A s vs k xs hg r hu hs hz
  obtain ⟨ps, hps⟩ : ∃ ps : List Tr, ps = [.sym y] := ⟨_, rfl⟩
  have hLs : ∀ (i : Nat) t, ps[i]? = some t → LocOk w t ((fun _ => ys) i) n := fun i t e => by
    rw [hps] at e
    cases i with
    | zero => simp only [List.getElem?_cons_zero, Option.some.injEq] at e; subst e; exact hL
    | succ i => simp at e
  k_extra "qB"; refine TreeAt.ex_k ht ?_; clear ht; intro a t1 t2 c ws eK hT hB hts; subst eK; k_extra "qC"
  have hts' := hts
  k_extra "qB"; refine TreesAt.cons_k hts' ?_; clear hts'; intro _ _ eK gA1 gB1; subst eK; (first | refine TreeAt.sym_k gA1 ?_ | refine TreeAt.one_k gA1 ?_); clear gA1; intro e1 u3 u4 eK hE; subst eK; have eK := TreesAt.nil_k gB1; clear gB1; subst eK; k_extra "qC"
  replace hts : TreesAt g ps [.ref e1] := by rw [hps]; exact hts
  have hlen := TreesAt.length hts
  refine' enter [((Str.ofString "tree"), .ref a), ((Str.ofString "found"), .ref u)] (O.keeps hg) r ?k6 ?k7 ?k9 ?kB ?_ ?c1 ?c2 ?c3 ?c4 ?c5; k_extra "eN"
  refine start1_k F hg hgu hL' hu ?_; intro hb F N hgh _ hk
  have O' := O.keeps hgh
  have hub : hb.get? u = none := (N _ (.head _)).2.2
  have c1 : ∀ i t v, ps[i]? = some t → TreeAt hb t v → AppOk w hb u 302 [v, .ref u] ys (.ref u) n := fun i t v e h => hLs i t e hb u v O' h hub
  have hvl := StrsAre.length hs
  simp only [List.length_append, List.length_cons, List.length_nil] at hz
  have hvz : vs.length ≤ 2 ^ 24 := by k_extra "mE lia"
  replace hT := hT.keeps hgh
  replace hB := hB.keeps hgh
  replace hE := hE.keeps hgh
  replace hts := TreesAt.keeps hgh _ hts
  have X := OkH.X O'; have Tp := OkH.top O'
  k_steps
  rename Fr _ _ _ _ => F1
  rename News _ _ _ _ => N1
  refine iterTup [] (fun i nx => ∃ vs' k', nx = [(u, listOf vs'.toArray k')] ∧ StrsAre vs' ((xs ++ [y]) ++ (List.range i).flatMap fun _ => ys)) rfl r.hd ?_ hB F1 (News.sub (l := _) N1 (by walk_at "mem all")) ⟨_, _, rfl, by simpa using StrsAre.snoc hs y _⟩ ?_ ?_
  · exact Nat.ne_of_lt (Nat.lt_of_lt_of_le hB.lt F1.above)
  · intro i v q nx h tk I o hv hI hne gR55 F2 N2; k_extra "qD"; refine ex2_2 gR55 ?_; clear gR55; intro vs' k' eK; subst eK; intro hs'
    refine ex1_2 (treesAt_get hts i v (by simpa using hv)) ?_; intro t ht' hta
    have hi : i < ps.length := by
      rcases Nat.lt_or_ge i ps.length with h | h
      · exact h
      · rw [List.getElem?_eq_none h] at ht'; cases ht'
    have c2 := c1 i t v ht' hta
    have huI : @Ne Nat u I := hne _ (.head _)
    have hz2 := len_nextS (fun _ => ys) hi
    have hz3 : ((xs ++ [y]) ++ (List.range i).flatMap fun _ => ys).length + (ys).length ≤ 2 ^ 20 := by rw [hps] at hz2; simp only [List.length_append, List.length_cons, List.length_nil, List.range_succ, List.range_zero, List.nil_append, List.flatMap_cons, List.flatMap_nil, List.append_nil] at hz2 ⊢; k_extra "mE lia"
    clear F1 N1 c1
    k_steps
    rename_i vs2 k2 h2 tk2 hs2 F3 N3
    refine turn_end [(u, listOf vs2.toArray k2)] F3 N3 (by k_mem) (by walk_at "mem all") (neCons huI neNil) ⟨Agree.set (Agree.over _) rfl, vs2, k2, rfl, ?_⟩
    rw [range_nextS, ← List.append_assoc]; exact hs2
  · intro q nx h tk gR56 F2 N2; k_extra "qD"; refine ex2_2 gR56 ?_; clear gR56; intro vs' k' eK; subst eK; intro hs'
    clear F1 N1
    k_steps
    rw [List.size_toArray, hlen, hps] at hs'
    exact app_end S hk F2 N2 (.head _) (by simpa [List.range_succ] using hs')
theorem loc_locs {y : Str} {z : T} {n : Nat} {ys : List Str} (hL : LocOk w (T.set y z).tr ys n) : LocOk w (T.locs y z).tr (y :: ys) (n + 1) := by
  intro g u v O ht hgu A s vs k xs hg r hu hs hz
  obtain ⟨ps, hps⟩ : ∃ ps : List Tr, ps = [(T.set y z).tr] := ⟨_, rfl⟩
  have hLs : ∀ (i : Nat) t, ps[i]? = some t → LocOk w t ((fun _ => ys) i) n := fun i t e => by
    rw [hps] at e
    cases i with
    | zero => simp only [List.getElem?_cons_zero, Option.some.injEq] at e; subst e; exact hL
    | succ i => simp at e
  k_extra "qB"; refine TreeAt.ex_k ht ?_; clear ht; intro a t1 t2 c ws eK hT hB hts; subst eK; k_extra "qC"
  have hts' := hts
  k_extra "qB"; refine TreesAt.cons_k hts' ?_; clear hts'; intro _ _ eK gA1 gB1; subst eK; refine TreeAt.ex_k gA1 ?_; clear gA1; intro e1 u3 u4 f1 ws2 eK hE hF gT2; subst eK; refine TreesAt.cons_k gT2 ?_; clear gT2; intro v3 r3 eK gA3 _; subst eK; (first | refine TreeAt.sym_k gA3 ?_ | refine TreeAt.one_k gA3 ?_); clear gA3; intro e2 u5 u6 eK hG; subst eK; have eK := TreesAt.nil_k gB1; clear gB1; subst eK; k_extra "qC"
  replace hts : TreesAt g ps [.ref e1] := by rw [hps]; exact hts
  have hlen := TreesAt.length hts
  refine' enter [((Str.ofString "tree"), .ref a), ((Str.ofString "found"), .ref u)] (O.keeps hg) r ?k6 ?k7 ?k9 ?kB ?_ ?c1 ?c2 ?c3 ?c4 ?c5; k_extra "eN"
  refine start1_k F hg hgu hL' hu ?_; intro hb F N hgh _ hk
  have O' := O.keeps hgh
  have hub : hb.get? u = none := (N _ (.head _)).2.2
  have c1 : ∀ i t v, ps[i]? = some t → TreeAt hb t v → AppOk w hb u 302 [v, .ref u] ys (.ref u) n := fun i t v e h => hLs i t e hb u v O' h hub
  have hvl := StrsAre.length hs
  simp only [List.length_append, List.length_cons, List.length_nil] at hz
  have hvz : vs.length ≤ 2 ^ 24 := by k_extra "mE lia"
  replace hT := hT.keeps hgh
  replace hB := hB.keeps hgh
  replace hE := hE.keeps hgh
  replace hF := hF.keeps hgh
  replace hG := hG.keeps hgh
  replace hts := TreesAt.keeps hgh _ hts
  have X := OkH.X O'; have Tp := OkH.top O'
  k_steps
  rename Fr _ _ _ _ => F1
  rename News _ _ _ _ => N1
  refine iterTup [] (fun i nx => ∃ vs' k', nx = [(u, listOf vs'.toArray k')] ∧ StrsAre vs' ((xs ++ [y]) ++ (List.range i).flatMap fun _ => ys)) rfl r.hd ?_ hB F1 (News.sub (l := _) N1 (by walk_at "mem all")) ⟨_, _, rfl, by simpa using StrsAre.snoc hs y _⟩ ?_ ?_
  · exact Nat.ne_of_lt (Nat.lt_of_lt_of_le hB.lt F1.above)
  · intro i v q nx h tk I o hv hI hne gR57 F2 N2; k_extra "qD"; refine ex2_2 gR57 ?_; clear gR57; intro vs' k' eK; subst eK; intro hs'
    refine ex1_2 (treesAt_get hts i v (by simpa using hv)) ?_; intro t ht' hta
    have hi : i < ps.length := by
      rcases Nat.lt_or_ge i ps.length with h | h
      · exact h
      · rw [List.getElem?_eq_none h] at ht'; cases ht'
    have c2 := c1 i t v ht' hta
    have huI : @Ne Nat u I := hne _ (.head _)
    have hz2 := len_nextS (fun _ => ys) hi
    have hz3 : ((xs ++ [y]) ++ (List.range i).flatMap fun _ => ys).length + (ys).length ≤ 2 ^ 20 := by rw [hps] at hz2; simp only [List.length_append, List.length_cons, List.length_nil, List.range_succ, List.range_zero, List.nil_append, List.flatMap_cons, List.flatMap_nil, List.append_nil] at hz2 ⊢; k_extra "mE lia"
    clear F1 N1 c1
    k_steps
    rename_i vs2 k2 h2 tk2 hs2 F3 N3
    refine turn_end [(u, listOf vs2.toArray k2)] F3 N3 (by k_mem) (by walk_at "mem all") (neCons huI neNil) ⟨Agree.set (Agree.over _) rfl, vs2, k2, rfl, ?_⟩
    rw [range_nextS, ← List.append_assoc]; exact hs2
  · intro q nx h tk gR58 F2 N2; k_extra "qD"; refine ex2_2 gR58 ?_; clear gR58; intro vs' k' eK; subst eK; intro hs'
    clear F1 N1
    k_steps
    rw [List.size_toArray, hlen, hps] at hs'
    exact app_end S hk F2 N2 (.head _) (by simpa [List.range_succ] using hs')
theorem loc_for {y : Str} {p q : T} {n : Nat} {ys : List Str} (hL : LocOk w p.tr ys n) : LocOk w (T.fr y p q).tr ys (n + 1) := by
  intro g u v O ht hgu A s vs k xs hg r hu hs hz
  k_extra "qB"; (first | (refine TreeAt.e2R ht ?_; clear ht; intro t1 t2 b v' v4 hT hB gA1 h4) | (refine TreeAt.e2_k ht ?_; clear ht; intro a t1 t2 b v' v4 eK hT hB gA1 h4; subst eK)); (first | (refine TreeAt.e2R gA1 ?_; clear gA1; intro u3 u4 d v3 v6 hC hD hx h6) | (refine TreeAt.e2_k gA1 ?_; clear gA1; intro c u3 u4 d v3 v6 eK hC hD hx h6; subst eK)); k_extra "qC"
  refine' enter [((Str.ofString "tree"), .ref a), ((Str.ofString "found"), .ref u)] (O.keeps hg) r ?k6 ?k7 ?k9 ?kB ?_ ?c1 ?c2 ?c3 ?c4 ?c5; k_extra "eN"
  refine start1_k F hg hgu hL' hu ?_; intro hb F N hgh _ hk
  have O' := O.keeps hgh
  have hub : hb.get? u = none := (N _ (.head _)).2.2
  have c1 := hL hb u v6 O' (TreeAt.keeps hgh _ h6) hub
  replace hT := hT.keeps hgh
  replace hB := hB.keeps hgh
  replace hC := hC.keeps hgh
  replace hD := hD.keeps hgh
  have X := OkH.X O'; have Tp := OkH.top O'
  k_steps
  exact app_end S hk (by assumption) (by assumption) (by k_mem) (by assumption)
theorem loc_whl {p q : T} {n : Nat} {ys : List Str} (hL : LocOk w p.tr ys n) : LocOk w (T.whl p q).tr ys (n + 1) := by
  intro g u v O ht hgu A s vs k xs hg r hu hs hz
  k_extra "qB"; (first | (refine TreeAt.e2R ht ?_; clear ht; intro t1 t2 b v' v4 hT hB h6 h4) | (refine TreeAt.e2_k ht ?_; clear ht; intro a t1 t2 b v' v4 eK hT hB h6 h4; subst eK)); k_extra "qC"
  refine' enter [((Str.ofString "tree"), .ref a), ((Str.ofString "found"), .ref u)] (O.keeps hg) r ?k6 ?k7 ?k9 ?kB ?_ ?c1 ?c2 ?c3 ?c4 ?c5; k_extra "eN"
  refine start1_k F hg hgu hL' hu ?_; intro hb F N hgh _ hk
  have O' := O.keeps hgh
  have hub : hb.get? u = none := (N _ (.head _)).2.2
  have c1 := hL hb u v' O' (TreeAt.keeps hgh _ h6) hub
  replace hT := hT.keeps hgh
  replace hB := hB.keeps hgh
  have X := OkH.X O'; have Tp := OkH.top O'
  k_steps
  rename Fr _ _ _ _ => F1
  rename News _ _ _ _ => N1
  rename_i D1 _ ne1
  have hDu : @Ne Nat D1 u := NeAll.at' ne1 (by k_mem)
  refine iterTupN [] (fun i nx => ∃ vs' k', nx = [(D1, tupObj [v']), (u, listOf vs'.toArray k')] ∧ StrsAre vs' (if i = 0 then xs else xs ++ ys)) rfl r.hd (.head _) ?_ F1 (News.sub (l := [(D1, tupObj [v']), (u, listOf vs.toArray k)]) N1 (by walk_at "mem all")) ⟨vs, k, rfl, hs⟩ ?_ ?_
  · intro i nx gR59; k_extra "qD"; refine ex2_2 gR59 ?_; clear gR59; intro vs' k' eK; subst eK; intro _; exact .head _
  · intro i v2 q nx h tk I o hv hI hne gR60 F2 N2; k_extra "qD"; refine ex2_2 gR60 ?_; clear gR60; intro vs' k' eK; subst eK; intro hs'
    have hDI : @Ne Nat D1 I := hne _ (.head _)
    have huI : @Ne Nat u I := hne _ (.tail _ (.head _))
    rcases i with _ | i
    · simp only [List.getElem?_cons_zero, Option.some.injEq] at hv
      subst hv
      replace hs' : StrsAre vs' xs := hs'
      clear F1 N1
      k_steps
      rename_i vs2 k2 h2 tk2 hs2 F3 N3
      exact turn_end [(D1, tupObj [_]), (u, listOf vs2.toArray k2)] F3 N3 (by k_mem) (by walk_at "mem all") (neCons hDI (neCons huI neNil)) ⟨Agree.set (Agree.over _) rfl, vs2, k2, rfl, hs2⟩
    · simp at hv
  · intro q nx h tk gR61 F2 N2; k_extra "qD"; refine ex2_2 gR61 ?_; clear gR61; intro vs' k' eK; subst eK; intro hs'
    clear F1 N1
    replace hs' : StrsAre vs' (xs ++ ys) := hs'
    k_steps
    exact app_end S hk F2 N2 (.tail _ (.head _)) hs'
end
theorem LocOk.le {t : Tr} {ys : List Str} {n k : Nat} (h : LocOk w t ys n) (hk : n ≤ k) : LocOk w t ys k := fun g u v O ht hgu => (h g u v O ht hgu).le hk
theorem LocOk.eq {t : Tr} {ys zs : List Str} {n : Nat} (h : LocOk w t ys n) (e : ys = zs) : LocOk w t zs n := e ▸ h
section
theorem loc_two {ky : Str} {d e : List Str} {p q : Tr} {n : Nat} (hp : PlA ky) (h1 : LocOk w p d n) (h2 : LocOk w q e n) : LocOk w (.ex ky [p, q]) (d ++ e) (n + 1) := by
  refine (loc_plain (ps := [p, q]) (ds := fun i => if i = 0 then d else e) hp fun i t ht => ?_).eq ?_
  · rcases i with _ | _ | i
    · simp only [List.getElem?_cons_zero, Option.some.injEq] at ht; subst ht; exact h1
    · simp only [List.getElem?_cons_succ, List.getElem?_cons_zero, Option.some.injEq] at ht; subst ht; exact h2
    · simp at ht
  · simp [List.range_succ]
theorem loc_ok : ∀ t : T, LocOk w t.tr t.locals (t.ht + 2) := by
  have pl0 : PlA (Str.ofString "=") := ⟨by decide, by decide, by decide, by decide⟩
  have pl1 : PlA (Str.ofString "block") := ⟨by decide, by decide, by decide, by decide⟩
  have pl2 : PlA (Str.ofString "if") := ⟨by decide, by decide, by decide, by decide⟩
  have pl3 : PlA (Str.ofString "+=") := ⟨by decide, by decide, by decide, by decide⟩
  have pl5 : PlA (Str.ofString ".") := ⟨by decide, by decide, by decide, by decide⟩
  intro t
  induction t with
  | sym x => exact (loc_leaf (t := .sym x) rfl).le (by simp [T.ht_e])
  | one => exact (loc_leaf (t := .one) rfl).le (by simp [T.ht_e])
  | quo x => exact (loc_stop (by decide)).le (by simp [T.ht_e])
  | loc x => exact (loc_loc (loc_leaf (t := .sym x) rfl)).le (by simp [T.ht_e])
  | dot x => exact (loc_two pl5 (loc_leaf (t := .sym x) rfl) (loc_leaf (t := .sym (Str.ofString "v")) rfl)).le (by simp [T.ht_e])
  | set x v ih => exact (loc_two pl0 ((loc_leaf (t := .sym x) rfl).le (k := v.ht + 2) (by k_extra "mE lia")) ih).le (by simp only [T.ht_e]; k_extra "mE lia")
  | up x v ih => exact (loc_two pl3 ((loc_leaf (t := .sym x) rfl).le (k := v.ht + 2) (by k_extra "mE lia")) ih).le (by simp only [T.ht_e]; k_extra "mE lia")
  | locs x v ih => exact (loc_locs ((loc_two pl0 ((loc_leaf (t := .sym x) rfl).le (k := v.ht + 2) (by k_extra "mE lia")) ih).le (k := v.ht + 3) (by k_extra "mE lia"))).le (by simp only [T.ht_e]; k_extra "mE lia")
  | fn z as v ih => exact (loc_stop (by decide)).le (by k_extra "mE lia")
  | arr as v ih => exact (loc_stop (by decide)).le (by k_extra "mE lia")
  | blk p q ihp ihq => exact (loc_two pl1 (ihp.le (k := max p.ht q.ht + 2) (by k_extra "mE lia")) (ihq.le (by k_extra "mE lia"))).le (by simp only [T.ht_e]; k_extra "mE lia")
  | ite p q ihp ihq => exact (loc_two pl2 (ihp.le (k := max p.ht q.ht + 2) (by k_extra "mE lia")) (ihq.le (by k_extra "mE lia"))).le (by simp only [T.ht_e]; k_extra "mE lia")
  | whl p q ihp ihq => exact (loc_whl ihp).le (by simp only [T.ht_e]; k_extra "mE lia")
  | lt x p q ihp ihq => exact (loc_stop (by decide)).le (by k_extra "mE lia")
  | fr x p q ihp ihq => exact (loc_for ihp).le (by simp only [T.ht_e]; k_extra "mE lia")
  | cmp p x q ihp ihq => exact (loc_stop (by decide)).le (by k_extra "mE lia")
end
example : Sep := by w_top off; first | walk1 | trivial
noncomputable def WalkF (w : World) (f : Addr) (t : Tr) (d : List Str → List Str) (z n : Nat) : Prop := ∀ (g : Heap) (u b : Addr) (v : Value) (bvs : List Value) (bn : Nat) (bo : List Str), OkH w g → TreeAt g t v → g.get? u = none → g.get? b = some (listOf bvs.toArray bn) → StrsAre bvs bo → bo.length + z ≤ 2 ^ 19 →
  AppOk w g u f [v, .ref b, .ref u] (d bo) .none n
theorem WalkF.le {f : Addr} {t : Tr} {d : List Str → List Str} {z n k : Nat} (h : WalkF w f t d z n) (hk : n ≤ k) : WalkF w f t d z k := fun g u b v bvs bn bo O ht hu hb hs hz => (h g u b v bvs bn bo O ht hu hb hs hz).le hk
theorem WalkF.leZ {f : Addr} {t : Tr} {d : List Str → List Str} {z y n : Nat} (h : WalkF w f t d z n) (hk : z ≤ y) : WalkF w f t d y n := fun g u b v bvs bn bo O ht hu hb hs hz => h g u b v bvs bn bo O ht hu hb hs (by k_extra "mE lia")
theorem WalkF.eq {f : Addr} {t : Tr} {d e : List Str → List Str} {z n : Nat} (h : WalkF w f t d z n) (e' : d = e) : WalkF w f t e z n := e' ▸ h
section
variable {A : Around} {s : Shared} {u f b : Addr} {v : Value} {bvs vs : List Value} {k n bn z : Nat} {xs bo : List Str} {t : Tr} {d : List Str → List Str} {Q E : Value → Shared → Prop} {h₀ : Heap} {L : Addr} {m : Str → Option Value} {news : List (Addr × Obj)} {g : Obj → List (Addr × Obj)}
theorem walk_u {E : Value → Shared → Prop} {bo : List Str} {A : Around} {s : Shared} {u f b : Addr} {v : Value} {bvs vs : List Value} {k n bn z : Nat} {xs : List Str} {t : Tr} {d : List Str → List Str} {Q : Value → Shared → Prop} {h₀ : Heap} {L : Addr} {m : Str → Option Value} {news : List (Addr × Obj)} {g : Obj → List (Addr × Obj)} (c : WalkF w f t d z n) (F : Fr h₀ L s.heap m) (N : News h₀ L s.heap news) (O : OkH w h₀) (r : Rm A n) (ht : TreeAt h₀ t v) (U : UpdF u (listOf vs.toArray k) news g) (hb : s.heap.get? b = some (listOf bvs.toArray bn)) (hsb : StrsAre bvs bo) (hbu : @Ne Nat b u) (hz' : bo.length + z ≤ 2 ^ 19)
    (hs : StrsAre vs xs) (hz : xs.length + (d bo).length ≤ 2 ^ 20)
    (kk : ∀ vs' k' h' tk, StrsAre vs' (xs ++ d bo) → Fr h₀ L h' m → News h₀ L h' (g (listOf vs'.toArray k')) → Q .none { s with heap := h', toks := tk }) : wpAny (model PR w) A (call (.ref f) [v, .ref b, .ref u]) Q E s := by
  have hu := N _ (UpdF.mem U)
  have le1 : Le h₀ (s.heap.hide u) := le_hide F.keep hu.2.2
  have c1 := c (s.heap.hide u) u b v bvs bn bo (O.keeps le1) (TreeAt.keeps le1 _ ht) (Heap.hide_self _ _) ((Heap.hide_ne _ hbu).trans hb) hsb hz'
  refine use1 (c1 A s vs k xs (fun _ _ e => Heap.of_hide e) r hu.1 hs hz) F N U fun v h' tk hQ9 F' N' => ?_
  refine ex0_2 hQ9 ?_; clear hQ9; intro e gN62; refine ex2_2 gN62 ?_; clear gN62; intro vs' k' ho hs'
  rw [e]; exact kk vs' k' h' tk hs' F' (N' _ ho)
theorem loc_u {E : Value → Shared → Prop} {A : Around} {s : Shared} {u : Addr} {v : Value} {vs : List Value} {k : Nat} {xs : List Str} {Q : Value → Shared → Prop} {h₀ : Heap} {L : Addr} {m : Str → Option Value} {news : List (Addr × Obj)} {g : Obj → List (Addr × Obj)} (t : T) (F : Fr h₀ L s.heap m) (N : News h₀ L s.heap news) (O : OkH w h₀) (r : Rm A (t.ht + 2)) (ht : TreeAt h₀ t.tr v) (U : UpdF u (listOf vs.toArray k) news g) (hs : StrsAre vs xs) (hz : xs.length + t.locals.length ≤ 2 ^ 20)
    (kk : ∀ vs' k' h' tk, StrsAre vs' (xs ++ t.locals) → vs'.length = xs.length + t.locals.length → Fr h₀ L h' m → News h₀ L h' (g (listOf vs'.toArray k')) → Q (.ref u) { s with heap := h', toks := tk }) : wpAny (model PR w) A (call (.ref 302) [v, .ref u]) Q E s :=
  app_u (loc_ok t h₀ u v O ht (N _ (UpdF.mem U)).2.2) F N r U hs hz fun vs' k' h' tk hs' => kk vs' k' h' tk hs' (by rw [StrsAre.length hs', List.length_append])
end
noncomputable def HeadsOut (s : Shared) (name : Str) (ps : List Value) (v : Value) (h' : Heap) : Prop := ∃ r l t n, v = .ref r ∧ h'.get? r = some (tupObj [.str name t, .ref l]) ∧ h'.get? l = some (listOf ps.toArray n) ∧ s.heap.get? r = none ∧ s.heap.get? l = none
theorem heads_end {x : Str} {s s₂ : Shared} {L r l : Addr} {m : Str → Option Value} {news : List (Addr × Obj)} {t : Tok} {ps : List Value} {n : Nat} (S : Same s s₂) (F : Fr s.heap L s₂.heap m) (N : News s.heap L s₂.heap news) (h1 : (r, tupObj [.str x t, .ref l]) ∈ news) (h2 : (l, listOf ps.toArray n) ∈ news) :
    Post s nil (HeadsOut s x ps) (.ref r) s₂ := post_end S F ⟨r, l, t, n, rfl, (N _ h1).1, (N _ h2).1, (N _ h1).2.2, (N _ h2).2.2⟩
section
variable {A : Around} {s : Shared} {a b c d e : Addr} {t1 t2 t3 t4 t5 t6 : Tok} {x : Str} {v2 : Value} {ps : List Value}
theorem heads_f (O : OkH w s.heap) (r : Rm A 1) (hA : IsTup s.heap a (List.toArray [.str (Str.ofString "expr") t1, .str (Str.ofString "function") t2, .ref b])) (hB : IsTup s.heap b (List.toArray [.ref c, v2]))
    (hC : IsTup s.heap c (List.toArray [.str (Str.ofString "expr") t3, .str (Str.ofString "call") t4, .ref d]))
    (hD : IsTup s.heap d (List.toArray (.ref e :: ps))) (hE : IsTup s.heap e (List.toArray [.str (Str.ofString "sym") t5, .str x t6])) (hz : ps.length ≤ 100) :
    Calls w A s 316 [.ref a] nil (HeadsOut s x ps) := by
  refine' enter [((Str.ofString "tree"), .ref a)] O r ?k6 ?k7 ?k9 ?kB ?_ ?c1 ?c2 ?c3 ?c4 ?c5; k_extra "eN"
  have N : News s.heap L' s₁.heap [] := News.nil
  have X := OkH.X O; have Tp := OkH.top O
  k_steps
  exact heads_end S (by assumption) (by assumption) (by k_mem) (by k_mem)
theorem heads_a {A : Around} {s : Shared} {a b c d : Addr} {t1 t2 t3 t4 : Tok} {v2 : Value} {ps : List Value} (O : OkH w s.heap) (r : Rm A 1) (hA : IsTup s.heap a (List.toArray [.str (Str.ofString "expr") t1, .str (Str.ofString "->") t2, .ref b])) (hB : IsTup s.heap b (List.toArray [.ref c, v2]))
    (hC : IsTup s.heap c (List.toArray [.str (Str.ofString "expr") t3, .str (Str.ofString "tuple") t4, .ref d]))
    (hD : IsTup s.heap d ps.toArray) (hz : ps.length ≤ 100) :
    Calls w A s 316 [.ref a] nil (HeadsOut s (Str.ofString "") ps) := by
  refine' enter [((Str.ofString "tree"), .ref a)] O r ?k6 ?k7 ?k9 ?kB ?_ ?c1 ?c2 ?c3 ?c4 ?c5; k_extra "eN"
  have N : News s.heap L' s₁.heap [] := News.nil
  have X := OkH.X O; have Tp := OkH.top O
  k_steps
  exact heads_end S (by assumption) (by assumption) (by k_mem) (by k_mem)
end
section
variable {A : Around} {s : Shared} {a b c d e : Addr} {t1 t2 t3 t4 t5 t6 : Tok} {x : Str} {v2 : Value} {ps : List Value} {Q E : Value → Shared → Prop} {h₀ : Heap} {L : Addr} {m : Str → Option Value} {news : List (Addr × Obj)}
theorem heads_use {E : Value → Shared → Prop} {x : Str} {A : Around} {s : Shared} {a : Addr} {ps : List Value} {Q : Value → Shared → Prop} {h₀ : Heap} {L : Addr} {m : Str → Option Value} {news : List (Addr × Obj)} (c1 : Calls w A s 316 [.ref a] nil (HeadsOut s x ps)) (F : Fr h₀ L s.heap m) (N : News h₀ L s.heap news)
    (k : ∀ r l t n h' tk, NeAll r news → NeAll l news → Fr h₀ L h' m → News h₀ L h' ((r, tupObj [.str x t, .ref l]) :: (l, listOf ps.toArray n) :: news) → Q (.ref r) { s with heap := h', toks := tk }) : wpAny (model PR w) A (call (.ref 316) [.ref a]) Q E s := by
  refine use0 c1 F N fun v h' tk hQ9 le F' N' => ?_
  refine ex4_5 hQ9 ?_; clear hQ9; intro r l t n e h1 h2 o1 o2
  subst e
  exact k r l t n h' tk (News.neOf N o1) (News.neOf N o2) F' (News.cons F (News.cons F N' o2 h2) o1 h1)
theorem heads_u (F : Fr h₀ L s.heap m) (N : News h₀ L s.heap news) (O : OkH w h₀) (r : Rm A 1) (hA : IsTup h₀ a (List.toArray [.str (Str.ofString "expr") t1, .str (Str.ofString "function") t2, .ref b])) (hB : IsTup h₀ b (List.toArray [.ref c, v2]))
    (hC : IsTup h₀ c (List.toArray [.str (Str.ofString "expr") t3, .str (Str.ofString "call") t4, .ref d]))
    (hD : IsTup h₀ d (List.toArray (.ref e :: ps))) (hE : IsTup h₀ e (List.toArray [.str (Str.ofString "sym") t5, .str x t6])) (hz : ps.length ≤ 100)
    (k : ∀ r l t n h' tk, NeAll r news → NeAll l news → Fr h₀ L h' m → News h₀ L h' ((r, tupObj [.str x t, .ref l]) :: (l, listOf ps.toArray n) :: news) → Q (.ref r) { s with heap := h', toks := tk }) : wpAny (model PR w) A (call (.ref 316) [.ref a]) Q E s :=
  heads_use (heads_f (O.keeps F.keep) r (hA.keeps F.keep) (hB.keeps F.keep) (hC.keeps F.keep) (hD.keeps F.keep) (hE.keeps F.keep) hz) F N k
theorem heads_v {E : Value → Shared → Prop} {A : Around} {s : Shared} {a b c d : Addr} {t1 t2 t3 t4 : Tok} {v2 : Value} {ps : List Value} {Q : Value → Shared → Prop} {h₀ : Heap} {L : Addr} {m : Str → Option Value} {news : List (Addr × Obj)} (F : Fr h₀ L s.heap m) (N : News h₀ L s.heap news) (O : OkH w h₀) (r : Rm A 1) (hA : IsTup h₀ a (List.toArray [.str (Str.ofString "expr") t1, .str (Str.ofString "->") t2, .ref b])) (hB : IsTup h₀ b (List.toArray [.ref c, v2]))
    (hC : IsTup h₀ c (List.toArray [.str (Str.ofString "expr") t3, .str (Str.ofString "tuple") t4, .ref d]))
    (hD : IsTup h₀ d ps.toArray) (hz : ps.length ≤ 100)
    (k : ∀ r l t n h' tk, NeAll r news → NeAll l news → Fr h₀ L h' m → News h₀ L h' ((r, tupObj [.str (Str.ofString "") t, .ref l]) :: (l, listOf ps.toArray n) :: news) → Q (.ref r) { s with heap := h', toks := tk }) : wpAny (model PR w) A (call (.ref 316) [.ref a]) Q E s :=
  heads_use (heads_a (O.keeps F.keep) r (hA.keeps F.keep) (hB.keeps F.keep) (hC.keeps F.keep) (hD.keeps F.keep) hz) F N k
end
example : True := by
 k_with "mcall ref" => ((with_reducible refine (?_ : wpAny _ _ (call (.ref 316) _) _ _ _)); (refine' heads_u ?jf ?jn ?jo ?jr ?jx0 ?jx1 ?jx2 ?jx3 ?jx4 ?jx5 ?_; k_extra "mP4"; k_extra "mX5"; (case jx5 => k_extra "a")); intro _ _ _ _ _ _ _ _ _ _; k_extra "msw")
 k_with "mcall ref" => ((with_reducible refine (?_ : wpAny _ _ (call (.ref 316) _) _ _ _)); (refine' heads_v ?jf ?jn ?jo ?jr ?jx0 ?jx1 ?jx2 ?jx3 ?jx4 ?_; k_extra "mP4"; k_extra "mX5"); intro _ _ _ _ _ _ _ _ _ _; k_extra "msw")
 k_with "mE locu" => (k_dflt (refine' loc_u _ ?jf ?jn ?jo ?jr ?jht ?ju ?js ?jz ?_; k_extra "mP3"; (case jht => k_extra "a"); (case jr => k_extra "mE rm"); (case ju => k_updF); (case js => k_extra "man"); (case jz => k_extra "mol")); intro _ _ _ _ hs' hl' F' N'; (try dsimp only at N'); (try simp only [List.nil_append] at hs'); (try simp only [List.length_nil, Nat.zero_add] at hl'); revert hs' hl' F' N'; intro _ _ _ _; k_extra "msw")
 k_with "mE walku" => (k_dflt (refine' walk_u ?jc ?jf ?jn ?jo ?jr ?jht ?ju ?jb ?jsb ?jbu ?jz' ?js ?jz ?_; (case jc => k_extra "a"); k_extra "mP3"; (case jht => k_extra "a"); (case jr => k_extra "mE rm"); (case ju => k_updF); (case jb => k_extra "mgt"); (case jsb => first | assumption | exact .nil | exact StrsAre.append (by assumption) (by first | assumption | exact .cons _ _ .nil)); (case jbu => first | assumption | k_ne); (case js => first | assumption | exact .nil | exact StrsAre.snoc (by assumption) _ _); (case jz' => k_extra "mol"); (case jz => k_extra "mol")); intro _ _ _ _ hs' F' N'; (try dsimp only at N'); (try simp only [List.nil_append] at hs'); revert hs' F' N'; intro _ _ _; k_extra "msw")
 k_with "mcall ref" => ((with_reducible refine (?_ : wpAny _ _ (call (.ref 302) _) _ _ _)); k_extra "mE locu")
 k_with "mcall ref" => ((with_reducible refine (?_ : wpAny _ _ (call (.ref 309) _) _ _ _)); k_extra "mE walku")
 k_with "mcall ref" => ((with_reducible refine (?_ : wpAny _ _ (call (.ref 321) _) _ _ _)); k_extra "mE walku")
 k_with "mcall ref" => ((with_reducible refine (?_ : wpAny _ _ (call (.ref 328) _) _ _ _)); k_extra "mE walku")
 exact trivial
section
variable {n z : Nat}
theorem scope_w {n z : Nat} (t : T) (hW : WalkF w 328 t.tr t.walk z n) (hn : t.ht + 2 ≤ n) (hz0 : t.sz ≤ 2 ^ 18) : WalkF w 309 t.tr (fun bo => t.walk (bo ++ t.locals)) (z + t.sz) (n + 1) := by
  intro g u b v bvs bn bo O ht hgu hgb hsb hzb A s vs k xs hg r hu hs hz
  have hll := t.locals_len
  refine' enter [((Str.ofString "tree"), v), ((Str.ofString "borne"), .ref b), ((Str.ofString "unborne"), .ref u)] (O.keeps hg) r ?k6 ?k7 ?k9 ?kB ?_ ?c1 ?c2 ?c3 ?c4 ?c5; k_extra "eN"
  refine start1_k F hg hgu hL' hu ?_; intro hb F N hgh _ hk
  have O' := O.keeps hgh
  have hbu : @Ne Nat b u := fun e => by rw [show b = u from e, hgu] at hgb; cases hgb
  have hbb := hgh _ _ hgb
  have hbl := StrsAre.length hsb
  replace ht := TreeAt.keeps hgh _ ht
  have hbv : bvs.length ≤ 2 ^ 19 := by k_extra "mE lia"
  have X := OkH.X O'; have Tp := OkH.top O'
  k_steps
  exact app_end S hk (by assumption) (by assumption) (by k_mem) (by assumption)
end
example : Sep := by w_top off; first | walk1 | trivial
section
variable {n z : Nat}
theorem walk_sym (y : Str) : WalkF w 328 (.sym y) (sy y) 0 1 := by
  intro g u b v bvs bn bo O ht hgu hgb hsb hzb A s vs k xs hg r hu hs hz
  k_extra "qB"; (first | refine TreeAt.sym_k ht ?_ | refine TreeAt.one_k ht ?_); clear ht; intro a t1 t2 eK hT; subst eK; k_extra "qC"
  refine' enter [((Str.ofString "tree"), .ref a), ((Str.ofString "borne"), .ref b), ((Str.ofString "unborne"), .ref u)] (O.keeps hg) r ?k6 ?k7 ?k9 ?kB ?_ ?c1 ?c2 ?c3 ?c4 ?c5; k_extra "eN"
  refine start1_k F hg hgu hL' hu ?_; intro hb F N hgh _ hk
  have O' := O.keeps hgh
  have hbu : @Ne Nat b u := fun e => by rw [show b = u from e, hgu] at hgb; cases hgb
  have hub : hb.get? u = none := (N _ (.head _)).2.2
  have hbb := hgh _ _ hgb
  have hbi : hb.IsList b bvs.toArray := ⟨_, hbb, rfl, bn, rfl⟩
  have hbl := StrsAre.length hsb
  have hvl := StrsAre.length hs
  have hbv : bvs.length ≤ 2 ^ 19 := by k_extra "mE lia"
  have hvz : vs.length ≤ 2 ^ 24 := by k_extra "mE lia"
  replace hT := hT.keeps hgh
  have X := OkH.X O'; have Tp := OkH.top O'
  k_steps
  · rename List.any bo _ = true => e
    exact app_end S hk (by assumption) (by assumption) (by k_mem) (by rw [show sy y bo = [] from if_pos e, List.append_nil]; exact hs)
  · rename List.any bo _ = false => e
    exact app_end S hk (by assumption) (by assumption) (by k_mem) (by rw [show sy y bo = [y] from if_neg (by rw [e]; exact Bool.false_ne_true)]; exact StrsAre.snoc hs y _)
theorem walk_one : WalkF w 328 .one (fun _ => []) 0 1 := by
  intro g u b v bvs bn bo O ht hgu hgb hsb hzb A s vs k xs hg r hu hs hz
  k_extra "qB"; (first | refine TreeAt.sym_k ht ?_ | refine TreeAt.one_k ht ?_); clear ht; intro a t1 t2 eK hT; subst eK; k_extra "qC"
  refine' enter [((Str.ofString "tree"), .ref a), ((Str.ofString "borne"), .ref b), ((Str.ofString "unborne"), .ref u)] (O.keeps hg) r ?k6 ?k7 ?k9 ?kB ?_ ?c1 ?c2 ?c3 ?c4 ?c5; k_extra "eN"
  refine start1_k F hg hgu hL' hu ?_; intro hb F N hgh _ hk
  have O' := O.keeps hgh
  have hbu : @Ne Nat b u := fun e => by rw [show b = u from e, hgu] at hgb; cases hgb
  have hub : hb.get? u = none := (N _ (.head _)).2.2
  have hbb := hgh _ _ hgb
  have hbi : hb.IsList b bvs.toArray := ⟨_, hbb, rfl, bn, rfl⟩
  have hbl := StrsAre.length hsb
  have hvl := StrsAre.length hs
  have hbv : bvs.length ≤ 2 ^ 19 := by k_extra "mE lia"
  replace hT := hT.keeps hgh
  have X := OkH.X O'; have Tp := OkH.top O'
  k_steps
  exact app_end S hk (by assumption) (by assumption) (by k_mem) (by rw [List.append_nil]; exact hs)
theorem walk_quo (y : Str) : WalkF w 328 (T.quo y).tr (fun _ => []) 0 1 := by
  intro g u b v bvs bn bo O ht hgu hgb hsb hzb A s vs k xs hg r hu hs hz
  simp only [T.tr_e, TreeAt.e1, TreeAt.e2, TreeAt.e3] at ht
  refine ex5_3 ht ?_; clear ht; intro a t1 t2 c ws eK; subst eK; intro hT _
  refine' enter [((Str.ofString "tree"), .ref a), ((Str.ofString "borne"), .ref b), ((Str.ofString "unborne"), .ref u)] (O.keeps hg) r ?k6 ?k7 ?k9 ?kB ?_ ?c1 ?c2 ?c3 ?c4 ?c5; k_extra "eN"
  refine start1_k F hg hgu hL' hu ?_; intro hb F N hgh _ hk
  have O' := O.keeps hgh
  have hbu : @Ne Nat b u := fun e => by rw [show b = u from e, hgu] at hgb; cases hgb
  have hub : hb.get? u = none := (N _ (.head _)).2.2
  have hbb := hgh _ _ hgb
  have hbi : hb.IsList b bvs.toArray := ⟨_, hbb, rfl, bn, rfl⟩
  have hbl := StrsAre.length hsb
  have hvl := StrsAre.length hs
  have hbv : bvs.length ≤ 2 ^ 19 := by k_extra "mE lia"
  replace hT := hT.keeps hgh
  have X := OkH.X O'; have Tp := OkH.top O'
  k_steps
  exact app_end S hk (by assumption) (by assumption) (by k_mem) (by rw [List.append_nil]; exact hs)
theorem walk_whl {p q : T} {n z : Nat} {d e : List Str → List Str} (h1 : WalkF w 328 p.tr d z n) (h2 : WalkF w 309 q.tr e z n) : WalkF w 328 (T.whl p q).tr (fun bo => d bo ++ e bo) z (n + 1) := by
  intro g u b v bvs bn bo O ht hgu hgb hsb hzb A s vs k xs hg r hu hs hz
  k_extra "qB"; (first | (refine TreeAt.e2R ht ?_; clear ht; intro t1 t2 c v1 v2 hT hB hv1 hv2) | (refine TreeAt.e2_k ht ?_; clear ht; intro a t1 t2 c v1 v2 eK hT hB hv1 hv2; subst eK)); k_extra "qC"
  refine' enter [((Str.ofString "tree"), .ref a), ((Str.ofString "borne"), .ref b), ((Str.ofString "unborne"), .ref u)] (O.keeps hg) r ?k6 ?k7 ?k9 ?kB ?_ ?c1 ?c2 ?c3 ?c4 ?c5; k_extra "eN"
  refine start1_k F hg hgu hL' hu ?_; intro hb F N hgh _ hk
  have O' := O.keeps hgh
  have hbu : @Ne Nat b u := fun e => by rw [show b = u from e, hgu] at hgb; cases hgb
  have hub : hb.get? u = none := (N _ (.head _)).2.2
  have hbb := hgh _ _ hgb
  have hbi : hb.IsList b bvs.toArray := ⟨_, hbb, rfl, bn, rfl⟩
  have hbl := StrsAre.length hsb
  have hvl := StrsAre.length hs
  have hbv : bvs.length ≤ 2 ^ 19 := by k_extra "mE lia"
  replace hT := hT.keeps hgh
  replace hB := hB.keeps hgh
  replace hv1 := TreeAt.keeps hgh _ hv1
  replace hv2 := TreeAt.keeps hgh _ hv2
  simp only [List.length_append] at hz
  have X := OkH.X O'; have Tp := OkH.top O'
  k_steps
  exact app_end S hk (by assumption) (by assumption) (by k_mem) (by rw [← List.append_assoc]; assumption)
theorem walk_lt {y : Str} {p q : T} {n z : Nat} {d e : List Str → List Str} (h1 : WalkF w 328 p.tr d z n) (h2 : WalkF w 309 q.tr e z n) : WalkF w 328 (T.lt y p q).tr (fun bo => d bo ++ e (bo ++ [y])) (z + 1) (n + 1) := by
  intro g u b v bvs bn bo O ht hgu hgb hsb hzb A s vs k xs hg r hu hs hz
  k_extra "qB"; (first | (refine TreeAt.e2R ht ?_; clear ht; intro t1 t2 b1 v' v2 hT hB gA1 hv2) | (refine TreeAt.e2_k ht ?_; clear ht; intro a t1 t2 b1 v' v2 eK hT hB gA1 hv2; subst eK)); (first | (refine TreeAt.e1R gA1 ?_; clear gA1; intro u3 u4 d1 v3 hC hD gA2) | (refine TreeAt.e1_k gA1 ?_; clear gA1; intro c u3 u4 d1 v3 eK hC hD gA2; subst eK)); (first | (refine TreeAt.e2sR gA2 ?_; clear gA2; intro u5 u6 f1 g1 u7 u8 v1 hE hF hG hv1) | (refine TreeAt.e2s_k gA2 ?_; clear gA2; intro e1 u5 u6 f1 g1 u7 u8 v1 eK hE hF hG hv1; subst eK)); k_extra "qC"
  refine' enter [((Str.ofString "tree"), .ref a), ((Str.ofString "borne"), .ref b), ((Str.ofString "unborne"), .ref u)] (O.keeps hg) r ?k6 ?k7 ?k9 ?kB ?_ ?c1 ?c2 ?c3 ?c4 ?c5; k_extra "eN"
  refine start1_k F hg hgu hL' hu ?_; intro hb F N hgh _ hk
  have O' := O.keeps hgh
  have hbu : @Ne Nat b u := fun e => by rw [show b = u from e, hgu] at hgb; cases hgb
  have hub : hb.get? u = none := (N _ (.head _)).2.2
  have hbb := hgh _ _ hgb
  have hbi : hb.IsList b bvs.toArray := ⟨_, hbb, rfl, bn, rfl⟩
  have hbl := StrsAre.length hsb
  have hvl := StrsAre.length hs
  have hbv : bvs.length ≤ 2 ^ 19 := by k_extra "mE lia"
  replace hT := hT.keeps hgh
  replace hB := hB.keeps hgh
  replace hC := hC.keeps hgh
  replace hD := hD.keeps hgh
  replace hE := hE.keeps hgh
  replace hF := hF.keeps hgh
  replace hG := hG.keeps hgh
  replace hv1 := TreeAt.keeps hgh _ hv1
  replace hv2 := TreeAt.keeps hgh _ hv2
  simp only [List.length_append] at hz
  have X := OkH.X O'; have Tp := OkH.top O'
  k_steps
  exact app_end S hk (by assumption) (by assumption) (by k_mem) (by rw [← List.append_assoc]; assumption)
theorem walk_fr {y : Str} {p q : T} {n z : Nat} {d e : List Str → List Str} (h1 : WalkF w 328 p.tr d z n) (h2 : WalkF w 309 q.tr e z n) : WalkF w 328 (T.fr y p q).tr (fun bo => d bo ++ e (bo ++ [y])) (z + 1) (n + 1) := by
  intro g u b v bvs bn bo O ht hgu hgb hsb hzb A s vs k xs hg r hu hs hz
  k_extra "qB"; (first | (refine TreeAt.e2R ht ?_; clear ht; intro t1 t2 b1 v' v2 hT hB gA1 hv2) | (refine TreeAt.e2_k ht ?_; clear ht; intro a t1 t2 b1 v' v2 eK hT hB gA1 hv2; subst eK)); (first | (refine TreeAt.e2sR gA1 ?_; clear gA1; intro u3 u4 d1 g1 u5 u6 v1 hC hD hG hv1) | (refine TreeAt.e2s_k gA1 ?_; clear gA1; intro c u3 u4 d1 g1 u5 u6 v1 eK hC hD hG hv1; subst eK)); k_extra "qC"
  refine' enter [((Str.ofString "tree"), .ref a), ((Str.ofString "borne"), .ref b), ((Str.ofString "unborne"), .ref u)] (O.keeps hg) r ?k6 ?k7 ?k9 ?kB ?_ ?c1 ?c2 ?c3 ?c4 ?c5; k_extra "eN"
  refine start1_k F hg hgu hL' hu ?_; intro hb F N hgh _ hk
  have O' := O.keeps hgh
  have hbu : @Ne Nat b u := fun e => by rw [show b = u from e, hgu] at hgb; cases hgb
  have hub : hb.get? u = none := (N _ (.head _)).2.2
  have hbb := hgh _ _ hgb
  have hbi : hb.IsList b bvs.toArray := ⟨_, hbb, rfl, bn, rfl⟩
  have hbl := StrsAre.length hsb
  have hvl := StrsAre.length hs
  have hbv : bvs.length ≤ 2 ^ 19 := by k_extra "mE lia"
  replace hT := hT.keeps hgh
  replace hB := hB.keeps hgh
  replace hC := hC.keeps hgh
  replace hD := hD.keeps hgh
  replace hG := hG.keeps hgh
  replace hv1 := TreeAt.keeps hgh _ hv1
  replace hv2 := TreeAt.keeps hgh _ hv2
  simp only [List.length_append] at hz
  have X := OkH.X O'; have Tp := OkH.top O'
  k_steps
  exact app_end S hk (by assumption) (by assumption) (by k_mem) (by rw [← List.append_assoc]; assumption)
theorem walk_cmp {y : Str} {p q : T} {n z : Nat} {d e : List Str → List Str} (h1 : WalkF w 328 p.tr d z n) (h2 : WalkF w 309 q.tr e z n) : WalkF w 328 (T.cmp q y p).tr (fun bo => d bo ++ e (bo ++ [y])) (z + 1) (n + 1) := by
  intro g u b v bvs bn bo O ht hgu hgb hsb hzb A s vs k xs hg r hu hs hz
  k_extra "qB"; (first | (refine TreeAt.e2R ht ?_; clear ht; intro t1 t2 b1 v2 v4 hT hB hv2 gA1) | (refine TreeAt.e2_k ht ?_; clear ht; intro a t1 t2 b1 v2 v4 eK hT hB hv2 gA1; subst eK)); (first | (refine TreeAt.e2sR gA1 ?_; clear gA1; intro u3 u4 d1 g1 u5 u6 v1 hC hD hG hv1) | (refine TreeAt.e2s_k gA1 ?_; clear gA1; intro c u3 u4 d1 g1 u5 u6 v1 eK hC hD hG hv1; subst eK)); k_extra "qC"
  refine' enter [((Str.ofString "tree"), .ref a), ((Str.ofString "borne"), .ref b), ((Str.ofString "unborne"), .ref u)] (O.keeps hg) r ?k6 ?k7 ?k9 ?kB ?_ ?c1 ?c2 ?c3 ?c4 ?c5; k_extra "eN"
  refine start1_k F hg hgu hL' hu ?_; intro hb F N hgh _ hk
  have O' := O.keeps hgh
  have hbu : @Ne Nat b u := fun e => by rw [show b = u from e, hgu] at hgb; cases hgb
  have hub : hb.get? u = none := (N _ (.head _)).2.2
  have hbb := hgh _ _ hgb
  have hbi : hb.IsList b bvs.toArray := ⟨_, hbb, rfl, bn, rfl⟩
  have hbl := StrsAre.length hsb
  have hvl := StrsAre.length hs
  have hbv : bvs.length ≤ 2 ^ 19 := by k_extra "mE lia"
  replace hT := hT.keeps hgh
  replace hB := hB.keeps hgh
  replace hC := hC.keeps hgh
  replace hD := hD.keeps hgh
  replace hG := hG.keeps hgh
  replace hv1 := TreeAt.keeps hgh _ hv1
  replace hv2 := TreeAt.keeps hgh _ hv2
  simp only [List.length_append] at hz
  have X := OkH.X O'; have Tp := OkH.top O'
  k_steps
  exact app_end S hk (by assumption) (by assumption) (by k_mem) (by rw [← List.append_assoc]; assumption)
end
structure PlW (hd : Str) : Prop where
  qu : (hd == Str.ofString "quote") = false
  li : (([Str.ofString "function", Str.ofString "->"] : List Str).any fun x => x == hd) = false
  le : (hd == Str.ofString "let") = false
  fo : (hd == Str.ofString "for") = false
  co : (hd == Str.ofString "comprehension") = false
  wh : (hd == Str.ofString "while") = false
  dt : (hd == Str.ofString ".") = false
section
example : True := by
 k_with "mcall ref" => ((with_reducible refine (?_ : wpAny _ _ (call (.ref 328) _) _ _ _)); k_extra "mE app")
 exact trivial
variable {n z : Nat}
theorem walk_plain {ky : Str} {n z : Nat} {ps : List Tr} {ds : Nat → List Str → List Str} (hp : PlW ky) (hLs : ∀ i t, ps[i]? = some t → WalkF w 328 t (ds i) z n) : WalkF w 328 (.ex ky ps) (fun bo => (List.range ps.length).flatMap fun i => ds i bo) z (n + 1) := by
  intro g u b v bvs bn bo O ht hgu hgb hsb hzb A s vs k xs hg r hu hs hz
  k_extra "qB"; refine TreeAt.ex_k ht ?_; clear ht; intro a t1 t2 c ws eK hT hB hts; subst eK; k_extra "qC"
  k_extra "qB"; obtain ⟨p1, p2, p3, p4, p5, p6, p7⟩ := hp; k_extra "qC"
  have hlen := TreesAt.length hts
  refine' enter [((Str.ofString "tree"), .ref a), ((Str.ofString "borne"), .ref b), ((Str.ofString "unborne"), .ref u)] (O.keeps hg) r ?k6 ?k7 ?k9 ?kB ?_ ?c1 ?c2 ?c3 ?c4 ?c5; k_extra "eN"
  refine start1_k F hg hgu hL' hu ?_; intro hb F N hgh _ hk
  have O' := O.keeps hgh
  have hbu : @Ne Nat b u := fun e => by rw [show b = u from e, hgu] at hgb; cases hgb
  have hub : hb.get? u = none := (N _ (.head _)).2.2
  have hbb := hgh _ _ hgb
  have hbi : hb.IsList b bvs.toArray := ⟨_, hbb, rfl, bn, rfl⟩
  have hbl := StrsAre.length hsb
  have hvl := StrsAre.length hs
  have hbv : bvs.length ≤ 2 ^ 19 := by k_extra "mE lia"
  replace hz : xs.length + ((List.range ps.length).flatMap fun i => ds i bo).length ≤ 2 ^ 20 := hz
  have c1 : ∀ i t v, ps[i]? = some t → TreeAt hb t v → AppOk w hb u 328 [v, .ref b, .ref u] (ds i bo) .none n := fun i t v e h => hLs i t e hb u b v bvs bn bo O' h hub hbb hsb hzb
  replace hT := hT.keeps hgh
  replace hB := hB.keeps hgh
  replace hts := TreesAt.keeps hgh _ hts
  have X := OkH.X O'; have Tp := OkH.top O'
  k_steps
  rename Fr _ _ _ _ => F1
  rename News _ _ _ _ => N1
  refine iterTup [] (fun i nx => ∃ vs' k', nx = [(u, listOf vs'.toArray k')] ∧ StrsAre vs' (xs ++ (List.range i).flatMap fun i => ds i bo)) rfl r.hd ?_ hB F1 (News.sub (l := [(u, listOf vs.toArray k)]) N1 (by walk_at "mem all")) ⟨vs, k, rfl, by simpa using hs⟩ ?_ ?_
  · exact Nat.ne_of_lt (Nat.lt_of_lt_of_le hB.lt F1.above)
  · intro i v q nx h tk I o hv hI hne gR63 F2 N2; k_extra "qD"; refine ex2_2 gR63 ?_; clear gR63; intro vs' k' eK; subst eK; intro hs'
    refine ex1_2 (treesAt_get hts i v (by simpa using hv)) ?_; intro t ht' hta
    have hi : i < ps.length := by
      rcases Nat.lt_or_ge i ps.length with h | h
      · exact h
      · rw [List.getElem?_eq_none h] at ht'; cases ht'
    have c2 := c1 i t v ht' hta
    have huI : @Ne Nat u I := hne _ (.head _)
    have hz2 := len_nextS (fun i => ds i bo) hi
    have hz3 : (xs ++ (List.range i).flatMap fun i => ds i bo).length + (ds i bo).length ≤ 2 ^ 20 := by rw [List.length_append]; (try dsimp only at hz2); k_extra "mE lia"
    clear F1 N1 c1
    k_steps
    rename_i vs2 k2 h2 tk2 hs2 F3 N3
    refine turn_end [(u, listOf vs2.toArray k2)] F3 N3 (by k_mem) (by walk_at "mem all") (neCons huI neNil) ⟨Agree.set (Agree.over _) rfl, vs2, k2, rfl, ?_⟩
    rw [range_nextS, ← List.append_assoc]; exact hs2
  · intro q nx h tk gR64 F2 N2; k_extra "qD"; refine ex2_2 gR64 ?_; clear gR64; intro vs' k' eK; subst eK; intro hs'
    clear F1 N1
    k_steps
    rw [List.size_toArray, hlen] at hs'
    exact app_end S hk F2 N2 (.head _) hs'
theorem walk_dot {y : Str} : WalkF w 328 (T.dot y).tr (sy y) 0 2 := by
  intro g u b v bvs bn bo O ht hgu hgb hsb hzb A s vs k xs hg r hu hs hz
  simp only [T.tr_e] at ht
  k_extra "qB"; (first | (refine TreeAt.e2R ht ?_; clear ht; intro t1 t2 c v1 v2 hT hB hv1 hv2) | (refine TreeAt.e2_k ht ?_; clear ht; intro a t1 t2 c v1 v2 eK hT hB hv1 hv2; subst eK)); k_extra "qC"
  refine' enter [((Str.ofString "tree"), .ref a), ((Str.ofString "borne"), .ref b), ((Str.ofString "unborne"), .ref u)] (O.keeps hg) r ?k6 ?k7 ?k9 ?kB ?_ ?c1 ?c2 ?c3 ?c4 ?c5; k_extra "eN"
  refine start1_k F hg hgu hL' hu ?_; intro hb F N hgh _ hk
  have O' := O.keeps hgh
  have hbu : @Ne Nat b u := fun e => by rw [show b = u from e, hgu] at hgb; cases hgb
  have hub : hb.get? u = none := (N _ (.head _)).2.2
  have hbb := hgh _ _ hgb
  have hbi : hb.IsList b bvs.toArray := ⟨_, hbb, rfl, bn, rfl⟩
  have hbl := StrsAre.length hsb
  have hvl := StrsAre.length hs
  have hbv : bvs.length ≤ 2 ^ 19 := by k_extra "mE lia"
  have c1 := walk_sym y hb u b v1 bvs bn bo O' (TreeAt.keeps hgh _ hv1) hub hbb hsb hzb
  replace hT := hT.keeps hgh
  replace hB := hB.keeps hgh
  have X := OkH.X O'; have Tp := OkH.top O'
  k_steps
  rename Fr _ _ _ _ => F1
  rename News _ _ _ _ => N1
  rename_i D1 _ ne1
  have hDu : @Ne Nat D1 u := NeAll.at' ne1 (by k_mem)
  refine iterTupN [] (fun i nx => ∃ vs' k', nx = [(D1, tupObj [v1]), (u, listOf vs'.toArray k')] ∧ StrsAre vs' (if i = 0 then xs else xs ++ sy y bo)) rfl r.hd (.head _) ?_ F1 (News.sub (l := [(D1, tupObj [v1]), (u, listOf vs.toArray k)]) N1 (by walk_at "mem all")) ⟨vs, k, rfl, hs⟩ ?_ ?_
  · intro i nx gR65; k_extra "qD"; refine ex2_2 gR65 ?_; clear gR65; intro vs' k' eK; subst eK; intro _; exact .head _
  · intro i v2 q nx h tk I o hv hI hne gR66 F2 N2; k_extra "qD"; refine ex2_2 gR66 ?_; clear gR66; intro vs' k' eK; subst eK; intro hs'
    have hDI : @Ne Nat D1 I := hne _ (.head _)
    have huI : @Ne Nat u I := hne _ (.tail _ (.head _))
    rcases i with _ | i
    · simp only [List.getElem?_cons_zero, Option.some.injEq] at hv
      subst hv
      replace hs' : StrsAre vs' xs := hs'
      clear F1 N1
      k_steps
      rename_i vs2 k2 h2 tk2 hs2 F3 N3
      exact turn_end [(D1, tupObj [_]), (u, listOf vs2.toArray k2)] F3 N3 (by k_mem) (by walk_at "mem all") (neCons hDI (neCons huI neNil)) ⟨Agree.set (Agree.over _) rfl, vs2, k2, rfl, hs2⟩
    · simp at hv
  · intro q nx h tk gR67 F2 N2; k_extra "qD"; refine ex2_2 gR67 ?_; clear gR67; intro vs' k' eK; subst eK; intro hs'
    clear F1 N1
    replace hs' : StrsAre vs' (xs ++ sy y bo) := hs'
    k_steps
    exact app_end S hk F2 N2 (.tail _ (.head _)) hs'
end
example : Sep := by w_top off; first | walk1 | trivial
theorem args_get {as : List Ar} {h : Heap} {ps : List Value} (hps : TreesAt h (as.map Ar.tr) ps) (i : Nat) (v : Value) (hv : ps[i]? = some v) : ∃ ar, as[i]? = some ar ∧ TreeAt h ar.tr v := by
  refine ex1_2 (treesAt_get hps i v hv) ?_; intro t ht hta
  rw [List.getElem?_map] at ht
  cases q : as[i]? with
  | none => rw [q] at ht; cases ht
  | some ar => rw [q] at ht; simp only [Option.map_some, Option.some.injEq] at ht; subst ht; exact ⟨ar, rfl, hta⟩
theorem dfl_next {as : List Ar} {bo : List Str} {i : Nat} {a : Ar} (h : as[i]? = some a) : (dfl (as.take (i + 1))).flatMap (sy · bo) = (dfl (as.take i)).flatMap (sy · bo) ++ (match a.2 with | none => [] | some y => sy y bo) := by
  unfold dfl
  rw [List.take_add_one, h]
  rcases a with ⟨x, _ | y⟩ <;> simp
theorem dfl_len (as : List Ar) (bo : List Str) (i : Nat) : ((dfl (as.take i)).flatMap (sy · bo)).length ≤ ((dfl as).flatMap (sy · bo)).length := by
  have e : dfl as = dfl (as.take i) ++ dfl (as.drop i) := by unfold dfl; rw [← List.filterMap_append, List.take_append_drop]
  rw [e, List.flatMap_append, List.length_append]; k_extra "mE lia"
section
variable {n z : Nat}
theorem inside_f {y : Str} {as : List Ar} {t : T} {n z : Nat} {e : List Str → List Str} (ha : as.length ≤ 100) (hS : WalkF w 309 t.tr e z n) : WalkF w 321 (T.fn y as t).tr (fun bo => (dfl as).flatMap (sy · (bo ++ as.map (·.1))) ++ e (bo ++ as.map (·.1))) (z + as.length) (n + 3) := by
  intro g u b v bvs bn bo O ht hgu hgb hsb hzb A s vs k xs hg r hu hs hz
  k_extra "qB"; (first | (refine TreeAt.e2R ht ?_; clear ht; intro t1 t2 b1 v' v2 hT hB gA1 hv2) | (refine TreeAt.e2_k ht ?_; clear ht; intro a t1 t2 b1 v' v2 eK hT hB gA1 hv2; subst eK)); refine TreeAt.ex_k gA1 ?_; clear gA1; intro c u3 u4 d1 vs2 eK hC hD gT2; subst eK; refine TreesAt.cons_k gT2 ?_; clear gT2; intro v3 ps eK gA3 hps; subst eK; (first | refine TreeAt.sym_k gA3 ?_ | refine TreeAt.one_k gA3 ?_); clear gA3; intro e1 u5 u6 eK hE; subst eK; k_extra "qC"
  refine' enter [((Str.ofString "tree"), .ref a), ((Str.ofString "borne"), .ref b), ((Str.ofString "unborne"), .ref u)] (O.keeps hg) r ?k6 ?k7 ?k9 ?kB ?_ ?c1 ?c2 ?c3 ?c4 ?c5; k_extra "eN"
  refine start1_k F hg hgu hL' hu ?_; intro hb F N hgh _ hk
  have O' := O.keeps hgh
  have hbu : @Ne Nat b u := fun e => by rw [show b = u from e, hgu] at hgb; cases hgb
  have hub : hb.get? u = none := (N _ (.head _)).2.2
  have hbb := hgh _ _ hgb
  have hbl := StrsAre.length hsb
  have hvl := StrsAre.length hs
  have hbv : bvs.length ≤ 2 ^ 19 := by k_extra "mE lia"
  replace hz : xs.length + ((dfl as).flatMap (sy · (bo ++ as.map (·.1))) ++ e (bo ++ as.map (·.1))).length ≤ 2 ^ 20 := hz
  rw [List.length_append] at hz
  have hpl := TreesAt.length hps
  rw [List.length_map] at hpl
  have hpz : ps.length ≤ 100 := by k_extra "mE lia"
  replace hT := hT.keeps hgh
  replace hB := hB.keeps hgh
  replace hC := hC.keeps hgh
  replace hD := hD.keeps hgh
  replace hE := hE.keeps hgh
  replace hps := TreesAt.keeps hgh _ hps
  replace hv2 := TreeAt.keeps hgh _ hv2
  have X := OkH.X O'; have Tp := OkH.top O'
  k_steps
  rename Fr _ _ _ _ => F1
  rename News _ _ _ _ => N1
  rename_i rr ll tt nn _ _ ne1 ne2 _ _ g5
  have O1 := O'.keeps F1.keep
  have F1k := F1.keep
  refine comp_list0 (fun i ys _ => StrsAre ys ((as.take i).map fun a : Ar => a.1)) (fun _ _ _ _ h _ => h) r.hd (News.get N1 (by k_mem)) (by decide) rfl rfl (by rw [List.size_toArray]; k_extra "mE lia") .nil ?_ (asg_all F1 N1 ?_)
  · intro i2 w2 s₃ C m2 zs hid hv2' hlen hS F6 hfr hV
    refine ex1_2 (args_get hps i2 w2 (by simpa using hv2')) ?_; intro ar har hta
    first | rw [map_next har] at hGk | rw [map_next har]
    replace hta := TreeAt.keeps F1k _ hta
    have X5 := OkH.X O1; have T5 := OkH.top O1
    refine tests_nil ?_
    rw [if_pos rfl]
    have N6 : News g5 C s₃.heap [] := News.nil
    clear F1 N1 X Tp
    change Fr g5 C s₃.heap _ at F6
    rcases ar with ⟨x, _ | y2⟩
    · skip
      k_extra "qB"; (first | refine TreeAt.sym_k hta ?_ | refine TreeAt.one_k hta ?_); clear hta; intro a1 w1 w3 eK hTa; subst eK; k_extra "qC"
      k_steps
      exact ⟨⟨⟨rfl, rfl, rfl⟩, fun _ _ _ e => e⟩, StrsAre.snoc hV x _⟩
    · skip
      k_extra "qB"; (first | (refine TreeAt.e2sR hta ?_; clear hta; intro w1 w3 a2 a3 w4 w5 v6 hTa hTb hTc gA1) | (refine TreeAt.e2s_k hta ?_; clear hta; intro a1 w1 w3 a2 a3 w4 w5 v6 eK hTa hTb hTc gA1; subst eK)); (first | refine TreeAt.sym_k gA1 ?_ | refine TreeAt.one_k gA1 ?_); clear gA1; intro a4 w6 w7 eK hTd; subst eK; k_extra "qC"
      k_steps
      exact ⟨⟨⟨rfl, rfl, rfl⟩, fun _ _ _ e => e⟩, StrsAre.snoc hV x _⟩
  · intro D zs h5 tk5 nD hV hlen hneD F7 N7
    rw [List.size_toArray, hpl, List.take_length] at hV
    clear N1 F1
    k_steps
    rename Fr _ _ _ _ => F8
    have hll : ll ≠ L' := (N7 _ (.tail _ (.tail _ (.head _)))).2.1
    have hlg : h5.get? ll = some (listOf ps.toArray nn) := News.get N7 (by k_mem)
    have hml : (as.map fun a : Ar => a.1).length = as.length := List.length_map _
    have hzl := StrsAre.length hV
    refine iterList [] (fun i nx => ∃ vs' k', nx = [(u, listOf vs'.toArray k'), (D, listOf zs.toArray nD), (ll, listOf ps.toArray nn)] ∧ StrsAre vs' (xs ++ (dfl (as.take i)).flatMap (sy · (bo ++ as.map (·.1))))) rfl r.hd hll hlg ?_ F8 (News.sub (l := [(u, listOf vs.toArray k), (D, listOf zs.toArray nD), (ll, listOf ps.toArray nn)]) N7 (by walk_at "mem all")) ⟨vs, k, rfl, by simpa [dfl] using hs⟩ ?_ ?_
    · rintro i nx ⟨vs', k', rfl, _⟩; exact .inr (.tail _ (.tail _ (.head _)))
    · intro i v q nx h tk I o hv hI hne gR68 F2 N2; k_extra "qD"; refine ex2_2 gR68 ?_; clear gR68; intro vs' k' eK; subst eK; intro hs'
      refine ex1_2 (args_get hps i v (by simpa using hv)) ?_; intro ar har hta
      have huI : @Ne Nat u I := hne _ (.head _)
      have hDI : @Ne Nat D I := hne _ (.tail _ (.head _))
      have hlI : @Ne Nat ll I := hne _ (.tail _ (.tail _ (.head _)))
      have hDu : @Ne Nat D u := fun e => hneD.2.2.1 e.symm
      have hsum := dfl_len as (bo ++ as.map (·.1)) (i + 1)
      have hnext := dfl_next (bo := bo ++ as.map (·.1)) har
      rw [hnext, List.length_append] at hsum
      first | rw [hnext] at hGk | rw [hnext]
      clear F8 N7
      rcases ar with ⟨x, _ | y2⟩
      · skip
        k_extra "qB"; (first | refine TreeAt.sym_k hta ?_ | refine TreeAt.one_k hta ?_); clear hta; intro a1 w1 w3 eK hTa; subst eK; k_extra "qC"
        k_steps
        rename Fr _ _ _ _ => F3
        rename News _ _ _ _ => N3
        exact turn_end [(u, listOf vs'.toArray k'), (D, listOf zs.toArray nD), (ll, listOf ps.toArray nn)] F3 N3 (by k_mem) (by walk_at "mem all") (neCons huI (neCons hDI (neCons hlI neNil))) ⟨Agree.set (Agree.over _) rfl, vs', k', rfl, by rw [List.append_nil]; exact hs'⟩
      · skip
        k_extra "qB"; (first | (refine TreeAt.e2sR hta ?_; clear hta; intro w1 w3 a2 a3 w4 w5 v6 hTa hTb hTc hTd) | (refine TreeAt.e2s_k hta ?_; clear hta; intro a1 w1 w3 a2 a3 w4 w5 v6 eK hTa hTb hTc hTd; subst eK)); k_extra "qC"
        have hW := walk_sym y2
        dsimp only at hsum
        replace hTd : TreeAt hb (.sym y2) v6 := by simp only [TreeAt.e1, TreeAt.e2, TreeAt.e3]; exact hTd
        k_steps
        rename_i _ _ _ vs2 k2 h2 tk2 hs2 F3 N3
        refine turn_end [(u, listOf vs2.toArray k2), (D, listOf zs.toArray nD), (ll, listOf ps.toArray nn)] F3 N3 (by k_mem) (by walk_at "mem all") (neCons huI (neCons hDI (neCons hlI neNil))) ⟨Agree.set (Agree.over _) rfl, vs2, k2, rfl, ?_⟩
        rw [← List.append_assoc]; exact hs2
    · intro q nx h tk gR69 F2 N2; k_extra "qD"; refine ex2_2 gR69 ?_; clear gR69; intro vs' k' eK; subst eK; intro hs'
      have hDu : @Ne Nat D u := fun e => hneD.2.2.1 e.symm
      rw [List.size_toArray, hpl, List.take_length] at hs'
      have hs3 : (xs ++ (dfl as).flatMap (sy · (bo ++ as.map (·.1)))).length + (e (bo ++ as.map (·.1))).length ≤ 2 ^ 20 := by rw [List.length_append]; k_extra "mE lia"
      clear F8 N7
      k_steps
      exact app_end S hk (by assumption) (by assumption) (by k_mem) (by rw [← List.append_assoc]; assumption)
theorem inside_a {as : List Ar} {t : T} {n z : Nat} {e : List Str → List Str} (ha : as.length ≤ 100) (hS : WalkF w 309 t.tr e z n) : WalkF w 321 (T.arr as t).tr (fun bo => (dfl as).flatMap (sy · (bo ++ as.map (·.1))) ++ e (bo ++ as.map (·.1))) (z + as.length) (n + 3) := by
  intro g u b v bvs bn bo O ht hgu hgb hsb hzb A s vs k xs hg r hu hs hz
  k_extra "qB"; (first | (refine TreeAt.e2R ht ?_; clear ht; intro t1 t2 b1 v' v2 hT hB gA1 hv2) | (refine TreeAt.e2_k ht ?_; clear ht; intro a t1 t2 b1 v' v2 eK hT hB gA1 hv2; subst eK)); refine TreeAt.ex_k gA1 ?_; clear gA1; intro c u3 u4 d1 ps eK hC hD hps; subst eK; k_extra "qC"
  refine' enter [((Str.ofString "tree"), .ref a), ((Str.ofString "borne"), .ref b), ((Str.ofString "unborne"), .ref u)] (O.keeps hg) r ?k6 ?k7 ?k9 ?kB ?_ ?c1 ?c2 ?c3 ?c4 ?c5; k_extra "eN"
  refine start1_k F hg hgu hL' hu ?_; intro hb F N hgh _ hk
  have O' := O.keeps hgh
  have hbu : @Ne Nat b u := fun e => by rw [show b = u from e, hgu] at hgb; cases hgb
  have hub : hb.get? u = none := (N _ (.head _)).2.2
  have hbb := hgh _ _ hgb
  have hbl := StrsAre.length hsb
  have hvl := StrsAre.length hs
  have hbv : bvs.length ≤ 2 ^ 19 := by k_extra "mE lia"
  replace hz : xs.length + ((dfl as).flatMap (sy · (bo ++ as.map (·.1))) ++ e (bo ++ as.map (·.1))).length ≤ 2 ^ 20 := hz
  rw [List.length_append] at hz
  have hpl := TreesAt.length hps
  rw [List.length_map] at hpl
  have hpz : ps.length ≤ 100 := by k_extra "mE lia"
  replace hT := hT.keeps hgh
  replace hB := hB.keeps hgh
  replace hC := hC.keeps hgh
  replace hD := hD.keeps hgh
  replace hps := TreesAt.keeps hgh _ hps
  replace hv2 := TreeAt.keeps hgh _ hv2
  have X := OkH.X O'; have Tp := OkH.top O'
  k_steps
  rename Fr _ _ _ _ => F1
  rename News _ _ _ _ => N1
  rename_i rr ll tt nn _ _ ne1 ne2 _ _ g5
  have O1 := O'.keeps F1.keep
  have F1k := F1.keep
  refine comp_list0 (fun i ys _ => StrsAre ys ((as.take i).map fun a : Ar => a.1)) (fun _ _ _ _ h _ => h) r.hd (News.get N1 (by k_mem)) (by decide) rfl rfl (by rw [List.size_toArray]; k_extra "mE lia") .nil ?_ (asg_all F1 N1 ?_)
  · intro i2 w2 s₃ C m2 zs hid hv2' hlen hS F6 hfr hV
    refine ex1_2 (args_get hps i2 w2 (by simpa using hv2')) ?_; intro ar har hta
    first | rw [map_next har] at hGk | rw [map_next har]
    replace hta := TreeAt.keeps F1k _ hta
    have X5 := OkH.X O1; have T5 := OkH.top O1
    refine tests_nil ?_
    rw [if_pos rfl]
    have N6 : News g5 C s₃.heap [] := News.nil
    clear F1 N1 X Tp
    change Fr g5 C s₃.heap _ at F6
    rcases ar with ⟨x, _ | y2⟩
    · skip
      k_extra "qB"; (first | refine TreeAt.sym_k hta ?_ | refine TreeAt.one_k hta ?_); clear hta; intro a1 w1 w3 eK hTa; subst eK; k_extra "qC"
      k_steps
      exact ⟨⟨⟨rfl, rfl, rfl⟩, fun _ _ _ e => e⟩, StrsAre.snoc hV x _⟩
    · skip
      k_extra "qB"; (first | (refine TreeAt.e2sR hta ?_; clear hta; intro w1 w3 a2 a3 w4 w5 v6 hTa hTb hTc gA1) | (refine TreeAt.e2s_k hta ?_; clear hta; intro a1 w1 w3 a2 a3 w4 w5 v6 eK hTa hTb hTc gA1; subst eK)); (first | refine TreeAt.sym_k gA1 ?_ | refine TreeAt.one_k gA1 ?_); clear gA1; intro a4 w6 w7 eK hTd; subst eK; k_extra "qC"
      k_steps
      exact ⟨⟨⟨rfl, rfl, rfl⟩, fun _ _ _ e => e⟩, StrsAre.snoc hV x _⟩
  · intro D zs h5 tk5 nD hV hlen hneD F7 N7
    rw [List.size_toArray, hpl, List.take_length] at hV
    clear N1 F1
    k_steps
    rename Fr _ _ _ _ => F8
    have hll : ll ≠ L' := (N7 _ (.tail _ (.tail _ (.head _)))).2.1
    have hlg : h5.get? ll = some (listOf ps.toArray nn) := News.get N7 (by k_mem)
    have hml : (as.map fun a : Ar => a.1).length = as.length := List.length_map _
    have hzl := StrsAre.length hV
    refine iterList [] (fun i nx => ∃ vs' k', nx = [(u, listOf vs'.toArray k'), (D, listOf zs.toArray nD), (ll, listOf ps.toArray nn)] ∧ StrsAre vs' (xs ++ (dfl (as.take i)).flatMap (sy · (bo ++ as.map (·.1))))) rfl r.hd hll hlg ?_ F8 (News.sub (l := [(u, listOf vs.toArray k), (D, listOf zs.toArray nD), (ll, listOf ps.toArray nn)]) N7 (by walk_at "mem all")) ⟨vs, k, rfl, by simpa [dfl] using hs⟩ ?_ ?_
    · rintro i nx ⟨vs', k', rfl, _⟩; exact .inr (.tail _ (.tail _ (.head _)))
    · intro i v q nx h tk I o hv hI hne gR70 F2 N2; k_extra "qD"; refine ex2_2 gR70 ?_; clear gR70; intro vs' k' eK; subst eK; intro hs'
      refine ex1_2 (args_get hps i v (by simpa using hv)) ?_; intro ar har hta
      have huI : @Ne Nat u I := hne _ (.head _)
      have hDI : @Ne Nat D I := hne _ (.tail _ (.head _))
      have hlI : @Ne Nat ll I := hne _ (.tail _ (.tail _ (.head _)))
      have hDu : @Ne Nat D u := fun e => hneD.2.2.1 e.symm
      have hsum := dfl_len as (bo ++ as.map (·.1)) (i + 1)
      have hnext := dfl_next (bo := bo ++ as.map (·.1)) har
      rw [hnext, List.length_append] at hsum
      first | rw [hnext] at hGk | rw [hnext]
      clear F8 N7
      rcases ar with ⟨x, _ | y2⟩
      · skip
        k_extra "qB"; (first | refine TreeAt.sym_k hta ?_ | refine TreeAt.one_k hta ?_); clear hta; intro a1 w1 w3 eK hTa; subst eK; k_extra "qC"
        k_steps
        rename Fr _ _ _ _ => F3
        rename News _ _ _ _ => N3
        exact turn_end [(u, listOf vs'.toArray k'), (D, listOf zs.toArray nD), (ll, listOf ps.toArray nn)] F3 N3 (by k_mem) (by walk_at "mem all") (neCons huI (neCons hDI (neCons hlI neNil))) ⟨Agree.set (Agree.over _) rfl, vs', k', rfl, by rw [List.append_nil]; exact hs'⟩
      · skip
        k_extra "qB"; (first | (refine TreeAt.e2sR hta ?_; clear hta; intro w1 w3 a2 a3 w4 w5 v6 hTa hTb hTc hTd) | (refine TreeAt.e2s_k hta ?_; clear hta; intro a1 w1 w3 a2 a3 w4 w5 v6 eK hTa hTb hTc hTd; subst eK)); k_extra "qC"
        have hW := walk_sym y2
        dsimp only at hsum
        replace hTd : TreeAt hb (.sym y2) v6 := by simp only [TreeAt.e1, TreeAt.e2, TreeAt.e3]; exact hTd
        k_steps
        rename_i _ _ _ vs2 k2 h2 tk2 hs2 F3 N3
        refine turn_end [(u, listOf vs2.toArray k2), (D, listOf zs.toArray nD), (ll, listOf ps.toArray nn)] F3 N3 (by k_mem) (by walk_at "mem all") (neCons huI (neCons hDI (neCons hlI neNil))) ⟨Agree.set (Agree.over _) rfl, vs2, k2, rfl, ?_⟩
        rw [← List.append_assoc]; exact hs2
    · intro q nx h tk gR71 F2 N2; k_extra "qD"; refine ex2_2 gR71 ?_; clear gR71; intro vs' k' eK; subst eK; intro hs'
      have hDu : @Ne Nat D u := fun e => hneD.2.2.1 e.symm
      rw [List.size_toArray, hpl, List.take_length] at hs'
      have hs3 : (xs ++ (dfl as).flatMap (sy · (bo ++ as.map (·.1)))).length + (e (bo ++ as.map (·.1))).length ≤ 2 ^ 20 := by rw [List.length_append]; k_extra "mE lia"
      clear F8 N7
      k_steps
      exact app_end S hk (by assumption) (by assumption) (by k_mem) (by rw [← List.append_assoc]; assumption)
end
example : Sep := by w_top off; first | walk1 | trivial
theorem sub_N0 {E : Value → Shared → Prop} {value : Expr} {p : Pos} {A : Around} {s : Shared} {h₀ : Heap} {L a : Addr} {news : List (Addr × Obj)} {c : Nat} {x : Value} {l : List Value} {u : Tok} {Q : Value → Shared → Prop} (N : News h₀ L s.heap news) (hm : (a, tupObj (x :: l)) ∈ news) (h : Q x s) :
    wpAny (model PR w) A (subscriptTail value (.Constant (.int 0) c p) (.ref a) (.int 0 u)) Q E s := by
  have hT : IsTup s.heap a (List.toArray (x :: l)) := News.isTup N hm
  refine item_tupleT hT (by k_extra "mE lia") (by k_extra "mE lia") (j := 0) ?_ (by rfl) h (by with_unfolding_all rfl)
  simp [seqIndex?]
example : True := by
 k_with "mE sub" => refine sub_N0 (by assumption) (by k_mem) ?_
 exact trivial
section
variable {n z : Nat}
theorem walk_fn {y : Str} {as : List Ar} {t : T} {n z : Nat} {e : List Str → List Str} (hy : (y == Str.ofString "") = false) (ha : as.length ≤ 100) (hI : WalkF w 321 (T.fn y as t).tr e z n) : WalkF w 328 (T.fn y as t).tr (fun bo => sy y bo ++ e bo) z (n + 2) := by
  intro g u b v bvs bn bo O ht hgu hgb hsb hzb A s vs k xs hg r hu hs hz
  have ht0 := ht
  k_extra "qB"; (first | (refine TreeAt.e2R ht ?_; clear ht; intro t1 t2 b1 v' v2 hT hB gA1 hv2) | (refine TreeAt.e2_k ht ?_; clear ht; intro a t1 t2 b1 v' v2 eK hT hB gA1 hv2; subst eK)); refine TreeAt.ex_k gA1 ?_; clear gA1; intro c u3 u4 d1 vs2 eK hC hD gT2; subst eK; refine TreesAt.cons_k gT2 ?_; clear gT2; intro v3 ps eK gA3 hps; subst eK; (first | refine TreeAt.sym_k gA3 ?_ | refine TreeAt.one_k gA3 ?_); clear gA3; intro e1 u5 u6 eK hE; subst eK; k_extra "qC"
  refine' enter [((Str.ofString "tree"), .ref a), ((Str.ofString "borne"), .ref b), ((Str.ofString "unborne"), .ref u)] (O.keeps hg) r ?k6 ?k7 ?k9 ?kB ?_ ?c1 ?c2 ?c3 ?c4 ?c5; k_extra "eN"
  refine start1_k F hg hgu hL' hu ?_; intro hb F N hgh _ hk
  have O' := O.keeps hgh
  have hbu : @Ne Nat b u := fun e => by rw [show b = u from e, hgu] at hgb; cases hgb
  have hub : hb.get? u = none := (N _ (.head _)).2.2
  have hbb := hgh _ _ hgb
  have hbi : hb.IsList b bvs.toArray := ⟨_, hbb, rfl, bn, rfl⟩
  have hbl := StrsAre.length hsb
  have hvl := StrsAre.length hs
  have hbv : bvs.length ≤ 2 ^ 19 := by k_extra "mE lia"
  have hvz : vs.length ≤ 2 ^ 20 := by k_extra "mE lia"
  have hyy : (y != Str.ofString "") = true := by show (!(y == Str.ofString "")) = true; rw [hy]; rfl
  simp only [List.length_append] at hz
  have hpl := TreesAt.length hps
  rw [List.length_map] at hpl
  have hpz : ps.length ≤ 100 := by k_extra "mE lia"
  replace hT := hT.keeps hgh
  replace hB := hB.keeps hgh
  replace hC := hC.keeps hgh
  replace hD := hD.keeps hgh
  replace hE := hE.keeps hgh
  replace ht0 := TreeAt.keeps hgh _ ht0
  clear hps hv2
  have X := OkH.X O'; have Tp := OkH.top O'
  cases hq : bo.any (· == y) with
  | true =>
    have e0 : sy y bo = [] := if_pos hq
    rw [e0] at hz
    simp only [List.length_nil, Nat.zero_add] at hz
    k_steps
    exact app_end S hk (by assumption) (by assumption) (by k_mem) (by dsimp only; rw [e0]; assumption)
  | false =>
    have e0 : sy y bo = [y] := if_neg (by rw [hq]; exact Bool.false_ne_true)
    rw [e0] at hz
    simp only [List.length_cons, List.length_nil] at hz
    k_steps
    exact app_end S hk (by assumption) (by assumption) (by k_mem) (by dsimp only; rw [e0, ← List.append_assoc]; assumption)
theorem walk_arr {as : List Ar} {t : T} {n z : Nat} {e : List Str → List Str} (ha : as.length ≤ 100) (hI : WalkF w 321 (T.arr as t).tr e z n) : WalkF w 328 (T.arr as t).tr e z (n + 2) := by
  intro g u b v bvs bn bo O ht hgu hgb hsb hzb A s vs k xs hg r hu hs hz
  have ht0 := ht
  k_extra "qB"; (first | (refine TreeAt.e2R ht ?_; clear ht; intro t1 t2 b1 v' v2 hT hB gA1 hv2) | (refine TreeAt.e2_k ht ?_; clear ht; intro a t1 t2 b1 v' v2 eK hT hB gA1 hv2; subst eK)); refine TreeAt.ex_k gA1 ?_; clear gA1; intro c u3 u4 d1 ps eK hC hD hps; subst eK; k_extra "qC"
  refine' enter [((Str.ofString "tree"), .ref a), ((Str.ofString "borne"), .ref b), ((Str.ofString "unborne"), .ref u)] (O.keeps hg) r ?k6 ?k7 ?k9 ?kB ?_ ?c1 ?c2 ?c3 ?c4 ?c5; k_extra "eN"
  refine start1_k F hg hgu hL' hu ?_; intro hb F N hgh _ hk
  have O' := O.keeps hgh
  have hbu : @Ne Nat b u := fun e => by rw [show b = u from e, hgu] at hgb; cases hgb
  have hub : hb.get? u = none := (N _ (.head _)).2.2
  have hbb := hgh _ _ hgb
  have hbi : hb.IsList b bvs.toArray := ⟨_, hbb, rfl, bn, rfl⟩
  have hbl := StrsAre.length hsb
  have hvl := StrsAre.length hs
  have hbv : bvs.length ≤ 2 ^ 19 := by k_extra "mE lia"
  have hpl := TreesAt.length hps
  rw [List.length_map] at hpl
  have hpz : ps.length ≤ 100 := by k_extra "mE lia"
  replace hT := hT.keeps hgh
  replace hB := hB.keeps hgh
  replace hC := hC.keeps hgh
  replace hD := hD.keeps hgh
  replace ht0 := TreeAt.keeps hgh _ ht0
  clear hps hv2
  have X := OkH.X O'; have Tp := OkH.top O'
  k_steps
  exact app_end S hk (by assumption) (by assumption) (by k_mem) (by assumption)
end
theorem sy_flat_len (ys bo : List Str) : (ys.flatMap (sy · bo)).length ≤ ys.length := by
  induction ys with
  | nil => exact Nat.le_refl _
  | cons y r ih => rw [List.flatMap_cons, List.length_append, List.length_cons]; have := sy_len y bo; k_extra "mE lia"
theorem T.walk_len (t : T) : ∀ bo, (t.walk bo).length ≤ t.sz := by
  induction t with
  | sym x => intro bo; exact sy_len x bo
  | one => intro bo; simp [T.walk_e]
  | quo x => intro bo; simp [T.walk_e]
  | dot x => intro bo; have := sy_len x bo; simp only [T.walk_e, T.sz_e]; k_extra "mE lia"
  | loc x => intro bo; have := sy_len x bo; simp only [T.walk_e, T.sz_e]; k_extra "mE lia"
  | set x v ih => intro bo; have := sy_len x bo; have := ih bo; simp only [T.walk_e, T.sz_e, List.length_append]; k_extra "mE lia"
  | up x v ih => intro bo; have := sy_len x bo; have := ih bo; simp only [T.walk_e, T.sz_e, List.length_append]; k_extra "mE lia"
  | locs x v ih => intro bo; have := sy_len x bo; have := ih bo; simp only [T.walk_e, T.sz_e, List.length_append]; k_extra "mE lia"
  | blk p q ihp ihq => intro bo; have := ihp bo; have := ihq bo; simp only [T.walk_e, T.sz_e, List.length_append]; k_extra "mE lia"
  | ite p q ihp ihq => intro bo; have := ihp bo; have := ihq bo; simp only [T.walk_e, T.sz_e, List.length_append]; k_extra "mE lia"
  | whl p q ihp ihq => intro bo; have := ihp bo; have := ihq (bo ++ q.locals); simp only [T.walk_e, T.sz_e, List.length_append]; k_extra "mE lia"
  | lt x p q ihp ihq => intro bo; have := ihp bo; have := ihq ((bo ++ [x]) ++ q.locals); simp only [T.walk_e, T.sz_e, List.length_append] at *; k_extra "mE lia"
  | fr x p q ihp ihq => intro bo; have := ihp bo; have := ihq ((bo ++ [x]) ++ q.locals); simp only [T.walk_e, T.sz_e, List.length_append] at *; k_extra "mE lia"
  | cmp p x q ihp ihq => intro bo; have := ihq bo; have := ihp ((bo ++ [x]) ++ p.locals); simp only [T.walk_e, T.sz_e, List.length_append] at *; k_extra "mE lia"
  | fn z as b ih =>
    intro bo
    have h1 := sy_len z bo
    have h2 := sy_flat_len (dfl as) (bo ++ as.map (·.1))
    have h3 := ih ((bo ++ as.map (·.1)) ++ b.locals)
    have h4 : (dfl as).length ≤ as.length := List.length_filterMap_le _ _
    simp only [T.walk_e, T.sz_e, List.length_append (as := sy z bo), List.length_append (as := (dfl as).flatMap _)]; k_extra "mE lia"
  | arr as b ih =>
    intro bo
    have h2 := sy_flat_len (dfl as) (bo ++ as.map (·.1))
    have h3 := ih ((bo ++ as.map (·.1)) ++ b.locals)
    have h4 : (dfl as).length ≤ as.length := List.length_filterMap_le _ _
    simp only [T.walk_e, T.sz_e, List.length_append (as := (dfl as).flatMap _)]; k_extra "mE lia"
section
theorem walk_two {ky : Str} {p q : Tr} {d e : List Str → List Str} {z n : Nat} (hp : PlW ky) (h1 : WalkF w 328 p d z n) (h2 : WalkF w 328 q e z n) : WalkF w 328 (.ex ky [p, q]) (fun bo => d bo ++ e bo) z (n + 1) := by
  refine (walk_plain (ps := [p, q]) (ds := fun i => if i = 0 then d else e) hp fun i t ht => ?_).eq ?_
  · rcases i with _ | _ | i
    · simp only [List.getElem?_cons_zero, Option.some.injEq] at ht; subst ht; exact h1
    · simp only [List.getElem?_cons_succ, List.getElem?_cons_zero, Option.some.injEq] at ht; subst ht; exact h2
    · simp at ht
  · funext bo; simp [List.range_succ]
theorem walk_one1 {ky : Str} {p : Tr} {d : List Str → List Str} {z n : Nat} (hp : PlW ky) (h1 : WalkF w 328 p d z n) : WalkF w 328 (.ex ky [p]) d z (n + 1) := by
  refine (walk_plain (ps := [p]) (ds := fun _ => d) hp fun i t ht => ?_).eq ?_
  · rcases i with _ | i
    · simp only [List.getElem?_cons_zero, Option.some.injEq] at ht; subst ht; exact h1
    · simp at ht
  · funext bo; simp [List.range_succ]
theorem walk_ok : ∀ t : T, t.ok → t.sz ≤ 4096 → WalkF w 328 t.tr t.walk (4096 * (t.ht + 1)) (9 * t.ht + 10) := by
  have pl0 : PlW (Str.ofString "=") := ⟨by decide, by decide, by decide, by decide, by decide, by decide, by decide⟩
  have pl1 : PlW (Str.ofString "block") := ⟨by decide, by decide, by decide, by decide, by decide, by decide, by decide⟩
  have pl2 : PlW (Str.ofString "if") := ⟨by decide, by decide, by decide, by decide, by decide, by decide, by decide⟩
  have pl3 : PlW (Str.ofString "+=") := ⟨by decide, by decide, by decide, by decide, by decide, by decide, by decide⟩
  have pl4 : PlW (Str.ofString "local") := ⟨by decide, by decide, by decide, by decide, by decide, by decide, by decide⟩
  have sym : ∀ (x : Str) (z n : Nat), WalkF w 328 (T.sym x).tr (sy x) z (n + 1) := fun x z n => ((walk_sym x).leZ (Nat.zero_le _)).le (by k_extra "mE lia")
  intro t
  induction t with
  | sym x => intro _ _; exact sym x _ _
  | one => intro _ _; exact (walk_one.leZ (Nat.zero_le _)).le (by k_extra "mE lia")
  | quo x => intro _ _; exact ((walk_quo x).leZ (Nat.zero_le _)).le (by k_extra "mE lia")
  | dot x => intro _ _; exact (walk_dot.leZ (Nat.zero_le _)).le (by k_extra "mE lia")
  | loc x => intro _ _; exact (walk_one1 (n := 1) pl4 (sym x _ 0)).le (by k_extra "mE lia")
  | set x v ih =>
    intro ho hz
    simp only [T.sz_e] at hz
    exact (walk_two (n := 9 * v.ht + 10) pl0 (sym x _ _) ((ih ho (by k_extra "mE lia")).leZ (by simp only [T.ht_e]; k_extra "mE lia"))).le (by simp only [T.ht_e]; k_extra "mE lia")
  | up x v ih =>
    intro ho hz
    simp only [T.sz_e] at hz
    exact (walk_two (n := 9 * v.ht + 10) pl3 (sym x _ _) ((ih ho (by k_extra "mE lia")).leZ (by simp only [T.ht_e]; k_extra "mE lia"))).le (by simp only [T.ht_e]; k_extra "mE lia")
  | locs x v ih =>
    intro ho hz
    simp only [T.sz_e] at hz
    exact (walk_one1 pl4 (walk_two (n := 9 * v.ht + 10) pl0 (sym x _ _) ((ih ho (by k_extra "mE lia")).leZ (by simp only [T.ht_e]; k_extra "mE lia")))).le (by simp only [T.ht_e]; k_extra "mE lia")
  | fn y as v ih =>
    intro ho hz
    simp only [T.sz_e] at hz
    have h1 := scope_w (n := 9 * v.ht + 10) v (ih ho.2.2 (by k_extra "mE lia")) (by k_extra "mE lia") (by k_extra "mE lia")
    have h2 := inside_f (y := y) ho.2.1 h1
    exact ((walk_fn ho.1 ho.2.1 h2).le (by simp only [T.ht_e]; k_extra "mE lia")).leZ (by simp only [T.ht_e]; k_extra "mE lia")
  | arr as v ih =>
    intro ho hz
    simp only [T.sz_e] at hz
    have h1 := scope_w (n := 9 * v.ht + 10) v (ih ho.2 (by k_extra "mE lia")) (by k_extra "mE lia") (by k_extra "mE lia")
    have h2 := inside_a ho.1 h1
    exact ((walk_arr ho.1 h2).le (by simp only [T.ht_e]; k_extra "mE lia")).leZ (by simp only [T.ht_e]; k_extra "mE lia")
  | blk p q ihp ihq =>
    intro ho hz
    simp only [T.sz_e] at hz
    exact (walk_two (n := 9 * max p.ht q.ht + 10) pl1 (((ihp ho.1 (by k_extra "mE lia")).leZ (by simp only [T.ht_e]; k_extra "mE lia")).le (by k_extra "mE lia")) (((ihq ho.2 (by k_extra "mE lia")).leZ (by simp only [T.ht_e]; k_extra "mE lia")).le (by k_extra "mE lia"))).le (by simp only [T.ht_e]; k_extra "mE lia")
  | ite p q ihp ihq =>
    intro ho hz
    simp only [T.sz_e] at hz
    exact (walk_two (n := 9 * max p.ht q.ht + 10) pl2 (((ihp ho.1 (by k_extra "mE lia")).leZ (by simp only [T.ht_e]; k_extra "mE lia")).le (by k_extra "mE lia")) (((ihq ho.2 (by k_extra "mE lia")).leZ (by simp only [T.ht_e]; k_extra "mE lia")).le (by k_extra "mE lia"))).le (by simp only [T.ht_e]; k_extra "mE lia")
  | whl p q ihp ihq =>
    intro ho hz
    simp only [T.sz_e] at hz
    have h1 := scope_w (n := 9 * max p.ht q.ht + 10) q ((ihq ho.2 (by k_extra "mE lia")).le (by k_extra "mE lia")) (by k_extra "mE lia") (by k_extra "mE lia")
    exact (walk_whl (n := 9 * max p.ht q.ht + 11) (((ihp ho.1 (by k_extra "mE lia")).leZ (by simp only [T.ht_e]; k_extra "mE lia")).le (by k_extra "mE lia")) (h1.leZ (by simp only [T.ht_e]; k_extra "mE lia"))).le (by simp only [T.ht_e]; k_extra "mE lia")
  | lt x p q ihp ihq =>
    intro ho hz
    simp only [T.sz_e] at hz
    have h1 := scope_w (n := 9 * max p.ht q.ht + 10) q ((ihq ho.2 (by k_extra "mE lia")).le (by k_extra "mE lia")) (by k_extra "mE lia") (by k_extra "mE lia")
    exact ((walk_lt (y := x) (n := 9 * max p.ht q.ht + 11) (z := 4096 * (max p.ht q.ht + 2)) (((ihp ho.1 (by k_extra "mE lia")).leZ (by k_extra "mE lia")).le (by k_extra "mE lia")) (h1.leZ (by k_extra "mE lia"))).le (by simp only [T.ht_e]; k_extra "mE lia")).leZ (by simp only [T.ht_e]; k_extra "mE lia")
  | fr x p q ihp ihq =>
    intro ho hz
    simp only [T.sz_e] at hz
    have h1 := scope_w (n := 9 * max p.ht q.ht + 10) q ((ihq ho.2 (by k_extra "mE lia")).le (by k_extra "mE lia")) (by k_extra "mE lia") (by k_extra "mE lia")
    exact ((walk_fr (y := x) (n := 9 * max p.ht q.ht + 11) (z := 4096 * (max p.ht q.ht + 2)) (((ihp ho.1 (by k_extra "mE lia")).leZ (by k_extra "mE lia")).le (by k_extra "mE lia")) (h1.leZ (by k_extra "mE lia"))).le (by simp only [T.ht_e]; k_extra "mE lia")).leZ (by simp only [T.ht_e]; k_extra "mE lia")
  | cmp p x q ihp ihq =>
    intro ho hz
    simp only [T.sz_e] at hz
    have h1 := scope_w (n := 9 * max p.ht q.ht + 10) p ((ihp ho.1 (by k_extra "mE lia")).le (by k_extra "mE lia")) (by k_extra "mE lia") (by k_extra "mE lia")
    exact ((walk_cmp (y := x) (n := 9 * max p.ht q.ht + 11) (z := 4096 * (max p.ht q.ht + 2)) (((ihq ho.2 (by k_extra "mE lia")).leZ (by k_extra "mE lia")).le (by k_extra "mE lia")) (h1.leZ (by k_extra "mE lia"))).le (by simp only [T.ht_e]; k_extra "mE lia")).leZ (by simp only [T.ht_e]; k_extra "mE lia")
theorem inside_okf {y : Str} {as : List Ar} {b : T} (ho : (T.fn y as b).ok) (hz : (T.fn y as b).sz ≤ 4096) : WalkF w 321 (T.fn y as b).tr (inside as b) (4096 * (b.ht + 3)) (9 * b.ht + 20) := by
  simp only [T.sz_e] at hz
  have h1 := scope_w (n := 9 * b.ht + 10) b (walk_ok b ho.2.2 (by k_extra "mE lia")) (by k_extra "mE lia") (by k_extra "mE lia")
  exact ((inside_f (y := y) ho.2.1 h1).le (by k_extra "mE lia")).leZ (by k_extra "mE lia")
theorem inside_oka {as : List Ar} {b : T} (ho : (T.arr as b).ok) (hz : (T.arr as b).sz ≤ 4096) : WalkF w 321 (T.arr as b).tr (inside as b) (4096 * (b.ht + 3)) (9 * b.ht + 20) := by
  simp only [T.sz_e] at hz
  have h1 := scope_w (n := 9 * b.ht + 10) b (walk_ok b ho.2 (by k_extra "mE lia")) (by k_extra "mE lia") (by k_extra "mE lia")
  exact ((inside_a ho.1 h1).le (by k_extra "mE lia")).leZ (by k_extra "mE lia")
end
example : Sep := by w_top off; first | walk1 | trivial
noncomputable def FunAt (w : World) (g : Heap) (u : Addr) (v : Value) (fs : List T) (n : Nat) : Prop :=
  ∀ (A : Around) (s : Shared) (vs : List Value) (k : Nat), Le g s.heap → Rm A n → s.heap.get? u = some (listOf vs.toArray k) → vs.length + fs.length ≤ 2 ^ 20 →
    Calls w A s 347 [v, .ref u] (at1 u) (fun r h' => r = .ref u ∧ ∃ ws k', h'.get? u = some (listOf (List.toArray (vs ++ ws)) k') ∧ TreesAt g (fs.map T.tr) ws)
noncomputable def FunOk (w : World) (t : Tr) (fs : List T) (n : Nat) : Prop := ∀ (g : Heap) (u : Addr) (v : Value), OkH w g → TreeAt g t v → g.get? u = none → FunAt w g u v fs n
theorem FunOk.le {fs : List T} {t : Tr} {n k : Nat} (h : FunOk w t fs n) (hk : n ≤ k) : FunOk w t fs k := fun g u v O ht hu A s vs m hg r => h g u v O ht hu A s vs m hg (r.le hk)
theorem FunOk.eq {fs gs : List T} {t : Tr} {n : Nat} (h : FunOk w t fs n) (e : fs = gs) : FunOk w t gs n := e ▸ h
section
variable {A : Around} {s : Shared} {u : Addr} {v : Value} {vs : List Value} {k n : Nat} {fs : List T} {Q E : Value → Shared → Prop} {h₀ : Heap} {L : Addr} {m : Str → Option Value} {news : List (Addr × Obj)} {g : Obj → List (Addr × Obj)}
theorem fun_u {E : Value → Shared → Prop} {fs : List T} {A : Around} {s : Shared} {u : Addr} {v : Value} {vs : List Value} {k n : Nat} {Q : Value → Shared → Prop} {h₀ : Heap} {L : Addr} {m : Str → Option Value} {news : List (Addr × Obj)} {g : Obj → List (Addr × Obj)} {g0 : Heap} (c : FunAt w g0 u v fs n) (le : Le g0 h₀) (F : Fr h₀ L s.heap m) (N : News h₀ L s.heap news) (r : Rm A n) (U : UpdF u (listOf vs.toArray k) news g) (hz : vs.length + fs.length ≤ 2 ^ 20)
    (kk : ∀ ws k' h' tk, TreesAt g0 (fs.map T.tr) ws → Fr h₀ L h' m → News h₀ L h' (g (listOf (List.toArray (vs ++ ws)) k')) → Q (.ref u) { s with heap := h', toks := tk }) : wpAny (model PR w) A (call (.ref 347) [v, .ref u]) Q E s := by
  have hu := N _ (UpdF.mem U)
  refine use1 (c A s vs k (le.trans F.keep) r hu.1 hz) F N U fun v h' tk hQ9 F' N' => ?_
  refine ex0_2 hQ9 ?_; clear hQ9; intro e gN72; refine ex2_2 gN72 ?_; clear gN72; intro ws k' ho hw
  rw [e]; exact kk ws k' h' tk hw F' (N' _ ho)
theorem fun_end {fs : List T} {u : Addr} {k : Nat} {L : Addr} {s s₂ : Shared} {hb : Heap} {vs ws : List Value} {m : Str → Option Value} {g0 : Heap} {news : List (Addr × Obj)} (S : Same s s₂) (hk : ∀ b o, s.heap.get? b = some o → b ≠ u → hb.get? b = some o) (F : Fr hb L s₂.heap m) (N : News hb L s₂.heap news)
    (hm : (u, listOf (List.toArray (vs ++ ws)) k) ∈ news) (hs : TreesAt g0 (fs.map T.tr) ws) : Post s (at1 u) (fun r h' => r = .ref u ∧ ∃ ws k', h'.get? u = some (listOf (List.toArray (vs ++ ws)) k') ∧ TreesAt g0 (fs.map T.tr) ws) (.ref u) s₂ :=
  ⟨S, fun b o e hb => F.keep b o (hk b o e hb), rfl, ws, k, (N _ hm).1, hs⟩
end
theorem range_nextT (ds : Nat → List T) (i : Nat) : (List.range (i + 1)).flatMap ds = (List.range i).flatMap ds ++ ds i := by rw [List.range_succ, List.flatMap_append]; simp
theorem len_nextT (ds : Nat → List T) {i k : Nat} (h : i < k) : ((List.range i).flatMap ds).length + (ds i).length ≤ ((List.range k).flatMap ds).length := by
  have e : ((List.range i).flatMap ds).length + (ds i).length = ((List.range (i + 1)).flatMap ds).length := by rw [range_nextT, List.length_append]
  rw [e]
  obtain ⟨j, rfl⟩ : ∃ j, k = i + 1 + j := ⟨k - (i + 1), by k_extra "mE lia"⟩
  clear e h
  induction j with
  | zero => exact Nat.le_refl _
  | succ j ih => rw [show i + 1 + (j + 1) = (i + 1 + j) + 1 from by k_extra "mE lia", range_nextT ds (i + 1 + j), List.length_append]; k_extra "mE lia"
section
example : True := by
 k_with "mcall ref" => ((with_reducible refine (?_ : wpAny _ _ (call (.ref 347) _) _ _ _)); k_dflt (refine' fun_u ?jc ?jl ?jf ?jn ?jr ?ju ?jz ?_; (case jc => k_extra "a"); (case jl => k_extra "a"); k_extra "mP2"; (case jr => exact Rm.le (by assumption) (by first | decide | k_extra "mE lia")); (case ju => k_updF); (case jz => first | k_extra "mE lia" | (simp only [List.length_append, List.length_cons, List.length_nil]; k_extra "mE lia"))); intro _ _ _ _ _ _ N'; (try dsimp only at N'); revert N'; intro _; k_extra "msw")
 exact trivial
variable {n : Nat}
theorem fun_leaf {t : T} (hl : t.leaf = true) : FunOk w t.tr [] 1 := by
  intro g u v O ht hgu A s vs k hg r hu hz
  refine ex4_3 (T.leaf_at hl ht) ?_; intro a kd t1 v2 eK; subst eK; intro hT hkd
  have hkd2 : (kd != Str.ofString "expr") = true := by show (!(kd == Str.ofString "expr")) = true; rw [hkd]; rfl
  refine' enter [((Str.ofString "tree"), .ref a), ((Str.ofString "found"), .ref u)] (O.keeps hg) r ?k6 ?k7 ?k9 ?kB ?_ ?c1 ?c2 ?c3 ?c4 ?c5; k_extra "eN"
  refine start1_k F hg hgu hL' hu ?_; intro hb F N hgh _ hk
  have O' := O.keeps hgh
  replace hT := hT.keeps hgh
  have X := OkH.X O'; have Tp := OkH.top O'
  k_steps
  exact fun_end (fs := []) (ws := []) S hk (by assumption) (by assumption) (by rw [List.append_nil]; k_mem) (by simp only [List.map_nil, TreesAt.e1, TreesAt.e2])
theorem fun_quo {ps : List Tr} : FunOk w (.ex (Str.ofString "quote") ps) [] 1 := by
  intro g u v O ht hgu A s vs k hg r hu hz
  k_extra "qB"; refine TreeAt.ex_k ht ?_; clear ht; intro a t1 t2 c ws eK hT hB hts; subst eK; k_extra "qC"
  refine' enter [((Str.ofString "tree"), .ref a), ((Str.ofString "found"), .ref u)] (O.keeps hg) r ?k6 ?k7 ?k9 ?kB ?_ ?c1 ?c2 ?c3 ?c4 ?c5; k_extra "eN"
  refine start1_k F hg hgu hL' hu ?_; intro hb F N hgh _ hk
  have O' := O.keeps hgh
  replace hT := hT.keeps hgh
  have X := OkH.X O'; have Tp := OkH.top O'
  k_steps
  exact fun_end (fs := []) (ws := []) S hk (by assumption) (by assumption) (by rw [List.append_nil]; k_mem) (by simp only [List.map_nil, TreesAt.e1, TreesAt.e2])
theorem fun_plain {ky : Str} {n : Nat} {ps : List Tr} {ds : Nat → List T} (h1 : (ky == Str.ofString "quote") = false) (h2 : (([Str.ofString "function", Str.ofString "->"] : List Str).any fun x => x == ky) = false) (hLs : ∀ i t, ps[i]? = some t → FunOk w t (ds i) n) : FunOk w (.ex ky ps) ((List.range ps.length).flatMap ds) (n + 1) := by
  intro g u v O ht hgu A s vs k hg r hu hz
  k_extra "qB"; refine TreeAt.ex_k ht ?_; clear ht; intro a t1 t2 c ws eK hT hB hts; subst eK; k_extra "qC"
  have hlen := TreesAt.length hts
  refine' enter [((Str.ofString "tree"), .ref a), ((Str.ofString "found"), .ref u)] (O.keeps hg) r ?k6 ?k7 ?k9 ?kB ?_ ?c1 ?c2 ?c3 ?c4 ?c5; k_extra "eN"
  refine start1_k F hg hgu hL' hu ?_; intro hb F N hgh _ hk
  have O' := O.keeps hgh
  have c1 : ∀ i t v, ps[i]? = some t → TreeAt g t v → FunAt w g u v (ds i) n := fun i t v e h => hLs i t e g u v O h hgu
  replace hT := hT.keeps hgh
  replace hB := hB.keeps hgh
  have X := OkH.X O'; have Tp := OkH.top O'
  k_steps
  rename Fr _ _ _ _ => F1
  rename News _ _ _ _ => N1
  refine iterTup [] (fun i nx => ∃ ws' k', nx = [(u, listOf (List.toArray (vs ++ ws')) k')] ∧ TreesAt g (((List.range i).flatMap ds).map T.tr) ws') rfl r.hd ?_ hB F1 (News.sub (l := [(u, listOf (List.toArray (vs)) _)]) N1 (by walk_at "mem all")) ⟨[], _, by rw [List.append_nil], by simp only [List.range_zero, List.flatMap_nil, List.map_nil, TreesAt.e1, TreesAt.e2]⟩ ?_ ?_
  · exact Nat.ne_of_lt (Nat.lt_of_lt_of_le hB.lt F1.above)
  · intro i v q nx h tk I o hv hI hne gR73 F2 N2; k_extra "qD"; refine ex2_2 gR73 ?_; clear gR73; intro ws' k' eK; subst eK; intro hs'
    refine ex1_2 (treesAt_get hts i v (by simpa using hv)) ?_; intro t ht' hta
    have hi : i < ps.length := by
      rcases Nat.lt_or_ge i ps.length with h | h
      · exact h
      · rw [List.getElem?_eq_none h] at ht'; cases ht'
    have c2 := c1 i t v ht' hta
    have huI : @Ne Nat u I := hne _ (.head _)
    have hz2 := len_nextT ds hi
    have hwl := TreesAt.length hs'
    rw [List.length_map] at hwl
    have hz3 : (vs ++ ws').length + (ds i).length ≤ 2 ^ 20 := by rw [List.length_append]; k_extra "mE lia"
    clear F1 N1 c1
    k_steps
    rename_i ws2 k2 h2 tk2 hs2 F3 N3
    rw [List.append_assoc] at N3
    refine turn_end [(u, listOf (List.toArray (vs ++ (ws' ++ ws2))) k2)] F3 N3 (by k_mem) (by walk_at "mem all") (neCons huI neNil) ⟨Agree.set (Agree.over _) rfl, ws' ++ ws2, k2, rfl, ?_⟩
    rw [range_nextT]; rw [List.map_append]; exact TreesAt.append hs' hs2
  · intro q nx h tk gR74 F2 N2; k_extra "qD"; refine ex2_2 gR74 ?_; clear gR74; intro ws' k' eK; subst eK; intro hs'
    clear F1 N1
    k_steps
    rw [List.size_toArray, hlen] at hs'
    exact fun_end S hk F2 N2 (.head _) hs'
theorem fun_fn {ky : Str} {f : T} {n : Nat} {ps : List Tr} {ds : Nat → List T} (h1 : (ky == Str.ofString "quote") = false) (h2 : (([Str.ofString "function", Str.ofString "->"] : List Str).any fun x => x == ky) = true) (hf : f.tr = .ex ky ps) (hLs : ∀ i t, ps[i]? = some t → FunOk w t (ds i) n) : FunOk w f.tr (f :: (List.range ps.length).flatMap ds) (n + 1) := by
  intro g u v O ht hgu A s vs k hg r hu hz
  have ht0 := ht
  rw [hf] at ht
  k_extra "qB"; refine TreeAt.ex_k ht ?_; clear ht; intro a t1 t2 c ws eK hT hB hts; subst eK; k_extra "qC"
  have hlen := TreesAt.length hts
  refine' enter [((Str.ofString "tree"), .ref a), ((Str.ofString "found"), .ref u)] (O.keeps hg) r ?k6 ?k7 ?k9 ?kB ?_ ?c1 ?c2 ?c3 ?c4 ?c5; k_extra "eN"
  refine start1_k F hg hgu hL' hu ?_; intro hb F N hgh _ hk
  have O' := O.keeps hgh
  have c1 : ∀ i t v, ps[i]? = some t → TreeAt g t v → FunAt w g u v (ds i) n := fun i t v e h => hLs i t e g u v O h hgu
  replace hT := hT.keeps hgh
  replace hB := hB.keeps hgh
  simp only [List.length_cons] at hz
  have hvz : vs.length ≤ 2 ^ 20 := by k_extra "mE lia"
  have X := OkH.X O'; have Tp := OkH.top O'
  k_steps
  rename Fr _ _ _ _ => F1
  rename News _ _ _ _ => N1
  refine iterTup [] (fun i nx => ∃ ws' k', nx = [(u, listOf (List.toArray (vs ++ ws')) k')] ∧ TreesAt g ((f :: (List.range i).flatMap ds).map T.tr) ws') rfl r.hd ?_ hB F1 (News.sub (l := [(u, listOf (List.toArray (vs ++ [.ref a])) _)]) N1 (by walk_at "mem all")) ⟨[.ref a], _, rfl, by simp only [List.range_zero, List.flatMap_nil, List.map_cons, List.map_nil, TreesAt.e1, TreesAt.e2]; exact ⟨_, _, rfl, ht0, rfl⟩⟩ ?_ ?_
  · exact Nat.ne_of_lt (Nat.lt_of_lt_of_le hB.lt F1.above)
  · intro i v q nx h tk I o hv hI hne gR75 F2 N2; k_extra "qD"; refine ex2_2 gR75 ?_; clear gR75; intro ws' k' eK; subst eK; intro hs'
    refine ex1_2 (treesAt_get hts i v (by simpa using hv)) ?_; intro t ht' hta
    have hi : i < ps.length := by
      rcases Nat.lt_or_ge i ps.length with h | h
      · exact h
      · rw [List.getElem?_eq_none h] at ht'; cases ht'
    have c2 := c1 i t v ht' hta
    have huI : @Ne Nat u I := hne _ (.head _)
    have hz2 := len_nextT ds hi
    have hwl := TreesAt.length hs'
    rw [List.length_map] at hwl
    have hz3 : (vs ++ ws').length + (ds i).length ≤ 2 ^ 20 := by rw [List.length_append]; simp only [List.length_cons] at hwl; k_extra "mE lia"
    clear F1 N1 c1
    k_steps
    rename_i ws2 k2 h2 tk2 hs2 F3 N3
    rw [List.append_assoc] at N3
    refine turn_end [(u, listOf (List.toArray (vs ++ (ws' ++ ws2))) k2)] F3 N3 (by k_mem) (by walk_at "mem all") (neCons huI neNil) ⟨Agree.set (Agree.over _) rfl, ws' ++ ws2, k2, rfl, ?_⟩
    rw [range_nextT]; rw [← List.cons_append, List.map_append]; exact TreesAt.append hs' hs2
  · intro q nx h tk gR76 F2 N2; k_extra "qD"; refine ex2_2 gR76 ?_; clear gR76; intro ws' k' eK; subst eK; intro hs'
    clear F1 N1
    k_steps
    rw [List.size_toArray, hlen] at hs'
    exact fun_end S hk F2 N2 (.head _) hs'
end
theorem fun_two {ky : Str} {d e : List T} {p q : Tr} {n : Nat} (h1 : (ky == Str.ofString "quote") = false) (h2 : (([Str.ofString "function", Str.ofString "->"] : List Str).any fun x => x == ky) = false) (hp : FunOk w p d n) (hq : FunOk w q e n) : FunOk w (.ex ky [p, q]) (d ++ e) (n + 1) := by
  refine (fun_plain (ps := [p, q]) (ds := fun i => if i = 0 then d else e) h1 h2 fun i t ht => ?_).eq ?_
  · rcases i with _ | _ | i
    · simp only [List.getElem?_cons_zero, Option.some.injEq] at ht; subst ht; exact hp
    · simp only [List.getElem?_cons_succ, List.getElem?_cons_zero, Option.some.injEq] at ht; subst ht; exact hq
    · simp at ht
  · simp [List.range_succ]
theorem fun_one1 {ky : Str} {d : List T} {p : Tr} {n : Nat} (h1 : (ky == Str.ofString "quote") = false) (h2 : (([Str.ofString "function", Str.ofString "->"] : List Str).any fun x => x == ky) = false) (hp : FunOk w p d n) : FunOk w (.ex ky [p]) d (n + 1) := by
  refine (fun_plain (ps := [p]) (ds := fun _ => d) h1 h2 fun i t ht => ?_).eq ?_
  · rcases i with _ | i
    · simp only [List.getElem?_cons_zero, Option.some.injEq] at ht; subst ht; exact hp
    · simp at ht
  · simp [List.range_succ]
theorem fun_none {ky : Str} {ps : List Tr} {n : Nat} (h1 : (ky == Str.ofString "quote") = false) (h2 : (([Str.ofString "function", Str.ofString "->"] : List Str).any fun x => x == ky) = false) (hp : ∀ t ∈ ps, FunOk w t [] n) : FunOk w (.ex ky ps) [] (n + 1) := by
  refine (fun_plain (ps := ps) (ds := fun _ => []) h1 h2 fun i t ht => hp t (List.mem_of_getElem? ht)).eq ?_
  simp
theorem fun_sym (x : Str) (n : Nat) : FunOk w (.sym x) [] (n + 1) := (fun_leaf (t := .sym x) rfl).le (by k_extra "mE lia")
theorem fun_arg (a : Ar) : FunOk w a.tr [] 2 := by
  rcases a with ⟨x, _ | y⟩
  · exact fun_sym x 1
  · exact fun_none (n := 1) (by decide) (by decide) fun t ht => by
      simp only [List.mem_cons, List.not_mem_nil, or_false] at ht
      rcases ht with rfl | rfl
      · exact fun_sym x 0
      · exact fun_sym y 0
noncomputable def T.funs : T → List T
  | .sym x0 => []
  | .one => []
  | .set _ v => v.funs
  | .up _ v => v.funs
  | .loc x0 => []
  | .locs _ v => v.funs
  | .dot x0 => []
  | .quo x0 => []
  | .fn z as b => .fn z as b :: b.funs
  | .arr as b => .arr as b :: b.funs
  | .blk a b => a.funs ++ b.funs
  | .ite a b => a.funs ++ b.funs
  | .whl a b => a.funs ++ b.funs
  | .lt _ a b => a.funs ++ b.funs
  | .fr _ a b => a.funs ++ b.funs
  | .cmp a _ b => a.funs ++ b.funs
theorem T.funs_e : (∀ (x0 : Str), (T.sym x0).funs = ([] : List T)) ∧ ((T.one).funs = ([] : List T)) ∧ (∀ (w0 : Str) (v : T), (T.set w0 v).funs = (v.funs : List T)) ∧ (∀ (w0 : Str) (v : T), (T.up w0 v).funs = (v.funs : List T)) ∧ (∀ (x0 : Str), (T.loc x0).funs = ([] : List T)) ∧ (∀ (w0 : Str) (v : T), (T.locs w0 v).funs = (v.funs : List T)) ∧ (∀ (x0 : Str), (T.dot x0).funs = ([] : List T)) ∧ (∀ (x0 : Str), (T.quo x0).funs = ([] : List T)) ∧ (∀ (z : Str) (as : List Ar) (b : T), (T.fn z as b).funs = (.fn z as b :: b.funs : List T)) ∧ (∀ (as : List Ar) (b : T), (T.arr as b).funs = (.arr as b :: b.funs : List T)) ∧ (∀ (a : T) (b : T), (T.blk a b).funs = (a.funs ++ b.funs : List T)) ∧ (∀ (a : T) (b : T), (T.ite a b).funs = (a.funs ++ b.funs : List T)) ∧ (∀ (a : T) (b : T), (T.whl a b).funs = (a.funs ++ b.funs : List T)) ∧ (∀ (w0 : Str) (a : T) (b : T), (T.lt w0 a b).funs = (a.funs ++ b.funs : List T)) ∧ (∀ (w0 : Str) (a : T) (b : T), (T.fr w0 a b).funs = (a.funs ++ b.funs : List T)) ∧ (∀ (a : T) (w1 : Str) (b : T), (T.cmp a w1 b).funs = (a.funs ++ b.funs : List T)) :=
  ⟨fun _ => rfl, rfl, fun _ _ => rfl, fun _ _ => rfl, fun _ => rfl, fun _ _ => rfl, fun _ => rfl, fun _ => rfl, fun _ _ _ => rfl, fun _ _ => rfl, fun _ _ => rfl, fun _ _ => rfl, fun _ _ => rfl, fun _ _ _ => rfl, fun _ _ _ => rfl, fun _ _ _ => rfl⟩
theorem fun_ok : ∀ t : T, FunOk w t.tr t.funs (t.ht + 4) := by
  intro t
  induction t with
  | sym x => exact (fun_leaf (t := .sym x) rfl).le (by k_extra "mE lia")
  | one => exact (fun_leaf (t := .one) rfl).le (by k_extra "mE lia")
  | quo x => exact fun_quo.le (by k_extra "mE lia")
  | loc x => exact (fun_one1 (by decide) (by decide) (fun_sym x 0)).le (by simp only [T.ht_e]; k_extra "mE lia")
  | dot x => exact (fun_two (by decide) (by decide) (fun_sym x 0) (fun_sym (Str.ofString "v") 0)).le (by simp only [T.ht_e]; k_extra "mE lia")
  | set x v ih => exact (fun_two (by decide) (by decide) (fun_sym x _) ih).le (by simp only [T.ht_e]; k_extra "mE lia")
  | up x v ih => exact (fun_two (by decide) (by decide) (fun_sym x _) ih).le (by simp only [T.ht_e]; k_extra "mE lia")
  | locs x v ih => exact (fun_one1 (by decide) (by decide) (fun_two (by decide) (by decide) (fun_sym x _) ih)).le (by simp only [T.ht_e]; k_extra "mE lia")
  | fn z as b ih =>
    have hc : FunOk w (.ex (Str.ofString "call") (.sym z :: as.map Ar.tr)) [] (b.ht + 4) := (fun_none (n := 2) (by decide) (by decide) fun t ht => by
      rcases List.mem_cons.mp ht with rfl | ht
      · exact fun_sym z 1
      · refine ex1_2 (List.mem_map.mp ht) ?_; intro a _ eK; subst eK; exact fun_arg a).le (by k_extra "mE lia")
    refine ((fun_fn (n := b.ht + 4) (ky := Str.ofString "function") (ps := [.ex (Str.ofString "call") (.sym z :: as.map Ar.tr), b.tr]) (ds := fun i => if i = 0 then [] else b.funs) (by decide) (by decide) rfl fun i t ht => ?_).le (by simp only [T.ht_e]; k_extra "mE lia")).eq ?_
    · rcases i with _ | _ | i
      · simp only [List.getElem?_cons_zero, Option.some.injEq] at ht; subst ht; exact hc
      · simp only [List.getElem?_cons_succ, List.getElem?_cons_zero, Option.some.injEq] at ht; subst ht; exact ih
      · simp at ht
    · simp [List.range_succ, T.funs_e]
  | arr as b ih =>
    have hc : FunOk w (.ex (Str.ofString "tuple") (as.map Ar.tr)) [] (b.ht + 4) := (fun_none (n := 2) (by decide) (by decide) fun t ht => by
      refine ex1_2 (List.mem_map.mp ht) ?_; intro a _ eK; subst eK; exact fun_arg a).le (by k_extra "mE lia")
    refine ((fun_fn (n := b.ht + 4) (ky := Str.ofString "->") (ps := [.ex (Str.ofString "tuple") (as.map Ar.tr), b.tr]) (ds := fun i => if i = 0 then [] else b.funs) (by decide) (by decide) rfl fun i t ht => ?_).le (by simp only [T.ht_e]; k_extra "mE lia")).eq ?_
    · rcases i with _ | _ | i
      · simp only [List.getElem?_cons_zero, Option.some.injEq] at ht; subst ht; exact hc
      · simp only [List.getElem?_cons_succ, List.getElem?_cons_zero, Option.some.injEq] at ht; subst ht; exact ih
      · simp at ht
    · simp [List.range_succ, T.funs_e]
  | blk p q ihp ihq => exact (fun_two (n := max p.ht q.ht + 4) (by decide) (by decide) (ihp.le (by k_extra "mE lia")) (ihq.le (by k_extra "mE lia"))).le (by simp only [T.ht_e]; k_extra "mE lia")
  | ite p q ihp ihq => exact (fun_two (n := max p.ht q.ht + 4) (by decide) (by decide) (ihp.le (by k_extra "mE lia")) (ihq.le (by k_extra "mE lia"))).le (by simp only [T.ht_e]; k_extra "mE lia")
  | whl p q ihp ihq => exact (fun_two (n := max p.ht q.ht + 4) (by decide) (by decide) (ihp.le (by k_extra "mE lia")) (ihq.le (by k_extra "mE lia"))).le (by simp only [T.ht_e]; k_extra "mE lia")
  | lt x p q ihp ihq => exact (fun_two (n := max p.ht q.ht + 6) (by decide) (by decide) (fun_one1 (by decide) (by decide) (fun_two (n := max p.ht q.ht + 4) (by decide) (by decide) (fun_sym x _) (ihp.le (by k_extra "mE lia")))) (ihq.le (by k_extra "mE lia"))).le (by simp only [T.ht_e]; k_extra "mE lia")
  | fr x p q ihp ihq => exact (fun_two (n := max p.ht q.ht + 5) (by decide) (by decide) (fun_two (n := max p.ht q.ht + 4) (by decide) (by decide) (fun_sym x _) (ihp.le (by k_extra "mE lia"))) (ihq.le (by k_extra "mE lia"))).le (by simp only [T.ht_e]; k_extra "mE lia")
  | cmp p x q ihp ihq => exact (fun_two (n := max p.ht q.ht + 5) (by decide) (by decide) (ihp.le (by k_extra "mE lia")) (fun_two (n := max p.ht q.ht + 4) (by decide) (by decide) (fun_sym x _) (ihq.le (by k_extra "mE lia")))).le (by simp only [T.ht_e]; k_extra "mE lia")
example : Sep := by w_top off; first | walk1 | trivial
inductive RowsL (K : Addr → Prop) (news : List (Addr × Obj)) : List Row → List Value → Prop
  | nil : RowsL K news [] []
  | as {a : Addr} {t1 : Tok} {y : Str} {b : Bool} {n : Nat} {rows : List Row} {vs : List Value} : (a, listOf (List.toArray [.str y t1, .bool b]) n) ∈ news → K a → RowsL K news rows vs → RowsL K news (.as y b :: rows) (.ref a :: vs)
  | held {a l : Addr} {t1 : Tok} {us : List Value} {m n : Nat} {ys : List Str} {rows : List Row} {vs : List Value} : (a, listOf (List.toArray [.str (Str.ofString "held") t1, .ref l]) m) ∈ news → K a → (l, listOf us.toArray n) ∈ news → K l → StrsAre us ys → RowsL K news rows vs →
      RowsL K news (.held ys :: rows) (.ref a :: vs)
theorem RowsL.mono {K K' : Addr → Prop} {news news' : List (Addr × Obj)} (h : ∀ p ∈ news, K p.1 → p ∈ news' ∧ K' p.1) {rows : List Row} {vs : List Value} (r : RowsL K news rows vs) : RowsL K' news' rows vs := by
  induction r with
  | nil => exact .nil
  | as h1 h2 _ ih => exact .as (h _ h1 h2).1 (h _ h1 h2).2 ih
  | held h1 h2 h3 h4 h5 _ ih => exact .held (h _ h1 h2).1 (h _ h1 h2).2 (h _ h3 h4).1 (h _ h3 h4).2 h5 ih
theorem RowsL.append {K : Addr → Prop} {news : List (Addr × Obj)} {r1 r2 : List Row} {v1 v2 : List Value} (h : RowsL K news r1 v1) (h' : RowsL K news r2 v2) : RowsL K news (r1 ++ r2) (v1 ++ v2) := by
  induction h with
  | nil => exact h'
  | as h1 h2 _ ih => exact .as h1 h2 ih
  | held h1 h2 h3 h4 h5 _ ih => exact .held h1 h2 h3 h4 h5 ih
theorem RowsL.length {K : Addr → Prop} {news : List (Addr × Obj)} {r1 : List Row} {v1 : List Value} (h : RowsL K news r1 v1) : v1.length = r1.length := by
  induction h with
  | nil => rfl
  | as _ _ _ ih => simp [ih]
  | held _ _ _ _ _ _ ih => simp [ih]
theorem RowsL.cons {K : Addr → Prop} {news : List (Addr × Obj)} {q : Addr × Obj} {rows : List Row} {vs : List Value} (r : RowsL K news rows vs) : RowsL K (q :: news) rows vs := r.mono fun _ hp hk => ⟨.tail _ hp, hk⟩
theorem RowsL.eqr {K : Addr → Prop} {news : List (Addr × Obj)} {r1 r2 : List Row} {vs : List Value} (h : RowsL K news r1 vs) (e : r1 = r2) : RowsL K news r2 vs := e ▸ h
noncomputable def DeedOut (h : Heap) (u : Addr) (vs : List Value) (rows : List Row) (v : Value) (h' : Heap) : Prop :=
  v = .none ∧ ∃ vs' n' rs, h'.get? u = some (listOf (List.toArray (vs ++ vs')) n') ∧ (∀ p ∈ rs, h'.get? p.1 = some p.2 ∧ h.get? p.1 = none) ∧ RowsL (fun _ => True) rs rows vs'
noncomputable def DeedAt (w : World) (g : Heap) (u : Addr) (v : Value) (b : Bool) (rows : List Row) (n : Nat) : Prop :=
  ∀ (A : Around) (s : Shared) (vs : List Value) (k : Nat), Le g s.heap → Rm A n → s.heap.get? u = some (listOf vs.toArray k) → vs.length + rows.length ≤ 2 ^ 20 →
    Calls w A s 335 [v, .bool b, .ref u] (at1 u) (DeedOut s.heap u vs rows)
noncomputable def DeedOk (w : World) (t : Tr) (d : Bool → List Row) (n : Nat) : Prop := ∀ (g : Heap) (u : Addr) (v : Value) (b : Bool), OkH w g → TreeAt g t v → g.get? u = none → DeedAt w g u v b (d b) n
section
variable {A : Around} {s : Shared} {u a l : Addr} {v : Value} {b : Bool} {t1 : Tok} {pre vo us : List Value} {rows old : List Row} {k n n2 m2 : Nat} {y : Str} {ys : List Str} {Q E : Value → Shared → Prop} {h₀ : Heap} {L : Addr} {m : Str → Option Value} {news rs : List (Addr × Obj)} {g : Obj → List (Addr × Obj) → List (Addr × Obj)} {K : Addr → Prop}
theorem deed_u (c : DeedAt w h₀ u v b rows k) (F : Fr h₀ L s.heap m) (N : News h₀ L s.heap news) (r : Rm A k) (U : UpdT u (listOf (List.toArray (pre ++ vo)) n) rs news g)
    (hrs : ∀ p ∈ rs, p.1 ≠ u) (hR : RowsL K news old vo) (hK : ∀ a, K a → a ≠ u) (hKs : ∀ a, s.heap.get? a = none → K a) (hz : pre.length + old.length + rows.length ≤ 2 ^ 20)
    (kk : ∀ n' rs' vs' h' tk, RowsL K (g (listOf (List.toArray (pre ++ vs')) n') rs') (old ++ rows) vs' → (∀ p ∈ rs', p.1 ≠ u) → Fr h₀ L h' m → News h₀ L h' (g (listOf (List.toArray (pre ++ vs')) n') rs') → (∀ p ∈ news, p.1 ≠ u → p ∈ g (listOf (List.toArray (pre ++ vs')) n') rs') → Q .none { s with heap := h', toks := tk }) :
    wpAny (model PR w) A (call (.ref 335) [v, .bool b, .ref u]) Q E s := by
  have hu := N _ U.mem
  refine wpAny_mono (c A s (pre ++ vo) n F.keep r hu.1 (by rw [List.length_append, hR.length]; exact hz)) (fun v s' p => ?_) fun _ _ x => x.elim
  refine ex0_4 p ?_; clear p; intro S hk eK; subst eK; intro gN77; refine ex3_3 gN77 ?_; clear gN77; intro vs' n' rs' ho hr hrows
  rw [S.to]
  rw [List.append_assoc] at ho
  refine ex3_2 (F.ns) ?_; intro oL es ep hL rL
  have F' : Fr h₀ L s'.heap m := ⟨⟨oL, es, ep, hk _ _ hL fun q => hu.2.1 q.symm, rL⟩, fun b o e => hk b o (F.keep b o e) fun q => (by have := hu.2.2; rw [← show b = u from q, e] at this; cases this), F.above⟩
  have hrs2 : ∀ p ∈ rs' ++ rs, p.1 ≠ u := fun p hp => by
    rcases List.mem_append.mp hp with hp | hp
    · intro e; have := (hr p hp).2; rw [e, hu.1] at this; cases this
    · exact hrs p hp
  have hnews : News h₀ L s'.heap (g (listOf (List.toArray (pre ++ (vo ++ vs'))) n') (rs' ++ rs)) := fun p hp => by
    rcases U.inv hrs _ _ p hp with ⟨h1', h2'⟩ | rfl | h
    · have P := N p h2'
      exact ⟨hk _ _ P.1 h1', P.2⟩
    · exact ⟨ho, hu.2⟩
    · refine ⟨(hr p h).1, fun q => ?_, ?_⟩
      · have := (hr p h).2; rw [q, hL] at this; cases this
      · cases q : h₀.get? p.1 with
        | none => rfl
        | some o => have := (hr p h).2; rw [F.keep _ _ q] at this; cases this
  exact kk n' (rs' ++ rs) (vo ++ vs') s'.heap s'.toks (RowsL.append (hR.mono fun p hp hk => ⟨U.old _ _ p hp (hK _ hk), hk⟩) ((hrows.mono (K' := K) (news' := rs') fun p hp _ => ⟨hp, hKs _ (hr p hp).2⟩).mono fun p hp hk => ⟨U.new _ _ p (List.mem_append_left _ hp), hk⟩)) hrs2 F' hnews fun p hp hn => U.old _ _ p hp hn
theorem rowapp_u (F : Fr h₀ L s.heap m) (N : News h₀ L s.heap news) (U : UpdT u (listOf (List.toArray (pre ++ vo)) n) rs news g) (hrs : ∀ p ∈ rs, p.1 ≠ u) (hR : RowsL K news old vo) (hK : ∀ a, K a → a ≠ u) {row : Row} (hrow : RowsL K news [row] [.ref a]) (hz : pre.length + old.length ≤ 2 ^ 20)
    (kk : ∀ n' h', RowsL K (g (listOf (List.toArray (pre ++ (vo ++ [.ref a]))) n') rs) (old ++ [row]) (vo ++ [.ref a]) → Fr h₀ L h' m → News h₀ L h' (g (listOf (List.toArray (pre ++ (vo ++ [.ref a]))) n') rs) → Q .none { s with heap := h' }) :
    wpAny (model PR w) A (call (.builtin "list.append") [.ref u, .ref a]) Q E s := by
  refine ex1_3 (U.split) ?_; intro pr e hg q
  have z := N _ U.mem
  have hlen := hR.length
  refine append_at (hsz := by rw [sizeLine_eq, List.size_toArray, List.length_append]; k_extra "mE lia") z.1 fun h' hs' ho' => ?_
  have e2 : listOf ((List.toArray (pre ++ vo)).push (.ref a)) (n + 1) = listOf (List.toArray (pre ++ (vo ++ [.ref a]))) (n + 1) := by simp
  have hR2 : RowsL K news (old ++ [row]) (vo ++ [.ref a]) := hR.append hrow
  refine kk (n + 1) h' (hR2.mono fun p hp hk => ⟨U.old _ [] p hp (hK _ hk), hk⟩) (F.change hs' z.2.1 z.2.2) ?_
  rw [hg, ← e2]
  subst e
  exact news_set N q hrs hs' ho'
theorem deed_end {s₂ : Shared} {hb : Heap} {vs vs' : List Value} {n' : Nat} (S : Same s s₂) (hk : ∀ b o, s.heap.get? b = some o → b ≠ u → hb.get? b = some o)
    (F : Fr hb L s₂.heap m) (N : News hb L s₂.heap news) (hl : (u, listOf (List.toArray (vs ++ vs')) n') ∈ news) (hR : RowsL (Ek s) news rows vs') :
    Post s (at1 u) (DeedOut s.heap u vs rows) .none s₂ := by
  refine ⟨S, fun b o e hw => F.keep b o (hk b o e hw), rfl, vs', n', news.filter (fun p => (s.heap.get? p.1).isNone), (N _ hl).1, fun p hp => ?_, hR.mono fun p hp hk => ⟨List.mem_filter.mpr ⟨hp, by rw [show s.heap.get? p.1 = none from hk]; rfl⟩, trivial⟩⟩
  refine ex0_2 (List.mem_filter.mp hp) ?_; intro h1' h2'
  refine ⟨(N _ h1').1, ?_⟩
  cases q : s.heap.get? p.1 with
  | none => rfl
  | some o => rw [q] at h2'; cases h2'
theorem dfresh {s₀ : Shared} {hb : Heap} {o : Obj} (hk : ∀ b o, s₀.heap.get? b = some o → b ≠ u → hb.get? b = some o) (F : Fr hb L s.heap m) (N : News hb L s.heap news) (hm : (u, o) ∈ news) : ∀ a, s.heap.get? a = none → Ek s₀ a := by
  intro a ha
  show s₀.heap.get? a = none
  cases q : s₀.heap.get? a with
  | none => rfl
  | some o' =>
    by_cases h : a = u
    · rw [h, (N _ hm).1] at ha; cases ha
    · rw [F.keep _ _ (hk a o' q h)] at ha; cases ha
theorem dfresh2 {s₀ : Shared} {hb : Heap} {o oI : Obj} {I : Addr} (hk : ∀ b o, s₀.heap.get? b = some o → b ≠ u → hb.get? b = some o) (F : Fr hb L s.heap m) (N : News hb L s.heap news) (hm : (u, o) ∈ news) (hI : (I, oI) ∈ news) : ∀ a, s.heap.get? a = none → Ek2 s₀ I a :=
  fun a h => ⟨dfresh hk F N hm a h, fun e => by rw [e, (N _ hI).1] at h; cases h⟩
theorem dfresh_in {s₀ : Shared} {hb h : Heap} {o : Obj} (hk : ∀ b o, s₀.heap.get? b = some o → b ≠ u → hb.get? b = some o) (N : News hb L h news) (hm : (a, o) ∈ news) (hn : @Ne Nat a u) : Ek s₀ a := by
  show s₀.heap.get? a = none
  cases q : s₀.heap.get? a with
  | none => rfl
  | some o' => have h1 := hk a o' q hn; rw [(N _ hm).2.2] at h1; cases h1
end
theorem keep_u {s : Shared} {u : Addr} {vs : List Value} {k : Nat} (hu : s.heap.get? u = some (listOf vs.toArray k)) : ∀ a, Ek s a → a ≠ u := fun a h e => by
  have h' : s.heap.get? a = none := h
  rw [e, hu] at h'; cases h'
example : True := by
 k_with "mE rowsL" => (repeat' (first | with_reducible assumption | refine' RowsL.cons ?_))
 k_with "mE dek" => exact dfresh_in (by assumption) (by assumption) (by k_mem) (by k_ne)
 k_with "mcall ref" => ((with_reducible refine (?_ : wpAny _ _ (call (.ref 335) _) _ _ _)); k_dflt (refine' deed_u ?jc ?jf ?jn ?jr ?ju ?jq ?jrr ?jk ?jks ?jz ?_; (case jc => k_extra "a"); k_extra "mP2"; (case jr => k_extra "mE rm"); (case ju => k_extra "mE updT"); (case jq => k_extra "mnm"); (case jrr => k_extra "mE rowsL"); (case jk => k_extra "a"); (case jks => first | exact dfresh (by assumption) (by assumption) (by assumption) (by k_mem) | exact dfresh2 (by assumption) (by assumption) (by assumption) (by k_mem) (by k_mem)); (case jz => k_extra "mol")); intro _ _ _ _ _ R' q' F' N' old'; (try dsimp only at R' N' old'); (try simp only [List.nil_append] at R'); revert R' q' F' N' old'; intro _ _ _ _ _; k_extra "msw")
 k_with "mE rowapp" => (k_dflt (refine' rowapp_u ?jf ?jn ?ju ?jq ?jrr ?jk ?jw ?jz ?_; k_extra "mP2"; (case jk => k_extra "a"); (case ju => k_extra "mE updT"); (case jq => k_extra "mnm"); (case jrr => k_extra "mE rowsL"); (case jw => first | exact RowsL.as (by k_mem) (by k_extra "mE dek") .nil | exact RowsL.held (by k_mem) (by k_extra "mE dek") (by k_mem) (by k_extra "mE dek") (by assumption) .nil); (case jz => k_extra "mol")); intro _ _ R' F' N'; (try dsimp only at R' N'); (try simp only [List.nil_append] at R' N'); revert R' F' N'; intro _ _ _; k_extra "msw")
 exact trivial
example : Sep := by w_top off; first | walk1 | trivial
section
example : True := by
 k_with "mcall builtin:list.append" => ((with_reducible refine (?_ : wpAny _ _ (call (Value.builtin _) [Value.ref _, Value.ref _]) _ _ _)); k_extra "mE rowapp")
 exact trivial
variable {n : Nat}
theorem deed_leaf {t : T} (hl : t.leaf = true) : DeedOk w t.tr (fun _ => []) 1 := by
  intro g u v b O ht hgu A s vs k hg r hu hz
  have hkl := keep_u hu
  refine ex4_3 (T.leaf_at hl ht) ?_; intro a kd t1 v2 eK; subst eK; intro hT hkd
  have hkd2 : (kd != Str.ofString "expr") = true := by show (!(kd == Str.ofString "expr")) = true; rw [hkd]; rfl
  replace hu : s.heap.get? u = some (listOf (List.toArray (vs ++ [])) k) := by rw [List.append_nil]; exact hu
  refine' enter [((Str.ofString "tree"), .ref a), ((Str.ofString "is_sure"), .bool b), ((Str.ofString "rows"), .ref u)] (O.keeps hg) r ?k6 ?k7 ?k9 ?kB ?_ ?c1 ?c2 ?c3 ?c4 ?c5; k_extra "eN"
  refine start1_k F hg hgu hL' hu ?_; intro hb F N hgh _ hk
  have O' := O.keeps hgh
  have hub : hb.get? u = none := (N _ (.head _)).2.2
  have hR : RowsL (Ek s) [(u, listOf (List.toArray (vs ++ [])) k)] [] [] := .nil
  replace hT := hT.keeps hgh
  have X := OkH.X O'; have Tp := OkH.top O'
  k_steps
  exact deed_end S hk (by assumption) (by assumption) (by k_mem) (by walk_at "E rowsL")
theorem deed_quo {ps : List Tr} : DeedOk w (.ex (Str.ofString "quote") ps) (fun _ => []) 1 := by
  intro g u v b O ht hgu A s vs k hg r hu hz
  have hkl := keep_u hu
  k_extra "qB"; refine TreeAt.ex_k ht ?_; clear ht; intro a t1 t2 c ws eK hT hB hts; subst eK; k_extra "qC"
  replace hu : s.heap.get? u = some (listOf (List.toArray (vs ++ [])) k) := by rw [List.append_nil]; exact hu
  refine' enter [((Str.ofString "tree"), .ref a), ((Str.ofString "is_sure"), .bool b), ((Str.ofString "rows"), .ref u)] (O.keeps hg) r ?k6 ?k7 ?k9 ?kB ?_ ?c1 ?c2 ?c3 ?c4 ?c5; k_extra "eN"
  refine start1_k F hg hgu hL' hu ?_; intro hb F N hgh _ hk
  have O' := O.keeps hgh
  have hub : hb.get? u = none := (N _ (.head _)).2.2
  have hR : RowsL (Ek s) [(u, listOf (List.toArray (vs ++ [])) k)] [] [] := .nil
  replace hT := hT.keeps hgh
  have X := OkH.X O'; have Tp := OkH.top O'
  k_steps
  exact deed_end S hk (by assumption) (by assumption) (by k_mem) (by walk_at "E rowsL")
theorem deed_loc {y : Str} : DeedOk w (T.loc y).tr (fun _ => [.as y false]) 1 := by
  intro g u v b O ht hgu A s vs k hg r hu hz
  have hkl := keep_u hu
  k_extra "qB"; (first | (refine TreeAt.e1sR ht ?_; clear ht; intro t1 t2 c e u3 u4 hT hB hE) | (refine TreeAt.e1s_k ht ?_; clear ht; intro a t1 t2 c e u3 u4 eK hT hB hE; subst eK)); k_extra "qC"
  replace hu : s.heap.get? u = some (listOf (List.toArray (vs ++ [])) k) := by rw [List.append_nil]; exact hu
  refine' enter [((Str.ofString "tree"), .ref a), ((Str.ofString "is_sure"), .bool b), ((Str.ofString "rows"), .ref u)] (O.keeps hg) r ?k6 ?k7 ?k9 ?kB ?_ ?c1 ?c2 ?c3 ?c4 ?c5; k_extra "eN"
  refine start1_k F hg hgu hL' hu ?_; intro hb F N hgh _ hk
  have O' := O.keeps hgh
  have hub : hb.get? u = none := (N _ (.head _)).2.2
  have hR : RowsL (Ek s) [(u, listOf (List.toArray (vs ++ [])) k)] [] [] := .nil
  replace hT := hT.keeps hgh
  replace hB := hB.keeps hgh
  replace hE := hE.keeps hgh
  simp only [List.length_cons, List.length_nil] at hz
  have X := OkH.X O'; have Tp := OkH.top O'
  k_steps
  rename RowsL _ _ _ _ => R1
  exact deed_end S hk (by assumption) (by assumption) (by k_mem) (R1.eqr (by walk_at "E eqr"))
theorem deed_set {y : Str} {z : T} {n : Nat} {d : Bool → List Row} (hL : DeedOk w z.tr d n) : DeedOk w (T.set y z).tr (fun b => d b ++ [.as y b]) (n + 1) := by
  intro g u v b O ht hgu A s vs k hg r hu hz
  have hkl := keep_u hu
  k_extra "qB"; (first | (refine TreeAt.e2sR ht ?_; clear ht; intro t1 t2 c e u3 u4 v2 hT hB hE hv2) | (refine TreeAt.e2s_k ht ?_; clear ht; intro a t1 t2 c e u3 u4 v2 eK hT hB hE hv2; subst eK)); k_extra "qC"
  replace hu : s.heap.get? u = some (listOf (List.toArray (vs ++ [])) k) := by rw [List.append_nil]; exact hu
  refine' enter [((Str.ofString "tree"), .ref a), ((Str.ofString "is_sure"), .bool b), ((Str.ofString "rows"), .ref u)] (O.keeps hg) r ?k6 ?k7 ?k9 ?kB ?_ ?c1 ?c2 ?c3 ?c4 ?c5; k_extra "eN"
  refine start1_k F hg hgu hL' hu ?_; intro hb F N hgh _ hk
  have O' := O.keeps hgh
  have hub : hb.get? u = none := (N _ (.head _)).2.2
  have hR : RowsL (Ek s) [(u, listOf (List.toArray (vs ++ [])) k)] [] [] := .nil
  have c1 := hL hb u v2 b O' (TreeAt.keeps hgh _ hv2) hub
  replace hT := hT.keeps hgh
  replace hB := hB.keeps hgh
  replace hE := hE.keeps hgh
  simp only [List.length_append, List.length_cons, List.length_nil] at hz
  have X := OkH.X O'; have Tp := OkH.top O'
  cases b <;> (
  k_steps
  rename RowsL _ _ _ _ => R1
  exact deed_end S hk (by assumption) (by assumption) (by k_mem) (R1.eqr (by walk_at "E eqr")))
theorem deed_up {y : Str} {z : T} {n : Nat} {d : Bool → List Row} (hL : DeedOk w z.tr d n) : DeedOk w (T.up y z).tr (fun b => d b ++ [.as y false]) (n + 1) := by
  intro g u v b O ht hgu A s vs k hg r hu hz
  have hkl := keep_u hu
  k_extra "qB"; (first | (refine TreeAt.e2sR ht ?_; clear ht; intro t1 t2 c e u3 u4 v2 hT hB hE hv2) | (refine TreeAt.e2s_k ht ?_; clear ht; intro a t1 t2 c e u3 u4 v2 eK hT hB hE hv2; subst eK)); k_extra "qC"
  replace hu : s.heap.get? u = some (listOf (List.toArray (vs ++ [])) k) := by rw [List.append_nil]; exact hu
  refine' enter [((Str.ofString "tree"), .ref a), ((Str.ofString "is_sure"), .bool b), ((Str.ofString "rows"), .ref u)] (O.keeps hg) r ?k6 ?k7 ?k9 ?kB ?_ ?c1 ?c2 ?c3 ?c4 ?c5; k_extra "eN"
  refine start1_k F hg hgu hL' hu ?_; intro hb F N hgh _ hk
  have O' := O.keeps hgh
  have hub : hb.get? u = none := (N _ (.head _)).2.2
  have hR : RowsL (Ek s) [(u, listOf (List.toArray (vs ++ [])) k)] [] [] := .nil
  have c1 := hL hb u v2 b O' (TreeAt.keeps hgh _ hv2) hub
  replace hT := hT.keeps hgh
  replace hB := hB.keeps hgh
  replace hE := hE.keeps hgh
  simp only [List.length_append, List.length_cons, List.length_nil] at hz
  have X := OkH.X O'; have Tp := OkH.top O'
  cases b <;> (
  k_steps
  rename RowsL _ _ _ _ => R1
  exact deed_end S hk (by assumption) (by assumption) (by k_mem) (R1.eqr (by walk_at "E eqr")))
theorem deed_fr {y : Str} {p q : T} {n : Nat} {d e : Bool → List Row} (hL : DeedOk w p.tr d n) (hM : DeedOk w q.tr e n) : DeedOk w (T.fr y p q).tr (fun b => (d b ++ [.as y true]) ++ e false) (n + 1) := by
  intro g u v b O ht hgu A s vs k hg r hu hz
  have hkl := keep_u hu
  k_extra "qB"; (first | (refine TreeAt.e2R ht ?_; clear ht; intro t1 t2 b1 v' v2 hT hB gA1 hv2) | (refine TreeAt.e2_k ht ?_; clear ht; intro a t1 t2 b1 v' v2 eK hT hB gA1 hv2; subst eK)); (first | (refine TreeAt.e2sR gA1 ?_; clear gA1; intro u3 u4 d1 g1 u5 u6 v1 hC hD hG hv1) | (refine TreeAt.e2s_k gA1 ?_; clear gA1; intro c u3 u4 d1 g1 u5 u6 v1 eK hC hD hG hv1; subst eK)); k_extra "qC"
  replace hu : s.heap.get? u = some (listOf (List.toArray (vs ++ [])) k) := by rw [List.append_nil]; exact hu
  refine' enter [((Str.ofString "tree"), .ref a), ((Str.ofString "is_sure"), .bool b), ((Str.ofString "rows"), .ref u)] (O.keeps hg) r ?k6 ?k7 ?k9 ?kB ?_ ?c1 ?c2 ?c3 ?c4 ?c5; k_extra "eN"
  refine start1_k F hg hgu hL' hu ?_; intro hb F N hgh _ hk
  have O' := O.keeps hgh
  have hub : hb.get? u = none := (N _ (.head _)).2.2
  have hR : RowsL (Ek s) [(u, listOf (List.toArray (vs ++ [])) k)] [] [] := .nil
  have c1 := hL hb u v1 b O' (TreeAt.keeps hgh _ hv1) hub
  have c2 := hM hb u v2 false O' (TreeAt.keeps hgh _ hv2) hub
  replace hT := hT.keeps hgh
  replace hB := hB.keeps hgh
  replace hC := hC.keeps hgh
  replace hD := hD.keeps hgh
  replace hG := hG.keeps hgh
  simp only [List.length_append, List.length_cons, List.length_nil] at hz
  have X := OkH.X O'; have Tp := OkH.top O'
  k_steps
  rename RowsL _ _ _ _ => R1
  exact deed_end S hk (by assumption) (by assumption) (by k_mem) (R1.eqr (by walk_at "E eqr"))
end
example : Sep := by w_top off; first | walk1 | trivial
noncomputable def DJ (s : Shared) (u : Addr) (pre : List Value) (acc : List Row) (nx : List (Addr × Obj)) : Prop :=
  ∃ n' rs' vs', nx = (u, listOf (List.toArray (pre ++ vs')) n') :: rs' ∧ (∀ p ∈ rs', p.1 ≠ u) ∧ RowsL (Ek s) nx acc vs'
theorem turn_end_dj {st : List Str} {s s₁ : Shared} {h₀ h' : Heap} {L I u : Addr} {o : Obj} {pre vs' : List Value} {n' tk : Nat} {acc acc' : List Row} {m₀ m' : Str → Option Value} {news : List (Addr × Obj)} (F : Fr h₀ L h' m') (N : News h₀ L h' news)
    (hI : (I, o) ∈ news) (hl : (u, listOf (List.toArray (pre ++ vs')) n') ∈ news) (hlI : @Ne Nat u I) (hkl : ∀ a, Ek s a → a ≠ u)
    (ag : Agree st m₀ m') (R : RowsL (Ek2 s I) news acc vs') (e : acc = acc') : TurnEnd h₀ L (fun m nx => Agree st m₀ m ∧ DJ s u pre acc' nx) (I, o) s₁ { s₁ with heap := h', toks := tk } := by
  subst e
  refine turn_end ((u, listOf (List.toArray (pre ++ vs')) n') :: news.filter fun p => decide (p.1 ≠ I) && decide (p.1 ≠ u)) F N hI (fun p hp => ?_) (fun p hp => ?_) ⟨ag, n', _, vs', rfl, fun p hp => ?_, R.mono fun p hp hK => ⟨?_, hK.1⟩⟩
  · rcases List.mem_cons.mp hp with rfl | hp
    · exact hl
    · exact (List.mem_filter.mp hp).1
  · rcases List.mem_cons.mp hp with rfl | hp
    · exact hlI
    · have := (List.mem_filter.mp hp).2
      simp only [Bool.and_eq_true, decide_eq_true_eq] at this
      exact this.1
  · have := (List.mem_filter.mp hp).2
    simp only [Bool.and_eq_true, decide_eq_true_eq] at this
    exact this.2
  · refine .tail _ (List.mem_filter.mpr ⟨hp, ?_⟩)
    simp only [Bool.and_eq_true, decide_eq_true_eq]
    exact ⟨hK.2, hkl _ hK.1⟩
theorem rowsL_turn {s : Shared} {I : Addr} {o : Obj} {acc : List Row} {vs : List Value} {nx : List (Addr × Obj)} (R : RowsL (Ek s) nx acc vs) (hne : ∀ p ∈ nx, p.1 ≠ I) : RowsL (Ek2 s I) ((I, o) :: nx) acc vs :=
  R.mono fun p hp hK => ⟨.tail _ hp, hK, hne p hp⟩
theorem dj_of {s : Shared} {u L : Addr} {h₀ h : Heap} {pre vs' : List Value} {n' : Nat} {acc : List Row} {news : List (Addr × Obj)} (_N : News h₀ L h news) (hl : (u, listOf (List.toArray (pre ++ vs')) n') ∈ news) (hkl : ∀ a, Ek s a → a ≠ u) (R : RowsL (Ek s) news acc vs') :
    ∃ nx, (∀ p ∈ nx, p ∈ news) ∧ DJ s u pre acc nx := by
  refine ⟨(u, listOf (List.toArray (pre ++ vs')) n') :: news.filter fun p => decide (p.1 ≠ u), fun p hp => ?_, n', _, vs', rfl, fun p hp => ?_, R.mono fun p hp hK => ⟨.tail _ (List.mem_filter.mpr ⟨hp, decide_eq_true (hkl _ hK)⟩), hK⟩⟩
  · rcases List.mem_cons.mp hp with rfl | hp
    · exact hl
    · exact (List.mem_filter.mp hp).1
  · exact of_decide_eq_true (List.mem_filter.mp hp).2
structure PlD (hd : Str) : Prop where
  qu : (hd == Str.ofString "quote") = false
  li : (([Str.ofString "function", Str.ofString "->"] : List Str).any fun x => x == hd) = false
  eq : (([Str.ofString "=", Str.ofString "+="] : List Str).any fun x => x == hd) = false
  lo : (hd == Str.ofString "local") = false
  fo : (hd == Str.ofString "for") = false
  co : (hd == Str.ofString "comprehension") = false
noncomputable abbrev IFW : List Str := [Str.ofString "if", Str.ofString "while"]
section
variable {n : Nat}
theorem deed_plain {ky : Str} {n : Nat} {ps : List Tr} {ds : Nat → Bool → List Row} {uu : Bool} (hp : PlD ky) (hu' : (IFW.any fun y => y == ky) = uu) (hLs : ∀ i t, ps[i]? = some t → DeedOk w t (ds i) n) :
    DeedOk w (.ex ky ps) (fun b => (List.range ps.length).flatMap fun i => ds i (b && !uu)) (n + 1) := by
  intro g u v b O ht hgu A s vs k hg r hu hz
  have hkl := keep_u hu
  k_extra "qB"; obtain ⟨p1, p2, p3, p4, p5, p6⟩ := hp; k_extra "qC"
  subst hu'
  k_extra "qB"; refine TreeAt.ex_k ht ?_; clear ht; intro a t1 t2 c ws eK hT hB hts; subst eK; k_extra "qC"
  have hlen := TreesAt.length hts
  replace hu : s.heap.get? u = some (listOf (List.toArray (vs ++ [])) k) := by rw [List.append_nil]; exact hu
  refine' enter [((Str.ofString "tree"), .ref a), ((Str.ofString "is_sure"), .bool b), ((Str.ofString "rows"), .ref u)] (O.keeps hg) r ?k6 ?k7 ?k9 ?kB ?_ ?c1 ?c2 ?c3 ?c4 ?c5; k_extra "eN"
  refine start1_k F hg hgu hL' hu ?_; intro hb F N hgh _ hk
  have O' := O.keeps hgh
  have hub : hb.get? u = none := (N _ (.head _)).2.2
  have hR : RowsL (Ek s) [(u, listOf (List.toArray (vs ++ [])) k)] [] [] := .nil
  have c1 : ∀ i t v b', ps[i]? = some t → TreeAt hb t v → DeedAt w hb u v b' (ds i b') n := fun i t v b' e h => hLs i t e hb u v b' O' h hub
  have hkl2 : ∀ I a, Ek2 s I a → a ≠ u := fun I a h => hkl a h.1
  replace hT := hT.keeps hgh
  replace hB := hB.keeps hgh
  replace hts := TreesAt.keeps hgh _ hts
  have X := OkH.X O'; have Tp := OkH.top O'
  cases b
  · k_steps
    rename Fr _ _ _ _ => F1
    rename News _ _ _ _ => N1
    refine ex1_2 (dj_of (s := s) (u := u) (pre := vs) (vs' := []) (acc := []) N1 (by k_mem) hkl .nil) ?_; intro nx0 hsub hj
    have N4 := News.sub N1 hsub
    refine iterTup [] (fun i nx => DJ s u vs ((List.range i).flatMap fun i => ds i false) nx) rfl r.hd ?_ hB F1 N4 hj ?_ ?_
    · exact Nat.ne_of_lt (Nat.lt_of_lt_of_le hB.lt F1.above)
    · intro i v q nx h tk I o hv hI hne gR78 F2 N2; k_extra "qD"; refine ex3_3 gR78 ?_; clear gR78; intro n' rs' vs' eK; subst eK; intro hrs' R'
      refine ex1_2 (treesAt_get hts i v (by simpa using hv)) ?_; intro t ht' hta
      have hi : i < ps.length := by
        rcases Nat.lt_or_ge i ps.length with h | h
        · exact h
        · rw [List.getElem?_eq_none h] at ht'; cases ht'
      have c2 := c1 i t v false ht' hta
      have R2 := rowsL_turn (o := o) R' hne
      have hlI : @Ne Nat u I := hne _ (.head _)
      have hkI := hkl2 I
      have hz2 := len_next (fun i => ds i false) hi
      have hz3 := Nat.le_trans (Nat.add_le_add_left hz2 vs.length) hz
      (try dsimp only at hz3)
      rw [← Nat.add_assoc] at hz3
      clear F1 N1 hR hne R' c1 hz2 N4 hsub hj
      k_steps
      rename RowsL _ _ _ _ => R3
      exact turn_end_dj (by assumption) (by assumption) (by k_mem) (by k_mem) hlI hkl (Agree.set (Agree.over _) rfl) R3 (range_next _ _).symm
    · intro q nx h tk gR79 F2 N2; k_extra "qD"; refine ex3_3 gR79 ?_; clear gR79; intro n' rs' vs' eK; subst eK; intro hrs' R'
      clear F1 N1 hR N4 hsub hj
      k_steps
      exact deed_end S hk (by assumption) (by assumption) (by k_mem) (R'.eqr (by rw [List.size_toArray, hlen]; rfl))
  · k_steps
    rename Fr _ _ _ _ => F1
    rename News _ _ _ _ => N1
    refine ex1_2 (dj_of (s := s) (u := u) (pre := vs) (vs' := []) (acc := []) N1 (by k_mem) hkl .nil) ?_; intro nx0 hsub hj
    have N4 := News.sub N1 hsub
    refine iterTup [] (fun i nx => DJ s u vs ((List.range i).flatMap fun i => ds i (!(IFW.any fun y => y == ky))) nx) rfl r.hd ?_ hB F1 N4 hj ?_ ?_
    · exact Nat.ne_of_lt (Nat.lt_of_lt_of_le hB.lt F1.above)
    · intro i v q nx h tk I o hv hI hne gR80 F2 N2; k_extra "qD"; refine ex3_3 gR80 ?_; clear gR80; intro n' rs' vs' eK; subst eK; intro hrs' R'
      refine ex1_2 (treesAt_get hts i v (by simpa using hv)) ?_; intro t ht' hta
      have hi : i < ps.length := by
        rcases Nat.lt_or_ge i ps.length with h | h
        · exact h
        · rw [List.getElem?_eq_none h] at ht'; cases ht'
      have c2 := c1 i t v (!(IFW.any fun y => y == ky)) ht' hta
      have R2 := rowsL_turn (o := o) R' hne
      have hlI : @Ne Nat u I := hne _ (.head _)
      have hkI := hkl2 I
      have hz2 := len_next (fun i => ds i (!(IFW.any fun y => y == ky))) hi
      have hz3 := Nat.le_trans (Nat.add_le_add_left hz2 vs.length) hz
      (try dsimp only at hz3)
      rw [← Nat.add_assoc] at hz3
      clear F1 N1 hR hne R' c1 hz2 N4 hsub hj
      k_steps
      rename RowsL _ _ _ _ => R3
      exact turn_end_dj (by assumption) (by assumption) (by k_mem) (by k_mem) hlI hkl (Agree.set (Agree.over _) rfl) R3 (range_next _ _).symm
    · intro q nx h tk gR81 F2 N2; k_extra "qD"; refine ex3_3 gR81 ?_; clear gR81; intro n' rs' vs' eK; subst eK; intro hrs' R'
      clear F1 N1 hR N4 hsub hj
      k_steps
      exact deed_end S hk (by assumption) (by assumption) (by k_mem) (R'.eqr (by rw [List.size_toArray, hlen]; rfl))
theorem deed_locs {y : Str} {z : T} {n : Nat} {d : Bool → List Row} (hL : DeedOk w (T.set y z).tr d n) : DeedOk w (T.locs y z).tr d (n + 1) := by
  have hLs : ∀ (i : Nat) t, [(T.set y z).tr][i]? = some t → DeedOk w t ((fun _ => d) i) n := fun i t e => by
    cases i with
    | zero => simp only [List.getElem?_cons_zero, Option.some.injEq] at e; subst e; exact hL
    | succ i => simp at e
  suffices h : DeedOk w (T.locs y z).tr (fun b => (List.range [(T.set y z).tr].length).flatMap fun i => (fun _ => d) i (b && true)) (n + 1) by
    have e : (fun b => (List.range [(T.set y z).tr].length).flatMap fun i => (fun _ => d) i (b && true)) = d := by
      funext b; cases b <;> simp [List.range_succ]
    rw [e] at h; exact h
  obtain ⟨ps, hps⟩ : ∃ ps, ps = [(T.set y z).tr] := ⟨_, rfl⟩
  obtain ⟨ds, hds⟩ : ∃ ds : Nat → Bool → List Row, ds = fun _ => d := ⟨_, rfl⟩
  rw [← hps, ← hds] at hLs ⊢
  intro g u v b O ht hgu A s vs k hg r hu hz
  have hkl := keep_u hu
  k_extra "qB"; refine TreeAt.ex_k ht ?_; clear ht; intro a t1 t2 c ws eK hT hB hts; subst eK; k_extra "qC"
  have hts' := hts
  simp only [TreesAt.e1, TreesAt.e2, TreeAt.e1, TreeAt.e2, TreeAt.e3] at hts'
  refine ex2_3 hts' ?_; clear hts'; intro _ _ eK; subst eK; intro gN82 eK; subst eK; refine ex5_3 gN82 ?_; clear gN82; intro e1 u3 u4 f1 ws2 eK; subst eK; intro hE _
  replace hts : TreesAt g ps [.ref e1] := by rw [hps]; simpa only [T.tr_e] using hts
  have hlen := TreesAt.length hts
  replace hu : s.heap.get? u = some (listOf (List.toArray (vs ++ [])) k) := by rw [List.append_nil]; exact hu
  refine' enter [((Str.ofString "tree"), .ref a), ((Str.ofString "is_sure"), .bool b), ((Str.ofString "rows"), .ref u)] (O.keeps hg) r ?k6 ?k7 ?k9 ?kB ?_ ?c1 ?c2 ?c3 ?c4 ?c5; k_extra "eN"
  refine start1_k F hg hgu hL' hu ?_; intro hb F N hgh _ hk
  have O' := O.keeps hgh
  have hub : hb.get? u = none := (N _ (.head _)).2.2
  have hR : RowsL (Ek s) [(u, listOf (List.toArray (vs ++ [])) k)] [] [] := .nil
  have c1 : ∀ i t v b', ps[i]? = some t → TreeAt hb t v → DeedAt w hb u v b' (ds i b') n := fun i t v b' e h => hLs i t e hb u v b' O' h hub
  have hkl2 : ∀ I a, Ek2 s I a → a ≠ u := fun I a h => hkl a h.1
  replace hT := hT.keeps hgh
  replace hB := hB.keeps hgh
  replace hE := hE.keeps hgh
  replace hts := TreesAt.keeps hgh _ hts
  have X := OkH.X O'; have Tp := OkH.top O'
  cases b
  · k_steps
    rename Fr _ _ _ _ => F1
    rename News _ _ _ _ => N1
    refine ex1_2 (dj_of (s := s) (u := u) (pre := vs) (vs' := []) (acc := []) N1 (by k_mem) hkl .nil) ?_; intro nx0 hsub hj
    have N4 := News.sub N1 hsub
    refine iterTup [] (fun i nx => DJ s u vs ((List.range i).flatMap fun i => ds i false) nx) rfl r.hd ?_ hB F1 N4 hj ?_ ?_
    · exact Nat.ne_of_lt (Nat.lt_of_lt_of_le hB.lt F1.above)
    · intro i v q nx h tk I o hv hI hne gR83 F2 N2; k_extra "qD"; refine ex3_3 gR83 ?_; clear gR83; intro n' rs' vs' eK; subst eK; intro hrs' R'
      refine ex1_2 (treesAt_get hts i v (by simpa using hv)) ?_; intro t ht' hta
      have hi : i < ps.length := by
        rcases Nat.lt_or_ge i ps.length with h | h
        · exact h
        · rw [List.getElem?_eq_none h] at ht'; cases ht'
      have c2 := c1 i t v false ht' hta
      have R2 := rowsL_turn (o := o) R' hne
      have hlI : @Ne Nat u I := hne _ (.head _)
      have hkI := hkl2 I
      have hz2 := len_next (fun i => ds i false) hi
      have hz3 := Nat.le_trans (Nat.add_le_add_left hz2 vs.length) hz
      (try dsimp only at hz3)
      rw [← Nat.add_assoc] at hz3
      clear F1 N1 hR hne R' c1 hz2 N4 hsub hj
      k_steps
      rename RowsL _ _ _ _ => R3
      exact turn_end_dj (by assumption) (by assumption) (by k_mem) (by k_mem) hlI hkl (Agree.set (Agree.over _) rfl) R3 (range_next _ _).symm
    · intro q nx h tk gR84 F2 N2; k_extra "qD"; refine ex3_3 gR84 ?_; clear gR84; intro n' rs' vs' eK; subst eK; intro hrs' R'
      clear F1 N1 hR N4 hsub hj
      k_steps
      exact deed_end S hk (by assumption) (by assumption) (by k_mem) (R'.eqr (by rw [List.size_toArray, hlen]; rfl))
  · k_steps
    rename Fr _ _ _ _ => F1
    rename News _ _ _ _ => N1
    refine ex1_2 (dj_of (s := s) (u := u) (pre := vs) (vs' := []) (acc := []) N1 (by k_mem) hkl .nil) ?_; intro nx0 hsub hj
    have N4 := News.sub N1 hsub
    refine iterTup [] (fun i nx => DJ s u vs ((List.range i).flatMap fun i => ds i (!(IFW.any fun y => y == Str.ofString "local"))) nx) rfl r.hd ?_ hB F1 N4 hj ?_ ?_
    · exact Nat.ne_of_lt (Nat.lt_of_lt_of_le hB.lt F1.above)
    · intro i v q nx h tk I o hv hI hne gR85 F2 N2; k_extra "qD"; refine ex3_3 gR85 ?_; clear gR85; intro n' rs' vs' eK; subst eK; intro hrs' R'
      refine ex1_2 (treesAt_get hts i v (by simpa using hv)) ?_; intro t ht' hta
      have hi : i < ps.length := by
        rcases Nat.lt_or_ge i ps.length with h | h
        · exact h
        · rw [List.getElem?_eq_none h] at ht'; cases ht'
      have c2 := c1 i t v (!(IFW.any fun y => y == Str.ofString "local")) ht' hta
      have R2 := rowsL_turn (o := o) R' hne
      have hlI : @Ne Nat u I := hne _ (.head _)
      have hkI := hkl2 I
      have hz2 := len_next (fun i => ds i (!(IFW.any fun y => y == Str.ofString "local"))) hi
      have hz3 := Nat.le_trans (Nat.add_le_add_left hz2 vs.length) hz
      (try dsimp only at hz3)
      rw [← Nat.add_assoc] at hz3
      clear F1 N1 hR hne R' c1 hz2 N4 hsub hj
      k_steps
      rename RowsL _ _ _ _ => R3
      exact turn_end_dj (by assumption) (by assumption) (by k_mem) (by k_mem) hlI hkl (Agree.set (Agree.over _) rfl) R3 (range_next _ _).symm
    · intro q nx h tk gR86 F2 N2; k_extra "qD"; refine ex3_3 gR86 ?_; clear gR86; intro n' rs' vs' eK; subst eK; intro hrs' R'
      clear F1 N1 hR N4 hsub hj
      k_steps
      exact deed_end S hk (by assumption) (by assumption) (by k_mem) (R'.eqr (by rw [List.size_toArray, hlen]; rfl))
end
example : Sep := by w_top off; first | walk1 | trivial
noncomputable def Marker : Prop := True
structure Stuck (p : Prop) : Prop where
  out : p
theorem rowsL_upd {s : Shared} {l : Addr} {o o' : Obj} {rows : List Row} {vs : List Value} {news : List (Addr × Obj)} {g : Obj → List (Addr × Obj)} (U : UpdF l o news g) (R : RowsL (Ek2 s l) news rows vs) : RowsL (Ek s) (g o') rows vs := by
  refine ex2_4 (U.split) ?_; intro pr po e hg _ _
  rw [hg]
  refine R.mono fun p hp hk => ⟨?_, hk.1⟩
  rw [e] at hp
  rcases List.mem_append.mp hp with hp | hp
  · exact List.mem_append_left _ hp
  · rcases List.mem_cons.mp hp with rfl | hp
    · exact absurd rfl hk.2
    · exact List.mem_append_right _ (.tail _ hp)
noncomputable def Marker2 : Prop := True
theorem rows_pack {s : Shared} {u lu : Addr} {ol ou : Obj} {rows : List Row} {rv : List Value} {news : List (Addr × Obj)} (hl : (lu, ol) ∈ news) (hu : (u, ou) ∈ news) (hlu : @Ne Nat u lu) (hkl2 : ∀ a, Ek2 s lu a → a ≠ u) (R : RowsL (Ek2 s lu) news rows rv) :
    ∃ rest, (∀ p ∈ (lu, ol) :: (u, ou) :: rest, p ∈ news) ∧ (∀ p ∈ (u, ou) :: rest, p.1 ≠ lu) ∧ (∀ p ∈ rest, p.1 ≠ u) ∧ RowsL (Ek2 s lu) ((lu, ol) :: (u, ou) :: rest) rows rv := by
  refine ⟨news.filter fun p => decide (p.1 ≠ lu) && decide (p.1 ≠ u), allCons hl (allCons hu fun p hp => (List.mem_filter.mp hp).1), neCons hlu fun p hp => ?_, fun p hp => ?_, R.mono fun p hp hk => ⟨.tail _ (.tail _ (List.mem_filter.mpr ⟨hp, ?_⟩)), hk⟩⟩
  · have := (List.mem_filter.mp hp).2
    simp only [Bool.and_eq_true, decide_eq_true_eq] at this
    exact this.1
  · have := (List.mem_filter.mp hp).2
    simp only [Bool.and_eq_true, decide_eq_true_eq] at this
    exact this.2
  · simp only [Bool.and_eq_true, decide_eq_true_eq]
    exact ⟨hk.2, hkl2 _ hk⟩
theorem walkR_u {E : Value → Shared → Prop} {bo : List Str} {A : Around} {s s₀ : Shared} {u f b : Addr} {v : Value} {bvs vs rv : List Value} {k n bn z : Nat} {xs : List Str} {rows : List Row} {t : Tr} {d : List Str → List Str} {Q : Value → Shared → Prop} {h₀ : Heap} {L : Addr} {m : Str → Option Value} {news : List (Addr × Obj)} {g : Obj → List (Addr × Obj)} (c : WalkF w f t d z n) (F : Fr h₀ L s.heap m) (N : News h₀ L s.heap news) (O : OkH w h₀) (r : Rm A n) (ht : TreeAt h₀ t v) (U : UpdF u (listOf vs.toArray k) news g) (hb : s.heap.get? b = some (listOf bvs.toArray bn)) (hsb : StrsAre bvs bo) (hbu : @Ne Nat b u) (hz' : bo.length + z ≤ 2 ^ 19)
    (hs : StrsAre vs xs) (hz : xs.length + (d bo).length ≤ 2 ^ 20) (R : RowsL (Ek2 s₀ u) news rows rv)
    (kk : ∀ vs' k' h' tk, StrsAre vs' (xs ++ d bo) → RowsL (Ek s₀) (g (listOf vs'.toArray k')) rows rv → Fr h₀ L h' m → News h₀ L h' (g (listOf vs'.toArray k')) → Q .none { s with heap := h', toks := tk }) : wpAny (model PR w) A (call (.ref f) [v, .ref b, .ref u]) Q E s :=
  walk_u c F N O r ht U hb hsb hbu hz' hs hz fun vs' k' h' tk hs' F' N' => kk vs' k' h' tk hs' (rowsL_upd U R) F' N'
section
example : True := by
 k_with "mcall ref" => ((with_reducible refine (?_ : wpAny _ _ (call (.ref 328) _) _ _ _)); (have mk' : Marker2 := by with_reducible assumption); clear mk'; refine Stuck.out ?_)
 k_with "mcall builtin:list.append" => ((with_reducible refine (?_ : wpAny _ _ (call (Value.builtin _) [Value.ref _, Value.ref _]) _ _ _)); k_extra "mE rowapp")
 k_with "mE dek" => exact ⟨dfresh_in (by assumption) (by assumption) (by k_mem) (by k_ne), by k_ne⟩
 k_with "mcall ref" => ((with_reducible refine (?_ : wpAny _ _ (call (.ref 335) _) _ _ _)); (have mk' : Marker := by with_reducible assumption); clear mk'; refine Stuck.out ?_)
 exact trivial
variable {n : Nat}
theorem deed_fn {y : Str} {as : List Ar} {t : T} {n : Nat} {d : Bool → List Row} {z : Nat} (hy : (y == Str.ofString "") = false) (ha : as.length ≤ 100) (hI : WalkF w 321 (T.fn y as t).tr (inside as t) z n) (hzz : z ≤ 2 ^ 19) (hil : (inside as t []).length ≤ 2 ^ 19) (hn : 1 ≤ n) (hL : DeedOk w t.tr d n) :
    DeedOk w (T.fn y as t).tr (fun b => .held (inside as t []) :: (d false ++ [.as y b])) (n + 1) := by
  intro g u v b O ht hgu A s vs k hg r hu hz
  have hkl := keep_u hu
  have ht0 := ht
  k_extra "qB"; (first | (refine TreeAt.e2R ht ?_; clear ht; intro t1 t2 b1 v' v2 hT hB gA1 hv2) | (refine TreeAt.e2_k ht ?_; clear ht; intro a t1 t2 b1 v' v2 eK hT hB gA1 hv2; subst eK)); refine TreeAt.ex_k gA1 ?_; clear gA1; intro c u3 u4 d1 vs2 eK hC hD gT2; subst eK; refine TreesAt.cons_k gT2 ?_; clear gT2; intro v3 ps eK gA3 hps; subst eK; (first | refine TreeAt.sym_k gA3 ?_ | refine TreeAt.one_k gA3 ?_); clear gA3; intro e1 u5 u6 eK hE; subst eK; k_extra "qC"
  replace hu : s.heap.get? u = some (listOf (List.toArray (vs ++ [])) k) := by rw [List.append_nil]; exact hu
  refine' enter [((Str.ofString "tree"), .ref a), ((Str.ofString "is_sure"), .bool b), ((Str.ofString "rows"), .ref u)] (O.keeps hg) r ?k6 ?k7 ?k9 ?kB ?_ ?c1 ?c2 ?c3 ?c4 ?c5; k_extra "eN"
  refine start1_k F hg hgu hL' hu ?_; intro hb F N hgh _ hk
  have O' := O.keeps hgh
  have hub : hb.get? u = none := (N _ (.head _)).2.2
  have hR : RowsL (Ek s) [(u, listOf (List.toArray (vs ++ [])) k)] [] [] := .nil
  have c1 := hL hb u v2 false O' (TreeAt.keeps hgh _ hv2) hub
  have hyy : (y != Str.ofString "") = true := by show (!(y == Str.ofString "")) = true; rw [hy]; rfl
  have hpl := TreesAt.length hps
  rw [List.length_map] at hpl
  have hpz : ps.length ≤ 100 := by k_extra "mE lia"
  replace hT := hT.keeps hgh
  replace hB := hB.keeps hgh
  replace hC := hC.keeps hgh
  replace hD := hD.keeps hgh
  replace hE := hE.keeps hgh
  replace ht0 := TreeAt.keeps hgh _ ht0
  clear hps hv2
  simp only [List.length_append, List.length_cons, List.length_nil] at hz
  have X := OkH.X O'; have Tp := OkH.top O'
  k_steps
  rename RowsL _ _ _ _ => R1
  exact deed_end S hk (by assumption) (by assumption) (by k_mem) (R1.eqr (by walk_at "E eqr"))
theorem deed_arr {as : List Ar} {t : T} {n : Nat} {d : Bool → List Row} {z : Nat} (ha : as.length ≤ 100) (hI : WalkF w 321 (T.arr as t).tr (inside as t) z n) (hzz : z ≤ 2 ^ 19) (hil : (inside as t []).length ≤ 2 ^ 19) (hn : 1 ≤ n) (hL : DeedOk w t.tr d n) :
    DeedOk w (T.arr as t).tr (fun _ => .held (inside as t []) :: d false) (n + 1) := by
  intro g u v b O ht hgu A s vs k hg r hu hz
  have hkl := keep_u hu
  have ht0 := ht
  k_extra "qB"; (first | (refine TreeAt.e2R ht ?_; clear ht; intro t1 t2 b1 v' v2 hT hB gA1 hv2) | (refine TreeAt.e2_k ht ?_; clear ht; intro a t1 t2 b1 v' v2 eK hT hB gA1 hv2; subst eK)); refine TreeAt.ex_k gA1 ?_; clear gA1; intro c u3 u4 d1 ps eK hC hD hps; subst eK; k_extra "qC"
  replace hu : s.heap.get? u = some (listOf (List.toArray (vs ++ [])) k) := by rw [List.append_nil]; exact hu
  refine' enter [((Str.ofString "tree"), .ref a), ((Str.ofString "is_sure"), .bool b), ((Str.ofString "rows"), .ref u)] (O.keeps hg) r ?k6 ?k7 ?k9 ?kB ?_ ?c1 ?c2 ?c3 ?c4 ?c5; k_extra "eN"
  refine start1_k F hg hgu hL' hu ?_; intro hb F N hgh _ hk
  have O' := O.keeps hgh
  have hub : hb.get? u = none := (N _ (.head _)).2.2
  have hR : RowsL (Ek s) [(u, listOf (List.toArray (vs ++ [])) k)] [] [] := .nil
  have c1 := hL hb u v2 false O' (TreeAt.keeps hgh _ hv2) hub
  have hpl := TreesAt.length hps
  rw [List.length_map] at hpl
  have hpz : ps.length ≤ 100 := by k_extra "mE lia"
  replace hT := hT.keeps hgh
  replace hB := hB.keeps hgh
  replace hC := hC.keeps hgh
  replace hD := hD.keeps hgh
  replace ht0 := TreeAt.keeps hgh _ ht0
  clear hps hv2
  simp only [List.length_append, List.length_cons, List.length_nil] at hz
  have X := OkH.X O'; have Tp := OkH.top O'
  k_steps
  rename RowsL _ _ _ _ => R1
  exact deed_end S hk (by assumption) (by assumption) (by k_mem) (R1.eqr (by walk_at "E eqr"))
theorem deed_cmp {p : T} {y : Str} {q : T} {n : Nat} {d e : Bool → List Row} {z : Nat} (hW : WalkF w 328 (T.cmp p y q).tr (T.cmp p y q).walk z n) (hzz : z ≤ 2 ^ 19) (hil : ((T.cmp p y q).walk []).length ≤ 2 ^ 19) (hL : DeedOk w q.tr d n) (hM : DeedOk w p.tr e n) :
    DeedOk w (T.cmp p y q).tr (fun b => ((d b ++ [.as y true]) ++ [.held ((T.cmp p y q).walk [])]) ++ e false) (n + 1) := by
  intro g u v b O ht hgu A s vs k hg r hu hz
  have hkl := keep_u hu
  have ht0 := ht
  k_extra "qB"; (first | (refine TreeAt.e2R ht ?_; clear ht; intro t1 t2 b1 v2 v4 hT hB hv2 gA1) | (refine TreeAt.e2_k ht ?_; clear ht; intro a t1 t2 b1 v2 v4 eK hT hB hv2 gA1; subst eK)); (first | (refine TreeAt.e2sR gA1 ?_; clear gA1; intro u3 u4 d1 g1 u5 u6 v1 hC hD hG hv1) | (refine TreeAt.e2s_k gA1 ?_; clear gA1; intro c u3 u4 d1 g1 u5 u6 v1 eK hC hD hG hv1; subst eK)); k_extra "qC"
  replace hu : s.heap.get? u = some (listOf (List.toArray (vs ++ [])) k) := by rw [List.append_nil]; exact hu
  refine' enter [((Str.ofString "tree"), .ref a), ((Str.ofString "is_sure"), .bool b), ((Str.ofString "rows"), .ref u)] (O.keeps hg) r ?k6 ?k7 ?k9 ?kB ?_ ?c1 ?c2 ?c3 ?c4 ?c5; k_extra "eN"
  refine start1_k F hg hgu hL' hu ?_; intro hb F N hgh _ hk
  have O' := O.keeps hgh
  have hub : hb.get? u = none := (N _ (.head _)).2.2
  have hR : RowsL (Ek s) [(u, listOf (List.toArray (vs ++ [])) k)] [] [] := .nil
  have c1 := hL hb u v1 b O' (TreeAt.keeps hgh _ hv1) hub
  have c2 := hM hb u v2 false O' (TreeAt.keeps hgh _ hv2) hub
  replace hT := hT.keeps hgh
  replace hB := hB.keeps hgh
  replace hC := hC.keeps hgh
  replace hD := hD.keeps hgh
  replace hG := hG.keeps hgh
  replace ht0 := TreeAt.keeps hgh _ ht0
  clear hv1 hv2
  simp only [List.length_append, List.length_cons, List.length_nil] at hz
  have X := OkH.X O'; have Tp := OkH.top O'
  have mk : Marker := trivial
  k_steps
  refine ⟨?_⟩
  rename Marker => mk
  rename_i lu _ l1u _ _ _
  have hR2 : RowsL (Ek2 s lu) [(u, listOf (List.toArray (vs ++ [])) k)] [] [] := .nil
  have hkl2 : ∀ a, Ek2 s lu a → a ≠ u := fun a h => hkl a h.1
  clear mk hR
  have mk2 : Marker2 := trivial
  k_steps
  refine ⟨?_⟩
  rename Marker2 => mk2
  clear mk2 hR2
  rename Fr _ _ _ _ => F2
  rename News _ _ _ _ => N2
  rename RowsL _ _ _ _ => R2
  refine ex1_4 (rows_pack (u := u) (ou := listOf (List.toArray (vs ++ _)) _) (by k_mem : (lu, listOf (List.toArray []) 0) ∈ _) (by k_mem) (by k_ne) hkl2 R2) ?_; intro rest hr1 hr2 hr3 R4
  have N3 := News.sub N2 fun p hp => .tail _ (hr1 p hp)
  refine walkR_u hW F2 N3 O' (Rm.le (by assumption) (by k_extra "mE lia")) ht0 (UpdF.head hr2) (News.get N2 (by k_mem)) .nil (by k_ne) (by simp only [List.length_nil]; k_extra "mE lia") .nil (by simp only [List.length_nil]; k_extra "mE lia") R4 ?_
  intro vs' k' h' tk' hs' R3 F' N'
  (try dsimp only at N' R3)
  (try simp only [List.nil_append] at hs')
  clear R2 F2 N2 R4 N3 hr1 hkl2
  k_steps
  rename RowsL _ _ _ _ => R1
  exact deed_end S hk (by assumption) (by assumption) (by k_mem) (R1.eqr (by walk_at "E eqr"))
end
example : Sep := by w_top off; first | walk1 | trivial
theorem DeedOk.le {t : Tr} {d : Bool → List Row} {n k : Nat} (h : DeedOk w t d n) (hk : n ≤ k) : DeedOk w t d k := fun g u v b O ht hu A s vs m hg r => h g u v b O ht hu A s vs m hg (r.le hk)
theorem DeedOk.eqd {t : Tr} {d e : Bool → List Row} {n : Nat} (h : DeedOk w t d n) (hd : d = e) : DeedOk w t e n := hd ▸ h
section
theorem deed_two {ky : Str} {p q : Tr} {d e : Bool → List Row} {u : Bool} {n : Nat} (hp : PlD ky) (hu : (IFW.any fun y => y == ky) = u) (h1 : DeedOk w p d n) (h2 : DeedOk w q e n) : DeedOk w (.ex ky [p, q]) (fun b => d (b && !u) ++ e (b && !u)) (n + 1) := by
  refine (deed_plain (ps := [p, q]) (ds := fun i => if i = 0 then d else e) hp hu fun i t ht => ?_).eqd ?_
  · rcases i with _ | _ | i
    · simp only [List.getElem?_cons_zero, Option.some.injEq] at ht; subst ht; exact h1
    · simp only [List.getElem?_cons_succ, List.getElem?_cons_zero, Option.some.injEq] at ht; subst ht; exact h2
    · simp at ht
  · funext b; simp [List.range_succ]
theorem deed_one1 {ky : Str} {p : Tr} {d : Bool → List Row} {u : Bool} {n : Nat} (hp : PlD ky) (hu : (IFW.any fun y => y == ky) = u) (h1 : DeedOk w p d n) : DeedOk w (.ex ky [p]) (fun b => d (b && !u)) (n + 1) := by
  refine (deed_plain (ps := [p]) (ds := fun _ => d) hp hu fun i t ht => ?_).eqd ?_
  · rcases i with _ | i
    · simp only [List.getElem?_cons_zero, Option.some.injEq] at ht; subst ht; exact h1
    · simp at ht
  · funext b; simp [List.range_succ]
theorem deeds_ok : ∀ t : T, t.ok → t.sz ≤ 4096 → t.ht ≤ 100 → DeedOk w t.tr (t.rows T.H2) (9 * t.ht + 30) := by
  have pl1 : PlD (Str.ofString "block") := ⟨by decide, by decide, by decide, by decide, by decide, by decide⟩
  have pl2 : PlD (Str.ofString "if") := ⟨by decide, by decide, by decide, by decide, by decide, by decide⟩
  have pl3 : PlD (Str.ofString "while") := ⟨by decide, by decide, by decide, by decide, by decide, by decide⟩
  have pl4 : PlD (Str.ofString "let") := ⟨by decide, by decide, by decide, by decide, by decide, by decide⟩
  have pl5 : PlD (Str.ofString ".") := ⟨by decide, by decide, by decide, by decide, by decide, by decide⟩
  intro t
  induction t with
  | sym x => intro _ _ _; exact (deed_leaf (t := .sym x) rfl).le (by k_extra "mE lia")
  | one => intro _ _ _; exact (deed_leaf (t := .one) rfl).le (by k_extra "mE lia")
  | quo x => intro _ _ _; exact deed_quo.le (by k_extra "mE lia")
  | loc x => intro _ _ _; exact deed_loc.le (by k_extra "mE lia")
  | dot x => intro _ _ _; exact ((deed_two pl5 (u := false) (by decide) (deed_leaf (t := .sym x) rfl) (deed_leaf (t := .sym (Str.ofString "v")) rfl)).le (by k_extra "mE lia")).eqd rfl
  | set x v ih => intro ho hz hh; simp only [T.sz_e, T.ht_e] at hz hh; exact (deed_set (ih ho (by k_extra "mE lia") (by k_extra "mE lia"))).le (by simp only [T.ht_e]; k_extra "mE lia")
  | up x v ih => intro ho hz hh; simp only [T.sz_e, T.ht_e] at hz hh; exact (deed_up (ih ho (by k_extra "mE lia") (by k_extra "mE lia"))).le (by simp only [T.ht_e]; k_extra "mE lia")
  | locs x v ih => intro ho hz hh; simp only [T.sz_e, T.ht_e] at hz hh; exact (deed_locs (deed_set (ih ho (by k_extra "mE lia") (by k_extra "mE lia")))).le (by simp only [T.ht_e]; k_extra "mE lia")
  | fn y as v ih =>
    intro ho hz hh
    have hz' := hz
    simp only [T.sz_e, T.ht_e] at hz' hh
    have h1 := inside_okf ho hz
    have h2 := (T.fn y as v).walk_len []
    have h3 : (inside as v []).length ≤ (T.fn y as v).sz := by
      refine Nat.le_trans ?_ h2
      simp only [T.walk_e, inside, List.length_append (as := sy y [])]; k_extra "mE lia"
    exact (deed_fn (n := 9 * v.ht + 30) ho.1 ho.2.1 (h1.le (by k_extra "mE lia")) (by k_extra "mE lia") (by simp only [T.sz_e] at h3; k_extra "mE lia") (by k_extra "mE lia") (ih ho.2.2 (by k_extra "mE lia") (by k_extra "mE lia"))).le (by simp only [T.ht_e]; k_extra "mE lia")
  | arr as v ih =>
    intro ho hz hh
    have hz' := hz
    simp only [T.sz_e, T.ht_e] at hz' hh
    have h1 := inside_oka ho hz
    have h3 : (inside as v []).length ≤ (T.arr as v).sz := (T.arr as v).walk_len []
    exact (deed_arr (n := 9 * v.ht + 30) ho.1 (h1.le (by k_extra "mE lia")) (by k_extra "mE lia") (by simp only [T.sz_e] at h3; k_extra "mE lia") (by k_extra "mE lia") (ih ho.2 (by k_extra "mE lia") (by k_extra "mE lia"))).le (by simp only [T.ht_e]; k_extra "mE lia")
  | blk p q ihp ihq =>
    intro ho hz hh
    simp only [T.sz_e, T.ht_e] at hz hh
    exact ((deed_two pl1 (u := false) (by decide) ((ihp ho.1 (by k_extra "mE lia") (by k_extra "mE lia")).le (k := 9 * max p.ht q.ht + 30) (by k_extra "mE lia")) ((ihq ho.2 (by k_extra "mE lia") (by k_extra "mE lia")).le (by k_extra "mE lia"))).le (by simp only [T.ht_e]; k_extra "mE lia")).eqd (by funext b; cases b <;> rfl)
  | ite p q ihp ihq =>
    intro ho hz hh
    simp only [T.sz_e, T.ht_e] at hz hh
    exact ((deed_two pl2 (u := true) (by decide) ((ihp ho.1 (by k_extra "mE lia") (by k_extra "mE lia")).le (k := 9 * max p.ht q.ht + 30) (by k_extra "mE lia")) ((ihq ho.2 (by k_extra "mE lia") (by k_extra "mE lia")).le (by k_extra "mE lia"))).le (by simp only [T.ht_e]; k_extra "mE lia")).eqd (by funext b; cases b <;> rfl)
  | whl p q ihp ihq =>
    intro ho hz hh
    simp only [T.sz_e, T.ht_e] at hz hh
    exact ((deed_two pl3 (u := true) (by decide) ((ihp ho.1 (by k_extra "mE lia") (by k_extra "mE lia")).le (k := 9 * max p.ht q.ht + 30) (by k_extra "mE lia")) ((ihq ho.2 (by k_extra "mE lia") (by k_extra "mE lia")).le (by k_extra "mE lia"))).le (by simp only [T.ht_e]; k_extra "mE lia")).eqd (by funext b; cases b <;> rfl)
  | lt x p q ihp ihq =>
    intro ho hz hh
    simp only [T.sz_e, T.ht_e] at hz hh
    exact ((deed_two pl4 (u := false) (by decide) (deed_one1 pl1 (u := false) (by decide) (deed_set (y := x) ((ihp ho.1 (by k_extra "mE lia") (by k_extra "mE lia")).le (k := 9 * max p.ht q.ht + 30) (by k_extra "mE lia")))) ((ihq ho.2 (by k_extra "mE lia") (by k_extra "mE lia")).le (by k_extra "mE lia"))).le (by simp only [T.ht_e]; k_extra "mE lia")).eqd (by funext b; cases b <;> rfl)
  | fr x p q ihp ihq =>
    intro ho hz hh
    simp only [T.sz_e, T.ht_e] at hz hh
    exact ((deed_fr (y := x) ((ihp ho.1 (by k_extra "mE lia") (by k_extra "mE lia")).le (k := 9 * max p.ht q.ht + 30) (by k_extra "mE lia")) ((ihq ho.2 (by k_extra "mE lia") (by k_extra "mE lia")).le (by k_extra "mE lia"))).le (by simp only [T.ht_e]; k_extra "mE lia")).eqd rfl
  | cmp p x q ihp ihq =>
    intro ho hz hh
    have hz' := hz
    have hh' := hh
    simp only [T.sz_e, T.ht_e] at hz' hh'
    have hw := walk_ok (.cmp p x q) ho hz
    have h2 := (T.cmp p x q).walk_len []
    exact ((deed_cmp (n := 9 * max p.ht q.ht + 40) (hw.le (by simp only [T.ht_e]; k_extra "mE lia")) (by simp only [T.ht_e]; k_extra "mE lia") (by k_extra "mE lia") ((ihq ho.2 (by k_extra "mE lia") (by k_extra "mE lia")).le (by k_extra "mE lia")) ((ihp ho.1 (by k_extra "mE lia") (by k_extra "mE lia")).le (by k_extra "mE lia"))).le (by simp only [T.ht_e]; k_extra "mE lia")).eqd rfl
end
example : Sep := by w_top off; first | walk1 | trivial
section
variable {prog : Program} {A : Around} {E : Value → Shared → Prop} {s : Shared} {env : Env} {h₀ : Heap} {target : Expr} {body : List Stmt} {Q : Flow → Shared → Prop}
theorem iterGW1 {prog : Program} {target : Expr} {body : List Stmt} {A : Around} {env : Env} {h₀ : Heap} {I : Addr} {n : Nat} {P : Nat → Value → Prop} {St : Nat → Heap → Prop} {m₀ : Str → Option Value} {news : List (Addr × Obj)} {s₂ : Shared} (J : Nat → (Str → Option Value) → List (Addr × Obj) → Prop)
    (W : Walks prog w A I [I] [I] n P St) (hgo : ∀ i v (s : Shared) (Q : Unit → Shared → Prop) (E : Value → Shared → Prop), St i s.heap → Q () s → wpAny (model prog w) A (letOwnedTupleGo target (.ref I) v) Q E s)
    (hS2 : ∃ h₂, s₂ = { s with heap := h₂ } ∧ Le s.heap h₂) (hI : s.heap.get? I = none) (hSt : ∀ i h, St i h → ∃ o, h.get? I = some o) (st0 : St 0 s₂.heap)
    (F : Fr h₀ env.locals s.heap m₀) (N : News h₀ env.locals s.heap news) (hj : J 0 m₀ news)
    (turn : ∀ i v m₁ nx h tk o, i < n → P i v → (∀ p ∈ nx, p.1 ≠ I) → J i m₁ nx → Fr h₀ env.locals h m₁ → News h₀ env.locals h ((I, o) :: nx) →
      wpAny (model prog w) A (assign target env v) (fun _ s₃ => wpAny (model prog w) A (execs body env) (TurnPost h₀ env.locals (J (i + 1)) (I, o) { s with heap := h, toks := tk } Q) E s₃) E { s with heap := h, toks := tk })
    (done : ∀ m₁ nx h tk, J n m₁ nx → Fr h₀ env.locals h m₁ → News h₀ env.locals h nx → Q .next { s with heap := h, toks := tk }) :
    TurnsAt prog w A h₀ env target body Q E (.ref I) s₂ := by
  refine ex1_2 hS2 ?_; clear hS2; intro h₂ eK; subst eK; intro hpush
  have hne0 : ∀ b o, s.heap.get? b = some o → b ≠ I := fun b o e q => by rw [q, hI] at e; cases e
  have h0I : h₀.get? I = none := by
    cases q : h₀.get? I with
    | none => rfl
    | some o => exact absurd rfl (hne0 _ _ (F.keep _ _ q))
  obtain ⟨oL, a1, a2, hL, a3⟩ := id F.ns
  refine exI10 I [I] [I] n _ _ St m₀ news J ⟨rfl, KTurns.ofWalks W hgo, ?_, ?_, ?_, st0, Fr.le F hpush, News.le N hpush, hj, ?_, ?_⟩
  · intro hm; exact hne0 _ _ hL (List.mem_singleton.mp hm)
  · intro b hb; rw [List.mem_singleton.mp hb]; exact h0I
  · intro p hp hq; exact hne0 _ _ (N p hp).1 (List.mem_singleton.mp hq)
  · intro i v m₁ nx hh' tk' own hin hP hJ hoff hown hownget hmem hst F₁ N₁
    refine ex1_1 (hSt _ _ hst) ?_; intro oI hoI
    have hIn := hmem I (.head _) h0I oI hoI
    have hoffI : ∀ p ∈ nx, p.1 ≠ I := fun p hp e => hoff p hp (List.mem_singleton.mpr e)
    have N₂ : News h₀ env.locals hh' ((I, oI) :: nx) := fun p hp => by
      rcases List.mem_cons.mp hp with rfl | hp
      · exact N₁ _ (List.mem_append_left _ hIn)
      · exact N₁ _ (List.mem_append_right _ hp)
    have fin : ∀ s₃, TurnEnd h₀ env.locals (J (i + 1)) (I, oI) { s with heap := hh', toks := tk' } s₃ → LoopStepU h₀ env.locals [I] own (J (i + 1)) { s with heap := hh', toks := tk' } .next s₃ := by
      intro s₃ gR87; refine ex5_7 gR87 ?_; clear gR87; intro h' tk m' news' nx' e F' N' hit hsub hne hJ'
      refine ⟨rfl, h', tk, m', nx', e, F', fun p hp => ?_, fun p hp hq => hne p hp (List.mem_singleton.mp hq), hJ'⟩
      rcases List.mem_append.mp hp with hp | hp
      · have h1 := List.mem_singleton.mp (hown p hp)
        have : p = (I, oI) := by
          have h2 := hownget p hp
          have h3 : hh'.get? I = some p.2 := h1 ▸ h2
          obtain ⟨a, b⟩ := p
          dsimp only at h1 h3
          rw [show hh'.get? I = some oI from hoI] at h3
          rw [h1, Option.some.inj h3]
        rw [this]; exact N' _ hit
      · exact N' _ (hsub p hp)
    refine wpAny_mono (turn i v m₁ nx hh' tk' oI hin hP hoffI hJ F₁ N₂) (fun _ s₃ h₃ => wpAny_mono h₃ (fun f s₃ p => ?_) fun _ _ e => e) fun _ _ e => e
    cases f with
    | ret v => exact .ret p
    | brk => exact .brk p
    | next => exact .next (fin _ p)
    | cont => exact .cont (fin _ p)
  · rintro h' tk m' news' F' N' _ hJ
    exact done m' news' h' tk hJ F' N'
theorem iterStr {prog : Program} {E : Value → Shared → Prop} {target : Expr} {body : List Stmt} {A : Around} {s : Shared} {env : Env} {h₀ : Heap} {Q : Flow → Shared → Prop} {L : Addr} (st : List Str) {x : Str} {t : Tok} {m₀ : Str → Option Value} {news : List (Addr × Obj)} (J : Nat → List (Addr × Obj) → Prop) (hEL : env.locals = L)
    (hh : A.handled = none) (ht : ∃ x px, target = .Name x px)
    (F : Fr h₀ L s.heap m₀) (N : News h₀ L s.heap news) (hj : J 0 news)
    (turn : ∀ i c u q nx h tk I o, x.cps[i]? = some c → I = s.heap.objs.size → (∀ p ∈ nx, p.1 ≠ I) → J i nx → Fr h₀ L h (over st q m₀) → News h₀ L h ((I, o) :: nx) →
      wpAny (model prog w) A (assign target env (.str ⟨#[c]⟩ u)) (fun _ s₃ => wpAny (model prog w) A (execs body env) (TurnPost h₀ L (fun m nx => Agree st m₀ m ∧ J (i + 1) nx) (I, o) { s with heap := h, toks := tk } Q) E s₃) E { s with heap := h, toks := tk })
    (done : ∀ q nx h tk, J x.cps.size nx → Fr h₀ L h (over st q m₀) → News h₀ L h nx → Q .next { s with heap := h, toks := tk }) :
    ForG prog w A h₀ env target body Q E (.str x t) s := by
  subst hEL
  refine ex2_1 ht ?_; clear ht; intro nm px eK; subst eK
  have go : ∀ (T : String) (o : Obj), Walks prog w A s.heap.objs.size [s.heap.objs.size] [s.heap.objs.size] x.cps.size (SignAt x) (fun i h => h.IsStrIter s.heap.objs.size T x t i) → (s.heap.push o).IsStrIter s.heap.objs.size T x t 0 →
      TurnsAt prog w A h₀ env (.Name nm px) body Q E (.ref s.heap.objs.size) { s with heap := s.heap.push o } := fun T o W st0 =>
    iterGW1 (fun i m nx => Agree st m₀ m ∧ J i nx) W (fun i v s' Q' E' hst hq => letgo_any hq) ⟨_, rfl, fun b o e => Heap.get?_push_of_some _ e⟩ (Heap.get?_none_of_le (Nat.le_refl _)) (fun i h st => let ⟨o, ho, _⟩ := st; ⟨o, ho⟩) st0 F N ⟨Agree.refl _ _, hj⟩
      (fun i v m₁ nx h tk o hi hP hn hJ F₁ N₁ => by
        refine ex2_2 hP ?_; clear hP; intro c u hc eK; subst eK
        exact turn i c u m₁ nx h tk _ o hc rfl hn hJ.2 (by rw [hJ.1.eq] at F₁; exact F₁) N₁) fun m₁ nx h tk hJ F₁ N₁ => done m₁ nx h tk hJ.2 (by rw [hJ.1.eq] at F₁; exact F₁) N₁
  cases ha : x.cps.all (· < 128)
  · exact wpAny_pyIter_wide ha (go "str_iterator" _ (Walks.strWide hh _ x t) ⟨_, Heap.get?_push_size _ rfl, rfl, rfl⟩)
  · exact wpAny_pyIter_ascii ha (go "str_ascii_iterator" _ (Walks.strAscii hh _ x t) ⟨_, Heap.get?_push_size _ rfl, rfl, rfl⟩)
end
section
variable {prog : Program} {A : Around} {env : Env} {elt iter : Expr} {x : Str} {px : Pos} {ifs : List Expr} {scope : Scope} {pos : Pos} {cl : List (Str × Addr)} {s : Shared} {Q : Addr → Shared → Prop}
theorem comp_range0 {r : Addr} {n : Nat} {t u v : Tok} (V : Nat → List Value → Heap → Prop) (hV : ∀ i ys g g', V i ys g → Le g g' → V i ys g') (hh : A.handled = none) (hr : IsRange s.heap r 0 (n : Int) 1 t u v) (hsmall : Builtin.Range.small 0 (n : Int) 1 = true) (hn : Builtin.Range.rangeSize 0 (n : Int) 1 = (n : Int))
    (hcell : ∀ y ∈ scope.names, y.2 ≠ .cell) (hkind : scope.kind = .function) (hx : scope.names.lookup x = some .local) (hsz : n ≤ 2 ^ 20) (v0 : V 0 [] s.heap)
    (turn : ∀ (i : Nat) t s₃ C (m : Str → Option Value) ys hid, i < n → ys.length ≤ i → Same s s₃ → Fr s.heap C s₃.heap (fun y => if y = x then some (.int (i : Int) t) else m y) → (∀ b, s₃.heap.get? b = none → b ∉ hid) → V i ys (hideAll s₃.heap hid) →
      Tests prog w A (compEnvC scope cl C env) ifs (fun ok s₄ => if ok = true then wpAny (model prog w) A (eval elt (compEnvC scope cl C env)) (fun y s₅ => CKeep [] s₃ s₅ (V (i + 1) (ys ++ [y]) (hideAll s₅.heap hid))) (fun _ _ => False) s₄
        else CKeep [] s₃ s₄ (V (i + 1) ys (hideAll s₄.heap hid))) s₃)
    (hQ : ∀ D s' ys, Same s s' → s.heap.get? D = none → s'.heap.PlainList D ys.toArray → V n ys (hideAll s'.heap [D]) → ys.length ≤ n → Le s.heap s'.heap → Q D s') :
    CompAt prog w A env elt iter x px ifs scope pos cl Q (.ref r) s := by
  intro RR hRR
  refine wpAny_pyIter_range hr hsmall ?_
  refine comp_src0 V hV (fun i h st => ⟨_, st⟩) (Walks.range (prog := prog) hh s.heap.objs.size 0 1 n) ⟨_, rfl, fun b o e => Heap.get?_push_of_some _ e, by rw [Heap.size_push]; exact Nat.le_succ _⟩ (Heap.get?_none_of_le (Nat.le_refl _)) (fun b hb => ?_)
    hcell hkind hx (by show IsRangeIter _ _ _ _ _; rw [hn]; simpa using Heap.get?_push_size _ rfl) hsz v0 (fun i v s₃ C m ys hid hi hP hlen hS F hfr hv => ?_) hQ RR hRR
  · rw [List.mem_singleton.mp hb]; exact ⟨_, Heap.get?_push_size _ rfl⟩
  · refine ex1_1 hP ?_; clear hP; intro t eK; subst eK
    have e : (0 : Int) + (i : Int) * 1 = (i : Int) := by k_extra "mE lia"
    rw [e] at F
    exact turn i t s₃ C m ys hid hi hlen hS F hfr hv
theorem comp_str0 {tx : Str} {t : Tok} (V : Nat → List Value → Heap → Prop) (hV : ∀ i ys g g', V i ys g → Le g g' → V i ys g') (hh : A.handled = none)
    (hcell : ∀ y ∈ scope.names, y.2 ≠ .cell) (hkind : scope.kind = .function) (hx : scope.names.lookup x = some .local) (hsz : tx.cps.size ≤ 2 ^ 20) (v0 : V 0 [] s.heap)
    (turn : ∀ (i c : Nat) t s₃ C (m : Str → Option Value) ys hid, tx.cps[i]? = some c → ys.length ≤ i → Same s s₃ → Fr s.heap C s₃.heap (fun y => if y = x then some (.str ⟨#[c]⟩ t) else m y) → (∀ b, s₃.heap.get? b = none → b ∉ hid) → V i ys (hideAll s₃.heap hid) →
      Tests prog w A (compEnvC scope cl C env) ifs (fun ok s₄ => if ok = true then wpAny (model prog w) A (eval elt (compEnvC scope cl C env)) (fun y s₅ => CKeep [] s₃ s₅ (V (i + 1) (ys ++ [y]) (hideAll s₅.heap hid))) (fun _ _ => False) s₄
        else CKeep [] s₃ s₄ (V (i + 1) ys (hideAll s₄.heap hid))) s₃)
    (hQ : ∀ D s' ys, Same s s' → s.heap.get? D = none → s'.heap.PlainList D ys.toArray → V tx.cps.size ys (hideAll s'.heap [D]) → ys.length ≤ tx.cps.size → Le s.heap s'.heap → Q D s') :
    CompAt prog w A env elt iter x px ifs scope pos cl Q (.str tx t) s := by
  intro RR hRR
  have go : ∀ (T : String) (o : Obj), Walks prog w A s.heap.objs.size [s.heap.objs.size] [s.heap.objs.size] tx.cps.size (SignAt tx) (fun i h => h.IsStrIter s.heap.objs.size T tx t i) → (s.heap.push o).IsStrIter s.heap.objs.size T tx t 0 → _ := fun T o W st0 =>
    comp_src0 (env := env) (elt := elt) (iter := iter) (x := x) (px := px) (ifs := ifs) (scope := scope) (pos := pos) (cl := cl) (s := s) (s₂ := { s with heap := s.heap.push o }) V hV (fun i h st => let ⟨o, ho, _⟩ := st; ⟨o, ho⟩) W ⟨_, rfl, fun b o e => Heap.get?_push_of_some _ e, by rw [Heap.size_push]; exact Nat.le_succ _⟩ (Heap.get?_none_of_le (Nat.le_refl _)) (fun b hb => by rw [List.mem_singleton.mp hb]; obtain ⟨o, ho, _⟩ := st0; exact ⟨o, ho⟩)
      hcell hkind hx st0 hsz v0 (fun i v s₃ C m ys hid hi hP hlen hS F hfr hv => by
        refine ex2_2 hP ?_; clear hP; intro c u hc eK; subst eK
        exact turn i c u s₃ C m ys hid hc hlen hS F hfr hv) hQ RR hRR
  cases ha : tx.cps.all (· < 128)
  · exact wpAny_pyIter_wide ha (go "str_iterator" _ (Walks.strWide hh _ tx t) ⟨_, Heap.get?_push_size _ rfl, rfl, rfl⟩)
  · exact wpAny_pyIter_ascii ha (go "str_ascii_iterator" _ (Walks.strAscii hh _ tx t) ⟨_, Heap.get?_push_size _ rfl, rfl, rfl⟩)
end
example : Sep := by w_top off; first | walk1 | trivial
section
variable {A : Around} {E : Value → Shared → Prop} {s : Shared} {h₀ : Heap} {L l u : Addr} {m : Str → Option Value} {news rs : List (Addr × Obj)} {vs : List Value} {k n : Nat} {tk : Tok} {x v : Value} {Q : Value → Shared → Prop} {value slice : Expr}
theorem sub_L {E : Value → Shared → Prop} {value slice : Expr} {A : Around} {s : Shared} {l : Addr} {vs : List Value} {tk : Tok} {x : Value} {Q : Value → Shared → Prop} (hl : s.heap.IsList l vs.toArray) (hx : vs[k]? = some x) (hz : vs.length ≤ 2 ^ 24) (h : Q x s)
    (hs : subscripted slice false (.ref l) (.int (k : Int) tk) = operate [.ref l, .int (k : Int) tk] (getItem (.ref l) (.int (k : Int) tk))) :
    wpAny (model PR w) A (subscriptTail value slice (.ref l) (.int (k : Int) tk)) Q E s := by
  have hk : k < vs.length := by
    rcases Nat.lt_or_ge k vs.length with h | h
    · exact h
    · rw [List.getElem?_eq_none h] at hx; cases hx
  exact tail_any hl.typeIs slot_list_getitem.lookup (wpAny_getItem_list hl (by k_extra "mE lia") (by k_extra "mE lia") (by simpa using hx) h) hs
theorem sub_LB {E : Value → Shared → Prop} {value slice : Expr} {A : Around} {s : Shared} {h₀ : Heap} {L l : Addr} {m : Str → Option Value} {vs : List Value} {tk : Tok} {x : Value} {Q : Value → Shared → Prop} (F : Fr h₀ L s.heap m) (hl : h₀.IsList l vs.toArray) (hx : vs[k]? = some x) (hz : vs.length ≤ 2 ^ 24) (h : Q x s)
    (hs : subscripted slice false (.ref l) (.int (k : Int) tk) = operate [.ref l, .int (k : Int) tk] (getItem (.ref l) (.int (k : Int) tk))) :
    wpAny (model PR w) A (subscriptTail value slice (.ref l) (.int (k : Int) tk)) Q E s := sub_L (hl.at fun o e => F.keep _ _ e) hx hz h hs
theorem sub_LN {E : Value → Shared → Prop} {value slice : Expr} {A : Around} {s : Shared} {h₀ : Heap} {L l : Addr} {news : List (Addr × Obj)} {vs : List Value} {n : Nat} {tk : Tok} {x : Value} {Q : Value → Shared → Prop} (N : News h₀ L s.heap news) (hm : (l, listOf vs.toArray n) ∈ news) (hx : vs[k]? = some x) (hz : vs.length ≤ 2 ^ 24) (h : Q x s)
    (hs : subscripted slice false (.ref l) (.int (k : Int) tk) = operate [.ref l, .int (k : Int) tk] (getItem (.ref l) (.int (k : Int) tk))) :
    wpAny (model PR w) A (subscriptTail value slice (.ref l) (.int (k : Int) tk)) Q E s := sub_L ⟨_, (N _ hm).1, rfl, n, rfl⟩ hx hz h hs
theorem sub_LB0 {E : Value → Shared → Prop} {value slice : Expr} {A : Around} {s : Shared} {h₀ : Heap} {L l : Addr} {m : Str → Option Value} {vs : List Value} {tk : Tok} {Q : Value → Shared → Prop} (F : Fr h₀ L s.heap m) (hl : h₀.IsList l (List.toArray (x :: vs))) (hz : vs.length ≤ 2 ^ 23) (h : Q x s)
    (hs : subscripted slice false (.ref l) (.int 0 tk) = operate [.ref l, .int 0 tk] (getItem (.ref l) (.int 0 tk))) :
    wpAny (model PR w) A (subscriptTail value slice (.ref l) (.int 0 tk)) Q E s := sub_LB (k := 0) F hl rfl (by simp only [List.length_cons]; k_extra "mE lia") h hs
theorem sub_LB1 {E : Value → Shared → Prop} {value slice : Expr} {A : Around} {s : Shared} {h₀ : Heap} {L l : Addr} {m : Str → Option Value} {vs : List Value} {tk : Tok} {x : Value} {Q : Value → Shared → Prop} {y : Value} (F : Fr h₀ L s.heap m) (hl : h₀.IsList l (List.toArray (y :: x :: vs))) (hz : vs.length ≤ 2 ^ 23) (h : Q x s)
    (hs : subscripted slice false (.ref l) (.int 1 tk) = operate [.ref l, .int 1 tk] (getItem (.ref l) (.int 1 tk))) :
    wpAny (model PR w) A (subscriptTail value slice (.ref l) (.int 1 tk)) Q E s := sub_LB (k := 1) F hl rfl (by simp only [List.length_cons]; k_extra "mE lia") h hs
theorem sub_LN0 {E : Value → Shared → Prop} {value slice : Expr} {A : Around} {s : Shared} {h₀ : Heap} {L l : Addr} {news : List (Addr × Obj)} {vs : List Value} {n : Nat} {tk : Tok} {Q : Value → Shared → Prop} (N : News h₀ L s.heap news) (hm : (l, listOf (List.toArray (x :: vs)) n) ∈ news) (hz : vs.length ≤ 2 ^ 23) (h : Q x s)
    (hs : subscripted slice false (.ref l) (.int 0 tk) = operate [.ref l, .int 0 tk] (getItem (.ref l) (.int 0 tk))) :
    wpAny (model PR w) A (subscriptTail value slice (.ref l) (.int 0 tk)) Q E s := sub_LN (k := 0) N hm rfl (by simp only [List.length_cons]; k_extra "mE lia") h hs
theorem sub_LN1 {E : Value → Shared → Prop} {value slice : Expr} {A : Around} {s : Shared} {h₀ : Heap} {L l : Addr} {news : List (Addr × Obj)} {vs : List Value} {n : Nat} {tk : Tok} {x : Value} {Q : Value → Shared → Prop} {y : Value} (N : News h₀ L s.heap news) (hm : (l, listOf (List.toArray (y :: x :: vs)) n) ∈ news) (hz : vs.length ≤ 2 ^ 23) (h : Q x s)
    (hs : subscripted slice false (.ref l) (.int 1 tk) = operate [.ref l, .int 1 tk] (getItem (.ref l) (.int 1 tk))) :
    wpAny (model PR w) A (subscriptTail value slice (.ref l) (.int 1 tk)) Q E s := sub_LN (k := 1) N hm rfl (by simp only [List.length_cons]; k_extra "mE lia") h hs
theorem deed0_u {g : Obj → List (Addr × Obj) → List (Addr × Obj)} {t : Tr} {d : Bool → List Row} {b : Bool} (hD : DeedOk w t d k) (F : Fr h₀ L s.heap m) (N : News h₀ L s.heap news) (O : OkH w h₀) (r : Rm A k) (ht : TreeAt h₀ t v) (U : UpdT u (listOf (List.toArray []) n) rs news g)
    (hrs : ∀ p ∈ rs, p.1 ≠ u) (hz : (d b).length ≤ 2 ^ 20)
    (kk : ∀ n' rs' vs' h' tk K, (∀ p ∈ news, ¬ K p.1) → RowsL K (g (listOf vs'.toArray n') rs') (d b) vs' → (∀ p ∈ rs', p.1 ≠ u) → Fr h₀ L h' m → News h₀ L h' (g (listOf vs'.toArray n') rs') → (∀ p ∈ news, p.1 ≠ u → p ∈ g (listOf vs'.toArray n') rs') → Q .none { s with heap := h', toks := tk }) :
    wpAny (model PR w) A (call (.ref 335) [v, .bool b, .ref u]) Q E s := by
  have hu := N _ U.mem
  exact deed_u (pre := []) (vo := []) (old := []) (K := fun a => s.heap.get? a = none) (hD h₀ u v b O ht hu.2.2) F N r U hrs .nil (fun a ha e => by rw [e, hu.1] at ha; cases ha) (fun a ha => ha) (by simpa using hz)
    (fun n' rs' vs' h' tk R q F' N' old => kk n' rs' vs' h' tk _ (fun p hp hk => by have h1 := (N p hp).1; rw [show s.heap.get? p.1 = none from hk] at h1; cases h1) R q F' N' old)
end
theorem RowsL.get {K : Addr → Prop} {news : List (Addr × Obj)} {rows : List Row} {vs : List Value} (R : RowsL K news rows vs) : ∀ (i : Nat) (r : Row), rows[i]? = some r → ∃ a, vs[i]? = some (.ref a) ∧
    ((∃ y b t1 n, r = .as y b ∧ (a, listOf (List.toArray [.str y t1, .bool b]) n) ∈ news) ∨
    (∃ ys t1 l us m n, r = .held ys ∧ (a, listOf (List.toArray [.str (Str.ofString "held") t1, .ref l]) m) ∈ news ∧ (l, listOf us.toArray n) ∈ news ∧ StrsAre us ys)) := by
  induction R with
  | nil => intro i r hr; simp at hr
  | as h1 h2 _ ih =>
    intro i r hr
    cases i with
    | zero => simp only [List.getElem?_cons_zero, Option.some.injEq] at hr; subst hr; exact ⟨_, rfl, .inl ⟨_, _, _, _, rfl, h1⟩⟩
    | succ i => simpa using ih i r (by simpa using hr)
  | held h1 h2 h3 h4 h5 _ ih =>
    intro i r hr
    cases i with
    | zero => simp only [List.getElem?_cons_zero, Option.some.injEq] at hr; subst hr; exact ⟨_, rfl, .inr ⟨_, _, _, _, _, _, rfl, h1, h3, h5⟩⟩
    | succ i => simpa using ih i r (by simpa using hr)
noncomputable def NoHeld (rows : List Row) : Prop := ∀ y b, Row.as y b ∈ rows → (y == Str.ofString "held") = false
theorem one_sign (c : Nat) : (Str.ofString "held" == (⟨#[c]⟩ : Str)) = false := by
  apply beq_eq_false_iff_ne.mpr
  intro e
  have h1 := congrArg (fun x : Str => x.cps.size) e
  have h2 : (Str.ofString "held").cps.size = 4 := by decide +kernel
  dsimp only at h1
  rw [h2] at h1
  exact absurd h1 (by show ¬ (4 = 1); decide)
noncomputable abbrev natsI (ns : List Nat) : List Int := ns.map fun i : Nat => (i : Int)
theorem idx_next {p : Row → Bool} {rows : List Row} {i : Nat} : ((List.range (i + 1)).filter fun i => (rows[i]?.map p).getD false) = ((List.range i).filter fun i => (rows[i]?.map p).getD false) ++ (if (rows[i]?.map p).getD false = true then [i] else []) := by
  rw [List.range_succ, List.filter_append]
  cases h : (rows[i]?.map p).getD false <;> simp [h]
theorem IntsAre.snoc' {vs : List Value} {ns : List Int} (h : IntsAre vs ns) (k : Int) (t : Tok) : IntsAre (vs ++ [.int k t]) (ns ++ [k]) := by
  induction h with
  | nil => exact .cons _ _ .nil
  | cons z u _ ih => exact .cons z u ih
example : Sep := by w_top off; first | walk1 | trivial
noncomputable def VatO (w : World) (o : Obj) : Prop := ∃ kvs, ∃ a b : Int, o.IsDictOf (strKind PR w) kvs ∧ PyProof.V.FlatPairs PyData.str kvs [(.str (Str.ofString "vat"), .int a), (.str (Str.ofString "cask"), .int b)] ∧ 0 ≤ a ∧ 0 ≤ b ∧ b < 2 ^ 31
noncomputable def VatAt (w : World) (h : Heap) (d : Addr) : Prop := (d == sysModules) = false ∧ ∃ o, h.get? d = some o ∧ VatO w o
section
variable {A : Around} {s : Shared} {d : Addr} {t : Tok}
theorem drop_end {a b k many : Int} {s : Shared} {d : Addr} {s₂ : Shared} {L : Addr} {m : Str → Option Value} {o' : Obj} {kvs : List (Str × Value)} {D : List (PyData × PyData)} {t' : Tok} (hlo : (d == sysModules) = false) (S : Same s s₂) (F : Fr (s.heap.hide d) L s₂.heap m) (N : News (s.heap.hide d) L s₂.heap [(d, o')])
    (hD : o'.IsDictOf (strKind PR w) kvs) (hf : PyProof.V.FlatPairs PyData.str kvs D) (e : D = [(.str (Str.ofString "vat"), .int a), (.str (Str.ofString "cask"), .int b)]) (ha : 0 ≤ a) (hb : 0 ≤ b) (hb2 : b < 2 ^ 31) (hk : 0 ≤ k) (hk2 : k < many) :
    Post s (at1 d) (fun v h' => VatAt w h' d ∧ ∃ k t', v = .int k t' ∧ 0 ≤ k ∧ k < many) (.int k t') s₂ := by
  subst e
  exact post_end1 S F ⟨⟨hlo, o', (N _ (.head _)).1, kvs, a, b, hD, hf, ha, hb, hb2⟩, k, t', rfl, hk, hk2⟩
theorem fdiv_small {a c m : Int} (ha : 0 ≤ a) (hc : 0 < c) (h : a < m) : 0 ≤ Int.fdiv a c ∧ Int.fdiv a c < m := by
  rw [Int.fdiv_eq_ediv_of_nonneg a (by k_extra "mE lia")]
  have h1 := Int.ediv_nonneg ha (by k_extra "mE lia" : (0:Int) ≤ c)
  have h2 := Int.ediv_le_self c ha
  k_extra "mE lia"
theorem drop_c {many : Int} {A : Around} {s : Shared} {d : Addr} {t : Tok} (hm0 : 0 < many) (hm1 : many < 100) {g : Heap} (O : OkH w g) (hg : Le g s.heap) (hgu : g.get? d = none) (r : Rm A 1) (V : VatAt w s.heap d) :
    Calls w A s 278 [.ref d, .int many t] (at1 d) (fun v h' => VatAt w h' d ∧ ∃ k t', v = .int k t' ∧ 0 ≤ k ∧ k < many) := by
  refine ex0_2 V ?_; clear V; intro hlo gN88; refine ex1_2 gN88 ?_; clear gN88; intro o ho gN89; refine ex3_5 gN89 ?_; clear gN89; intro kvs a b hD hf ha hb hb2
  refine' enter [((Str.ofString "vat"), .ref d), ((Str.ofString "many"), .int many t)] (O.keeps hg) r ?k6 ?k7 ?k9 ?kB ?_ ?c1 ?c2 ?c3 ?c4 ?c5; k_extra "eN"
  have O' := O.keeps (le_hide hg hgu)
  have N := News.hide1 F ho hL'
  replace F := Fr.hide d F
  k_extra "qB"; obtain ⟨X, p, lo, me, mg, mb, T⟩ := O'; k_extra "qC"
  k_steps
  · exact drop_end hlo S (by assumption) (by assumption) (by assumption) (by assumption) (by with_unfolding_all rfl) (fdiv_small ha hm0 (Int.lt_add_one_of_le (Int.le_refl _))).1 hb hb2 (fmod_lo _ hm0) (fmod_hi _ hm0)
  · exact drop_end hlo S (by assumption) (by assumption) (by assumption) (by assumption) (by with_unfolding_all rfl) ha (fmod_lo _ (by decide)) (Int.lt_of_lt_of_le (fmod_hi _ (by decide)) (by decide)) (fmod_lo _ hm0) (fmod_hi _ hm0)
end
example : Sep := by w_top off; first | walk1 | trivial
section
variable {A : Around} {s : Shared} {p : Addr} {t : Tok} {ky : Str} {vs : List Value} {n : Nat}
noncomputable abbrev exObj (ky : Str) (t1 t : Tok) (b : Addr) : Obj := tupObj [.str (Str.ofString "expr") t1, .str ky t, .ref b]
theorem expr_t {ky : Str} {A : Around} {s : Shared} {p : Addr} {t : Tok} {vs : List Value} (O : OkH w s.heap) (r : Rm A 1) (hT : IsTup s.heap p vs.toArray) :
    Calls w A s 21 [.str ky t, .ref p] nil (fun v h' => ∃ a t1, v = .ref a ∧ s.heap.get? a = none ∧ h'.get? a = some (exObj ky t1 t p)) := by
  refine' enter [((Str.ofString "head"), .str ky t), ((Str.ofString "parts"), .ref p)] O r ?k6 ?k7 ?k9 ?kB ?_ ?c1 ?c2 ?c3 ?c4 ?c5; k_extra "eN"
  have N : News s.heap L' s₁.heap [] := News.nil
  have X := OkH.X O; have T := OkH.top O
  k_steps
  rename News _ _ _ _ => N2
  exact post_end S (by assumption) ⟨_, _, rfl, (N2 _ (.head _)).2.2, (N2 _ (.head _)).1⟩
theorem expr_l {ky : Str} {A : Around} {s : Shared} {p : Addr} {t : Tok} {vs : List Value} {n : Nat} (O : OkH w s.heap) (r : Rm A 1) (hT : s.heap.get? p = some (listOf vs.toArray n)) (hz : vs.length ≤ 16384) :
    Calls w A s 21 [.str ky t, .ref p] nil (fun v h' => ∃ a b t1, v = .ref a ∧ s.heap.get? a = none ∧ s.heap.get? b = none ∧ b ≠ a ∧ h'.get? a = some (exObj ky t1 t b) ∧ h'.get? b = some (tupObj vs)) := by
  refine' enter [((Str.ofString "head"), .str ky t), ((Str.ofString "parts"), .ref p)] O r ?k6 ?k7 ?k9 ?kB ?_ ?c1 ?c2 ?c3 ?c4 ?c5; k_extra "eN"
  have N : News s.heap L' s₁.heap [] := News.nil
  have X := OkH.X O; have T := OkH.top O
  k_steps
  refine kde_tupleOf F N ⟨_, F.keep _ _ hT, rfl, n, rfl⟩ (by rw [List.size_toArray]; exact hz) rfl ?_
  intro D h' F2 N2 _
  clear F N
  k_steps
  rename News _ _ _ _ => N3
  rename AllLt _ _ => l9
  have hne : (D : Nat) ≠ _ := ALt.at l9 (.head _)
  exact post_end S (by assumption) ⟨_, D, _, rfl, (N3 _ (.head _)).2.2, (N3 _ (.tail _ (.head _))).2.2, hne, (N3 _ (.head _)).1, (N3 _ (.tail _ (.head _))).1⟩
end
example : Sep := by w_top off; first | walk1 | trivial
mutual
noncomputable def TreeL (N : List (Addr × Obj)) : Tr → Value → Prop
  | .sym x, v => ∃ a t1 t2, v = .ref a ∧ (a, tupObj [.str (Str.ofString "sym") t1, .str x t2]) ∈ N
  | .one, v => ∃ a t1 t2, v = .ref a ∧ (a, tupObj [.str (Str.ofString "int") t1, .int 1 t2]) ∈ N
  | .ex ky ps, v => ∃ a t1 t2 b vs, v = .ref a ∧ (a, exObj ky t1 t2 b) ∈ N ∧ (b, tupObj vs) ∈ N ∧ TreesL N ps vs
noncomputable def TreesL (N : List (Addr × Obj)) : List Tr → List Value → Prop
  | [], vs => vs = []
  | p :: ps, vs => ∃ v r, vs = v :: r ∧ TreeL N p v ∧ TreesL N ps r
end
theorem TreeL.e1 {x : Str} {N : List (Addr × Obj)} {v : Value} : TreeL N (.sym x) v = ∃ a t1 t2, v = .ref a ∧ (a, tupObj [.str (Str.ofString "sym") t1, .str x t2]) ∈ N := rfl
theorem TreeL.e2 {N : List (Addr × Obj)} {v : Value} : TreeL N .one v = ∃ a t1 t2, v = .ref a ∧ (a, tupObj [.str (Str.ofString "int") t1, .int 1 t2]) ∈ N := rfl
theorem TreeL.e3 {ky : Str} {N : List (Addr × Obj)} {ps : List Tr} {v : Value} : TreeL N (.ex ky ps) v = ∃ a t1 t2 b vs, v = .ref a ∧ (a, exObj ky t1 t2 b) ∈ N ∧ (b, tupObj vs) ∈ N ∧ TreesL N ps vs := rfl
theorem TreesL.e1 {N : List (Addr × Obj)} {vs : List Value} : TreesL N [] vs = (vs = []) := rfl
theorem TreesL.e2 {N : List (Addr × Obj)} {p : Tr} {ps : List Tr} {vs : List Value} : TreesL N (p :: ps) vs = ∃ v r, vs = v :: r ∧ TreeL N p v ∧ TreesL N ps r := rfl
noncomputable def TupSub (N N' : List (Addr × Obj)) : Prop := ∀ a l, (a, tupObj l) ∈ N → (a, tupObj l) ∈ N'
theorem TupSub.of {N N' : List (Addr × Obj)} (h : ∀ p ∈ N, p ∈ N') : TupSub N N' := fun _ _ k => h _ k
mutual
theorem TreeL.mono {N N' : List (Addr × Obj)} (k : TupSub N N') : ∀ (t : Tr) {v : Value}, TreeL N t v → TreeL N' t v
  | .sym x, v, e => by
    simp only [TreeL.e1, TreeL.e2, TreeL.e3] at e ⊢
    refine ex3_2 e ?_; clear e; intro a t1 t2 e T; exact ⟨a, t1, t2, e, k _ _ T⟩
  | .one, v, e => by
    simp only [TreeL.e1, TreeL.e2, TreeL.e3] at e ⊢
    refine ex3_2 e ?_; clear e; intro a t1 t2 e T; exact ⟨a, t1, t2, e, k _ _ T⟩
  | .ex hd ps, v, e => by
    simp only [TreeL.e1, TreeL.e2, TreeL.e3] at e ⊢
    refine ex5_4 e ?_; clear e; intro a t1 t2 b vs e T U r; exact ⟨a, t1, t2, b, vs, e, k _ _ T, k _ _ U, TreesL.mono k ps r⟩
theorem TreesL.mono {N N' : List (Addr × Obj)} (k : TupSub N N') : ∀ (ts : List Tr) {vs : List Value}, TreesL N ts vs → TreesL N' ts vs
  | [], vs, e => by simpa only [TreesL.e1, TreesL.e2] using e
  | p :: ps, vs, e => by
    simp only [TreesL.e1, TreesL.e2] at e ⊢
    refine ex2_3 e ?_; clear e; intro v r e x y; exact ⟨v, r, e, TreeL.mono k p x, TreesL.mono k ps y⟩
end
mutual
theorem TreeL.at {h₀ h : Heap} {L : Addr} {N : List (Addr × Obj)} (k : News h₀ L h N) : ∀ (t : Tr) {v : Value}, TreeL N t v → TreeAt h t v
  | .sym x, v, e => by
    simp only [TreeL.e1, TreeL.e2, TreeL.e3, TreeAt.e1, TreeAt.e2, TreeAt.e3] at e ⊢
    refine ex3_2 e ?_; clear e; intro a t1 t2 e T; exact ⟨a, t1, t2, e, News.isTup k T⟩
  | .one, v, e => by
    simp only [TreeL.e1, TreeL.e2, TreeL.e3, TreeAt.e1, TreeAt.e2, TreeAt.e3] at e ⊢
    refine ex3_2 e ?_; clear e; intro a t1 t2 e T; exact ⟨a, t1, t2, e, News.isTup k T⟩
  | .ex hd ps, v, e => by
    simp only [TreeL.e1, TreeL.e2, TreeL.e3, TreeAt.e1, TreeAt.e2, TreeAt.e3] at e ⊢
    refine ex5_4 e ?_; clear e; intro a t1 t2 b vs e T U r; exact ⟨a, t1, t2, b, vs, e, News.isTup k T, News.isTup k U, TreesL.at k ps r⟩
theorem TreesL.at {h₀ h : Heap} {L : Addr} {N : List (Addr × Obj)} (k : News h₀ L h N) : ∀ (ts : List Tr) {vs : List Value}, TreesL N ts vs → TreesAt h ts vs
  | [], vs, e => by simpa only [TreesL.e1, TreesL.e2, TreesAt.e1, TreesAt.e2] using e
  | p :: ps, vs, e => by
    simp only [TreesL.e1, TreesL.e2, TreesAt.e1, TreesAt.e2] at e ⊢
    refine ex2_3 e ?_; clear e; intro v r e x y; exact ⟨v, r, e, TreeL.at k p x, TreesL.at k ps y⟩
end
theorem TreesL.append {N : List (Addr × Obj)} {vs' : List Value} {qs : List Tr} (h' : TreesL N qs vs') : ∀ (ps : List Tr) {vs : List Value}, TreesL N ps vs → TreesL N (ps ++ qs) (vs ++ vs')
  | [], vs, e => by simp only [TreesL.e1, TreesL.e2] at e; subst e; simpa using h'
  | p :: ps, vs, e => by
    simp only [TreesL.e1, TreesL.e2, List.cons_append] at e ⊢
    refine ex2_3 e ?_; clear e; intro v r eK; subst eK; intro x y; exact ⟨v, r ++ vs', rfl, x, TreesL.append h' ps y⟩
theorem TreesL.length {N : List (Addr × Obj)} : ∀ (ps : List Tr) {vs : List Value}, TreesL N ps vs → vs.length = ps.length
  | [], vs, e => by simp only [TreesL.e1, TreesL.e2] at e; subst e; rfl
  | p :: ps, vs, e => by
    simp only [TreesL.e1, TreesL.e2] at e
    refine ex2_3 e ?_; clear e; intro v r eK; subst eK; intro x y; simp [TreesL.length ps y]
theorem VatO.ne {o : Obj} {l : List Value} (V : VatO w o) : o ≠ tupObj l := by
  refine ex3_2 V ?_; clear V; intro _ _ _ gN90 _; refine ex2_3 gN90 ?_; clear gN90; intro _ _ _ hd _
  intro e; rw [e] at hd; cases hd
noncomputable def Built (w : World) (P : T → Prop) (s : Shared) (d : Addr) (v : Value) (h' : Heap) : Prop :=
  VatAt w h' d ∧ ∃ t rs, P t ∧ (∀ p ∈ rs, h'.get? p.1 = some p.2 ∧ s.heap.get? p.1 = none) ∧ TreeL rs t.tr v
section
variable {A : Around} {s : Shared} {d : Addr} {n : Nat} {o : Obj} {Q E : Value → Shared → Prop} {h₀ : Heap} {L f : Addr} {m : Str → Option Value} {news rs : List (Addr × Obj)} {tk0 : Tok} {many : Int}
theorem drop_u {E : Value → Shared → Prop} {many : Int} {A : Around} {s : Shared} {d : Addr} {o : Obj} {Q : Value → Shared → Prop} {h₀ : Heap} {L : Addr} {m : Str → Option Value} {news : List (Addr × Obj)} {tk0 : Tok} {g : Obj → List (Addr × Obj)} (hm0 : 0 < many) (hm1 : many < 100) (hlo : (d == sysModules) = false) (F : Fr h₀ L s.heap m) (N : News h₀ L s.heap news) (O : OkH w h₀) (r : Rm A 1) (U : UpdF d o news g) (V : VatO w o)
    (k : ∀ i t' o' h' tk, 0 ≤ i → i < many → VatO w o' → Fr h₀ L h' m → News h₀ L h' (g o') → Q (.int i t') { s with heap := h', toks := tk }) : wpAny (model PR w) A (call (.ref 278) [.ref d, .int many tk0]) Q E s := by
  have hu := N _ (UpdF.mem U)
  exact use1 (drop_c hm0 hm1 O F.keep hu.2.2 r ⟨hlo, o, hu.1, V⟩) F N U fun r h' tk ⟨⟨_, o', ho', hV⟩, i, t', e, h1, h2⟩ F' N' => by subst e; exact k i t' o' h' tk h1 h2 hV F' (N' o' ho')
theorem dropT_u {g : Obj → List (Addr × Obj) → List (Addr × Obj)} (hm0 : 0 < many) (hm1 : many < 100) (hlo : (d == sysModules) = false) (F : Fr h₀ L s.heap m) (N : News h₀ L s.heap news) (O : OkH w h₀) (r : Rm A 1) (U : UpdT d o rs news g) (hrs : ∀ p ∈ rs, p.1 ≠ d) (V : VatO w o)
    (k : ∀ i t' o' h' tk, 0 ≤ i → i < many → VatO w o' → Fr h₀ L h' m → News h₀ L h' (g o' rs) → Q (.int i t') { s with heap := h', toks := tk }) : wpAny (model PR w) A (call (.ref 278) [.ref d, .int many tk0]) Q E s := by
  have U' : UpdF d o news (fun o' => g o' rs) := by
    clear k N
    induction U with
    | head => exact .head hrs
    | tail hp _ ih => exact .tail hp ih
  exact drop_u hm0 hm1 hlo F N O r U' V k
theorem built_u {g : Obj → List (Addr × Obj) → List (Addr × Obj)} {P : T → Prop} {args : List Value} (c : Calls w A s f args (at1 d) (Built w P s d)) (F : Fr h₀ L s.heap m) (N : News h₀ L s.heap news) (U : UpdT d o rs news g) (hrs : ∀ p ∈ rs, p.1 ≠ d) (V : VatO w o)
    (k : ∀ t v o' rs' h' tk, P t → VatO w o' → (∀ p ∈ rs' ++ rs, p.1 ≠ d) → (∀ p ∈ rs', ∀ q ∈ news, p.1 ≠ q.1) → TreeL rs' t.tr v → Fr h₀ L h' m → News h₀ L h' (g o' (rs' ++ rs)) → Q v { s with heap := h', toks := tk }) :
    wpAny (model PR w) A (call (.ref f) args) Q E s := by
  have hu := N _ U.mem
  refine wpAny_mono c (fun v s' p => ?_) fun _ _ x => x.elim
  obtain ⟨S, hk, ⟨_, o', ho', hV⟩, t, rs', hP, hr, hT⟩ := p
  rw [S.to]
  refine ex3_2 (F.ns) ?_; intro oL es ep hL rL
  have F' : Fr h₀ L s'.heap m := ⟨⟨oL, es, ep, hk _ _ hL fun q => hu.2.1 q.symm, rL⟩, fun b o e => hk b o (F.keep b o e) fun q => (by have := hu.2.2; rw [← show b = d from q, e] at this; cases this), F.above⟩
  have hrs2 : ∀ p ∈ rs' ++ rs, p.1 ≠ d := fun p hp => by
    rcases List.mem_append.mp hp with hp | hp
    · intro e; have := (hr p hp).2; rw [e, hu.1] at this; cases this
    · exact hrs p hp
  have hnews : News h₀ L s'.heap (g o' (rs' ++ rs)) := fun p hp => by
    rcases U.inv hrs _ _ p hp with ⟨h1', h2'⟩ | rfl | h
    · have P := N p h2'
      exact ⟨hk _ _ P.1 h1', P.2⟩
    · exact ⟨ho', hu.2⟩
    · refine ⟨(hr p h).1, fun q => ?_, ?_⟩
      · have := (hr p h).2; rw [q, hL] at this; cases this
      · cases q : h₀.get? p.1 with
        | none => rfl
        | some o => have := (hr p h).2; rw [F.keep _ _ q] at this; cases this
  have hnew : ∀ p ∈ rs', ∀ q ∈ news, p.1 ≠ q.1 := fun p hp q hq e => by
    have h1 := (hr p hp).2
    rw [e, (N q hq).1] at h1; cases h1
  exact k t v o' rs' s'.heap s'.toks hP hV hrs2 hnew hT F' hnews
theorem built_end {s₂ : Shared} {hb : Heap} {P : T → Prop} {v : Value} {t : T} (S : Same s s₂) (hlo : (d == sysModules) = false) (hk : ∀ b o, s.heap.get? b = some o → b ≠ d → hb.get? b = some o) (F : Fr hb L s₂.heap m) (N : News hb L s₂.heap news) (hd : (d, o) ∈ news) (V : VatO w o)
    (hP : P t) (hT : TreeL news t.tr v) : Post s (at1 d) (Built w P s d) v s₂ := by
  refine ⟨S, fun b o e hw => F.keep b o (hk b o e hw), ⟨hlo, o, (N _ hd).1, V⟩, t, news.filter (fun p => (s.heap.get? p.1).isNone), hP, fun p hp => ?_, TreeL.mono (fun a l hm => ?_) _ hT⟩
  · refine ex0_2 (List.mem_filter.mp hp) ?_; intro h1' h2'
    refine ⟨(N _ h1').1, ?_⟩
    cases q : s.heap.get? p.1 with
    | none => rfl
    | some o => rw [q] at h2'; cases h2'
  · refine List.mem_filter.mpr ⟨hm, ?_⟩
    have hn := (N _ hm).2.2
    cases q : s.heap.get? a with
    | none => rfl
    | some o'' =>
      by_cases e : a = d
      · exact absurd (Option.some.inj ((N _ hd).1.symm.trans (by have := (N _ hm).1; rw [show a = d from e] at this; exact this))) V.ne
      · have := hk a o'' q e
        rw [show hb.get? a = none from hn] at this; cases this
end
example : Sep := by w_top off; first | walk1 | trivial
noncomputable def Cut (x : Prop) : Prop := x
theorem cut_stop {x : Prop} (h : Cut x) : x := h
theorem cut_mono {M : Model} {E : Value → Shared → Prop} {A : Around} {t : Sem Value} {Q : Value → Shared → Prop} {s : Shared} {h₀ : Heap} {L : Addr} {m : Str → Option Value} (_ : Fr h₀ L s.heap m) (P : Value → Heap → Prop)
    (h1 : wpAny M A t (fun v s' => Cut (∃ h' tk, s' = { s with heap := h', toks := tk } ∧ Fr h₀ L h' m ∧ P v h')) E s) (h2 : ∀ v h' tk, Fr h₀ L h' m → P v h' → Q v { s with heap := h', toks := tk }) : wpAny M A t Q E s :=
  wpAny_mono h1 (fun v s' ⟨h', tk, e, F, p⟩ => by rw [e]; exact h2 v h' tk F p) fun _ _ x => x
noncomputable def AtIf : Prop := True
theorem cut_in {x : Prop} (h : x) : Cut x := h
example : True := by
 k_with "meval IfExp" => ((have mk' : AtIf := by with_reducible assumption); clear mk'; refine cut_stop ?_)
 exact trivial
section
variable {A : Around} {s : Shared} {l : Addr} {vs : List Value} {ns : List Int}
theorem cask_in (x : Int) : 0 ≤ x.fmod 999983 + 37 ∧ x.fmod 999983 + 37 < 2 ^ 31 := by
  have h1 := fmod_lo x (n := 999983) (by decide)
  have h2 := fmod_hi x (n := 999983) (by decide)
  k_extra "mE lia"
theorem vat_end {a x : Int} {s s₂ : Shared} {L d : Addr} {m : Str → Option Value} {o : Obj} {kvs : List (Str × Value)} {D : List (PyData × PyData)} (S : Same s s₂) (F : Fr s.heap L s₂.heap m) (N : News s.heap L s₂.heap [(d, o)]) (hlo : (d == sysModules) = false)
    (hD : o.IsDictOf (strKind PR w) kvs) (hf : PyProof.V.FlatPairs PyData.str kvs D) (e : D = [(.str (Str.ofString "vat"), .int a), (.str (Str.ofString "cask"), .int (x.fmod 999983 + 37))]) (ha : 0 ≤ a) :
    Post s nil (fun v h' => ∃ d o, v = .ref d ∧ s.heap.get? d = none ∧ (d == sysModules) = false ∧ h'.get? d = some o ∧ VatO w o) (.ref d) s₂ := by
  subst e
  exact post_end S F ⟨d, o, rfl, (N _ (.head _)).2.2, hlo, (N _ (.head _)).1, kvs, a, _, hD, hf, ha, (cask_in x).1, (cask_in x).2⟩
theorem vat_c {A : Around} {s : Shared} {l : Addr} {vs : List Value} {ns : List Int} (O : OkH w s.heap) (r : Rm A 1) (hl : s.heap.IsList l vs.toArray) (hi : IntsAre vs ns) (hz : ns.length ≤ 63) :
    Calls w A s 271 [.ref l] nil (fun v h' => ∃ d o, v = .ref d ∧ s.heap.get? d = none ∧ (d == sysModules) = false ∧ h'.get? d = some o ∧ VatO w o) := by
  refine' enter [((Str.ofString "script"), .ref l)] O r ?k6 ?k7 ?k9 ?kB ?_ ?c1 ?c2 ?c3 ?c4 ?c5; k_extra "eN"
  have N : News s.heap L' s₁.heap [] := News.nil
  have X := OkH.X O; have T := OkH.top O
  have mk : AtIf := trivial
  k_steps
  unfold Cut
  refine cut_mono F (fun v h' => ∃ i t, v = .int i t ∧ News s.heap L' h' []) ?_ ?_
  · clear mk
    k_steps
    all_goals exact cut_in ⟨_, _, rfl, by assumption, _, _, rfl, by assumption⟩
  intro _ h2 tk2 F2 gR91; k_extra "qD"; refine ex2_2 gR91 ?_; clear gR91; intro i ti eK; subst eK; intro N2
  clear F N hi hl
  k_steps
  rename Fr _ _ _ _ => F3
  rename News _ _ _ _ => N3
  unfold Cut
  refine cut_mono F3 (fun v h' => ∃ i t, v = .int i t ∧ 0 ≤ i ∧ News s.heap L' h' []) ?_ ?_
  · clear mk
    k_steps
    · exact cut_in ⟨_, _, rfl, by assumption, _, _, rfl, by k_extra "mE lia", by assumption⟩
    · exact cut_in ⟨_, _, rfl, by assumption, _, _, rfl, by k_extra "mE lia", by assumption⟩
  intro _ h4 tk4 F4 gR92; k_extra "qD"; refine ex2_3 gR92 ?_; clear gR92; intro i4 ti4 eK; subst eK; intro hi4 N4
  clear F3 N3
  k_steps
  rename_i dA hA oA F5 N5 loA hdA l1A
  unfold Cut
  refine cut_mono F5 (fun v h' => ∃ i t, v = .int i t ∧ 0 ≤ i ∧ News s.heap L' h' [(dA, oA)]) ?_ ?_
  · clear mk
    k_steps
    all_goals exact cut_in ⟨_, _, rfl, by assumption, _, _, rfl, by k_extra "mE lia", by assumption⟩
  intro _ h6 tk6 F6 gR93; k_extra "qD"; refine ex2_3 gR93 ?_; clear gR93; intro i6 ti6 eK; subst eK; intro hi6 N6
  clear F5 N5
  k_steps
  all_goals (refine vat_end S (by assumption) (by assumption) (by assumption) (by assumption) (by assumption) (by with_unfolding_all rfl) ?_)
  all_goals (first | assumption | k_extra "mE lia" | decide)
end
example : Sep := by w_top off; first | walk1 | trivial
noncomputable def ABC : List Str := (Str.ofString "kvwxyz").cps.toList.map fun c => (⟨#[c]⟩ : Str)
noncomputable def Ar.al (a : Ar) : Prop := a.1 ∈ ABC ∧ ∀ y, a.2 = some y → y ∈ ABC
noncomputable def T.al : T → Prop
  | .sym x => x ∈ ABC
  | .one => True
  | .set x v => x ∈ ABC ∧ v.al
  | .up x v => x ∈ ABC ∧ v.al
  | .loc x => x ∈ ABC
  | .locs x v => x ∈ ABC ∧ v.al
  | .dot x => x ∈ ABC
  | .quo x => x ∈ ABC
  | .fn z as b => z ∈ ABC ∧ (∀ a ∈ as, a.al) ∧ b.al
  | .arr as b => (∀ a ∈ as, a.al) ∧ b.al
  | .blk a b => a.al ∧ b.al
  | .ite a b => a.al ∧ b.al
  | .whl a b => a.al ∧ b.al
  | .lt x a b => x ∈ ABC ∧ a.al ∧ b.al
  | .fr x a b => x ∈ ABC ∧ a.al ∧ b.al
  | .cmp a x b => x ∈ ABC ∧ a.al ∧ b.al
theorem T.al_e : (∀ (x : Str), (T.sym x).al = (x ∈ ABC : Prop)) ∧ ((T.one).al = (True : Prop)) ∧ (∀ (x : Str) (v : T), (T.set x v).al = (x ∈ ABC ∧ v.al : Prop)) ∧ (∀ (x : Str) (v : T), (T.up x v).al = (x ∈ ABC ∧ v.al : Prop)) ∧ (∀ (x : Str), (T.loc x).al = (x ∈ ABC : Prop)) ∧ (∀ (x : Str) (v : T), (T.locs x v).al = (x ∈ ABC ∧ v.al : Prop)) ∧ (∀ (x : Str), (T.dot x).al = (x ∈ ABC : Prop)) ∧ (∀ (x : Str), (T.quo x).al = (x ∈ ABC : Prop)) ∧ (∀ (z : Str) (as : List Ar) (b : T), (T.fn z as b).al = (z ∈ ABC ∧ (∀ a ∈ as, a.al) ∧ b.al : Prop)) ∧ (∀ (as : List Ar) (b : T), (T.arr as b).al = ((∀ a ∈ as, a.al) ∧ b.al : Prop)) ∧ (∀ (a : T) (b : T), (T.blk a b).al = (a.al ∧ b.al : Prop)) ∧ (∀ (a : T) (b : T), (T.ite a b).al = (a.al ∧ b.al : Prop)) ∧ (∀ (a : T) (b : T), (T.whl a b).al = (a.al ∧ b.al : Prop)) ∧ (∀ (x : Str) (a : T) (b : T), (T.lt x a b).al = (x ∈ ABC ∧ a.al ∧ b.al : Prop)) ∧ (∀ (x : Str) (a : T) (b : T), (T.fr x a b).al = (x ∈ ABC ∧ a.al ∧ b.al : Prop)) ∧ (∀ (a : T) (x : Str) (b : T), (T.cmp a x b).al = (x ∈ ABC ∧ a.al ∧ b.al : Prop)) :=
  ⟨fun _ => rfl, rfl, fun _ _ => rfl, fun _ _ => rfl, fun _ => rfl, fun _ _ => rfl, fun _ => rfl, fun _ => rfl, fun _ _ _ => rfl, fun _ _ => rfl, fun _ _ => rfl, fun _ _ => rfl, fun _ _ => rfl, fun _ _ _ => rfl, fun _ _ _ => rfl, fun _ _ _ => rfl⟩
noncomputable def Good (z h : Nat) (t : T) : Prop := t.ok ∧ t.al ∧ t.sz ≤ z ∧ t.ht ≤ h
theorem item_abc (x : Str) (hx : (x.cps.toList.all fun c => ABC.contains (⟨#[c]⟩ : Str)) = true) {i : Int} (h0 : 0 ≤ i) (h1 : i < x.length) : Txt.item x i ∈ ABC := by
  have hk : i.toNat < x.cps.size := by
    have : (i.toNat : Int) = i := Int.toNat_of_nonneg h0
    have h2 : x.length = x.cps.size := rfl
    k_extra "mE lia"
  have e : Txt.charAt x i = some x.cps[i.toNat] := by
    unfold Txt.charAt seqIndex?
    simp only [if_neg (show ¬ i < 0 by k_extra "mE lia")]
    rw [if_pos (by simp only [Bool.and_eq_true, decide_eq_true_eq]; k_extra "mE lia")]
    simp [hk]
  unfold Txt.item
  rw [e]
  have h3 := List.all_eq_true.mp hx x.cps[i.toNat] (by simp)
  simpa using h3
theorem abc_one {x : Str} (h : x ∈ ABC) : ∃ c, x = ⟨#[c]⟩ := by
  refine ex1_2 (List.mem_map.mp h) ?_; intro c _ e
  exact ⟨c, e.symm⟩
example : Sep := by w_top off; first | walk1 | trivial
theorem nodup_le : ∀ (A B : List Str), A.Nodup → (∀ z ∈ A, z ∈ B) → A.length ≤ B.length
  | [], B, _, _ => Nat.zero_le _
  | a :: A, B, hn, hs => by
    rw [List.nodup_cons] at hn
    have ha := hs a (.head _)
    have := nodup_le A (B.erase a) hn.2 fun z hz => (List.mem_erase_of_ne (fun (e : z = a) => hn.1 (by rw [← e]; exact hz))).mpr (hs z (.tail _ hz))
    rw [List.length_erase_of_mem ha] at this
    have h0 : 0 < B.length := List.length_pos_of_mem ha
    simp only [List.length_cons]; k_extra "mE lia"
theorem abc_le {A : List Str} (hn : A.Nodup) (hs : ∀ z ∈ A, z ∈ ABC) : A.length ≤ 6 := nodup_le A ABC hn hs
noncomputable def Bef (x y : Str) : Prop := List.idxOf x ABC < List.idxOf y ABC
theorem abc_lt : ∀ x ∈ ABC, ∀ y ∈ ABC, PySem.Spec.ltCps x.cps.toList y.cps.toList = decide (List.idxOf x ABC < List.idxOf y ABC) := by decide +kernel
theorem abc_inj : ∀ x ∈ ABC, ∀ y ∈ ABC, List.idxOf x ABC = List.idxOf y ABC → x = y := by decide +kernel
theorem abc_bef : ABC.Pairwise Bef := by unfold Bef; decide +kernel
theorem rising_bef : ∀ (ss : List Str) (p : Str), risingS p ss = true → p ∈ ABC → (∀ z ∈ ss, z ∈ ABC) → (p :: ss).Nodup → (p :: ss).Pairwise Bef
  | [], p, _, _, _, _ => by simp
  | x :: r, p, h, hp, hs, hn => by
    simp only [risingS, Bool.and_eq_true, Bool.not_eq_true'] at h
    have hx := hs x (.head _)
    have hn' := List.nodup_cons.mp hn
    have ih := rising_bef r x h.2 hx (fun z hz => hs z (.tail _ hz)) hn'.2
    have h1 := h.1
    rw [abc_lt x hx p hp] at h1
    have h2 : ¬ List.idxOf x ABC < List.idxOf p ABC := of_decide_eq_false h1
    have h3 : List.idxOf x ABC ≠ List.idxOf p ABC := fun e => hn'.1 (by rw [← abc_inj x hx p hp e]; exact .head _)
    have hpx : Bef p x := by unfold Bef; k_extra "mE lia"
    refine List.pairwise_cons.mpr ⟨fun z hz => ?_, ih⟩
    rcases List.mem_cons.mp hz with rfl | hz
    · exact hpx
    · have := (List.pairwise_cons.mp ih).1 z hz
      unfold Bef at *; k_extra "mE lia"
theorem sorted_bef {ss : List Str} (h : sortedS ss = true) (hs : ∀ z ∈ ss, z ∈ ABC) (hn : ss.Nodup) : ss.Pairwise Bef := by
  cases ss with
  | nil => exact .nil
  | cons x r => exact rising_bef r x h (hs x (.head _)) (fun z hz => hs z (.tail _ hz)) hn
theorem bef_eq : ∀ (A B : List Str), A.Pairwise Bef → B.Pairwise Bef → (∀ z, z ∈ A ↔ z ∈ B) → A = B
  | [], [], _, _, _ => rfl
  | [], b :: B, _, _, h => by have := (h b).mpr (.head _); cases this
  | a :: A, [], _, _, h => by have := (h a).mp (.head _); cases this
  | a :: A, b :: B, hA, hB, h => by
    refine ex0_2 (List.pairwise_cons.mp hA) ?_; intro a1 a2
    refine ex0_2 (List.pairwise_cons.mp hB) ?_; intro b1 b2
    have e : a = b := by
      apply Classical.byContradiction
      intro hne
      have m1 : a ∈ B := (List.mem_cons.mp ((h a).mp (.head _))).resolve_left hne
      have m2 : b ∈ A := (List.mem_cons.mp ((h b).mpr (.head _))).resolve_left fun e => hne e.symm
      have := a1 b m2; have := b1 a m1
      unfold Bef at *; k_extra "mE lia"
    subst e
    rw [bef_eq A B a2 b2 fun z => ⟨fun hz => ?_, fun hz => ?_⟩]
    · rcases List.mem_cons.mp ((h z).mp (.tail _ hz)) with rfl | hz'
      · have := a1 _ hz; unfold Bef at this; k_extra "mE lia"
      · exact hz'
    · rcases List.mem_cons.mp ((h z).mpr (.tail _ hz)) with rfl | hz'
      · have := b1 _ hz; unfold Bef at this; k_extra "mE lia"
      · exact hz'
theorem sorted_two {A B A' B' : List Str} (pA : A'.Perm A) (pB : B'.Perm B) (sA : sortedS A' = true) (sB : sortedS B' = true) (hA : ∀ z ∈ A, z ∈ ABC) (nA : A.Nodup) (nB : B.Nodup) (h : ∀ z, z ∈ A ↔ z ∈ B) : A' = B' :=
  bef_eq _ _ (sorted_bef sA (fun z hz => hA z (pA.mem_iff.mp hz)) (pA.nodup_iff.mpr nA)) (sorted_bef sB (fun z hz => hA z ((h z).mpr (pB.mem_iff.mp hz))) (pB.nodup_iff.mpr nB))
    fun z => by rw [pA.mem_iff, pB.mem_iff, h]
theorem sorted_abc {A A' ys : List Str} (pA : A'.Perm A) (sA : sortedS A' = true) (hA : ∀ z ∈ A, z ∈ ABC) (nA : A.Nodup) (h : ∀ z, z ∈ A ↔ z ∈ ys) : A' = ABC.filter fun z => ys.any (· == z) :=
  bef_eq _ _ (sorted_bef sA (fun z hz => hA z (pA.mem_iff.mp hz)) (pA.nodup_iff.mpr nA)) (abc_bef.filter _)
    fun z => by
      rw [pA.mem_iff, List.mem_filter, any_mem, ← h]
      exact ⟨fun hz => ⟨hA z hz, hz⟩, And.right⟩
theorem mem_funUses_al {us : List Str} {as : List Ar} {b : T} (ha : ∀ a ∈ as, a.al) (hu : ∀ z ∈ us, z ∈ ABC) : ∀ z ∈ funUses us as b, z ∈ ABC := by
  intro z hz
  unfold funUses at hz
  rw [mem_wout, mem_joinAll] at hz
  refine ex0_2 hz ?_; clear hz; intro gN94 _; refine ex1_2 gN94 ?_; clear gN94; intro ys h1 h2
  simp only [List.mem_cons, List.not_mem_nil, or_false] at h1
  rcases h1 with rfl | rfl
  · rw [mem_putAll] at h2
    rcases h2 with h2 | h2
    · cases h2
    · refine ex1_2 (List.mem_filterMap.mp h2) ?_; intro a h3 h4
      exact (ha a h3).2 z h4
  · exact hu z (mem_scUses.mp h2).1
theorem used_al : ∀ t : T, t.al → ∀ z ∈ t.used, z ∈ ABC := by
  intro t
  induction t with
  | sym x => intro h z hz; simp only [T.used_e, List.mem_singleton] at hz; subst hz; exact h
  | one => intro h z hz; simp [T.used_e] at hz
  | quo x => intro h z hz; simp [T.used_e] at hz
  | loc x => intro h z hz; simp [T.used_e, mem_joinAll] at hz; subst hz; exact h
  | dot x => intro h z hz; simp [T.used_e, mem_joinAll] at hz; subst hz; exact h
  | set x v ih => intro h z hz; simp [T.used_e, mem_joinAll] at hz; rcases hz with rfl | hz; exact h.1; exact ih h.2 z hz
  | up x v ih => intro h z hz; simp [T.used_e, mem_joinAll] at hz; rcases hz with rfl | hz; exact h.1; exact ih h.2 z hz
  | locs x v ih => intro h z hz; simp [T.used_e, mem_joinAll] at hz; rcases hz with rfl | hz; exact h.1; exact ih h.2 z hz
  | fn y as b ih =>
    intro h z hz
    simp only [T.used_e, mem_joinAll, List.mem_cons, List.not_mem_nil, or_false, exists_eq_or_imp, exists_eq_left] at hz
    rcases hz with rfl | hz
    · exact h.1
    · exact mem_funUses_al h.2.1 (ih h.2.2) z hz
  | arr as b ih =>
    intro h z hz
    simp only [T.used_e, mem_joinAll, List.mem_cons, List.not_mem_nil, or_false, exists_eq_or_imp, exists_eq_left, false_or] at hz
    exact mem_funUses_al h.1 (ih h.2) z hz
  | blk a b iha ihb => intro h z hz; simp [T.used_e, mem_joinAll] at hz; rcases hz with hz | hz; exact iha h.1 z hz; exact ihb h.2 z hz
  | ite a b iha ihb => intro h z hz; simp [T.used_e, mem_joinAll] at hz; rcases hz with hz | hz; exact iha h.1 z hz; exact ihb h.2 z hz
  | whl a b iha ihb => intro h z hz; simp [T.used_e, mem_joinAll, mem_scUses] at hz; rcases hz with hz | hz; exact iha h.1 z hz; exact ihb h.2 z hz.1
  | lt x a b iha ihb => intro h z hz; simp [T.used_e, mem_joinAll, mem_scUses, mem_putAll, mem_wout] at hz; rcases hz with hz | hz; exact iha h.2.1 z hz; exact ihb h.2.2 z hz.1
  | fr x a b iha ihb => intro h z hz; simp [T.used_e, mem_joinAll, mem_scUses] at hz; rcases hz with hz | hz; exact iha h.2.1 z hz; exact ihb h.2.2 z hz.1
  | cmp a x b iha ihb => intro h z hz; simp [T.used_e, mem_joinAll, mem_scUses, mem_putAll, mem_wout] at hz; rcases hz with hz | hz; exact ihb h.2.2 z hz; exact iha h.2.1 z hz.1
theorem nodup_funUses (us : List Str) (as : List Ar) (b : T) : (funUses us as b).Nodup := by
  unfold funUses wout
  exact (nodup_joinAll _).filter _
theorem nodup_capt (rows : List Row) : (capt rows).Nodup := by
  unfold capt
  exact (nodup_joinAll _).filter _
theorem Row.as_inj {x y : Str} {a b : Bool} : (Row.as x a = Row.as y b) = (x = y ∧ a = b) := propext ⟨fun h => by cases h; exact ⟨rfl, rfl⟩, fun h => by rw [h.1, h.2]⟩
theorem Row.held_inj {x y : List Str} : (Row.held x = Row.held y) = (x = y) := propext ⟨fun h => by cases h; rfl, fun h => by rw [h]⟩
theorem rows_al (H : T → List Str) : ∀ t : T, t.al → ∀ s y b, Row.as y b ∈ t.rows H s → y ∈ ABC := by
  intro t
  induction t with
  | sym x => intro h s y b hy; cases hy
  | one => intro h s y b hy; cases hy
  | quo x => intro h s y b hy; cases hy
  | dot x => intro h s y b hy; cases hy
  | loc x => intro h s y b hy; simp only [T.rows_e, List.mem_singleton, Row.as_inj] at hy; rw [hy.1]; exact h
  | set x v ih => intro h s y b hy; simp only [T.rows_e, List.mem_append, List.mem_singleton, Row.as_inj] at hy; rcases hy with hy | hy; exact ih h.2 _ _ _ hy; rw [hy.1]; exact h.1
  | up x v ih => intro h s y b hy; simp only [T.rows_e, List.mem_append, List.mem_singleton, Row.as_inj] at hy; rcases hy with hy | hy; exact ih h.2 _ _ _ hy; rw [hy.1]; exact h.1
  | locs x v ih => intro h s y b hy; simp only [T.rows_e, List.mem_append, List.mem_singleton, Row.as_inj] at hy; rcases hy with hy | hy; exact ih h.2 _ _ _ hy; rw [hy.1]; exact h.1
  | fn x as v ih =>
    intro h s y b hy
    simp only [T.rows_e, List.mem_cons, List.mem_append, List.mem_singleton, Row.as_inj, reduceCtorEq, false_or, List.not_mem_nil, or_false] at hy
    rcases hy with hy | hy
    · exact ih h.2.2 _ _ _ hy
    · rw [hy.1]; exact h.1
  | arr as v ih =>
    intro h s y b hy
    simp only [T.rows_e, List.mem_cons, reduceCtorEq, false_or] at hy
    exact ih h.2 _ _ _ hy
  | blk p q ihp ihq => intro h s y b hy; simp only [T.rows_e, List.mem_append] at hy; rcases hy with hy | hy; exact ihp h.1 _ _ _ hy; exact ihq h.2 _ _ _ hy
  | ite p q ihp ihq => intro h s y b hy; simp only [T.rows_e, List.mem_append] at hy; rcases hy with hy | hy; exact ihp h.1 _ _ _ hy; exact ihq h.2 _ _ _ hy
  | whl p q ihp ihq => intro h s y b hy; simp only [T.rows_e, List.mem_append] at hy; rcases hy with hy | hy; exact ihp h.1 _ _ _ hy; exact ihq h.2 _ _ _ hy
  | lt x p q ihp ihq => intro h s y b hy; simp only [T.rows_e, List.mem_append, List.mem_singleton, Row.as_inj] at hy; rcases hy with (hy | hy) | hy; exact ihp h.2.1 _ _ _ hy; rw [hy.1]; exact h.1; exact ihq h.2.2 _ _ _ hy
  | fr x p q ihp ihq => intro h s y b hy; simp only [T.rows_e, List.mem_append, List.mem_singleton, Row.as_inj] at hy; rcases hy with (hy | hy) | hy; exact ihp h.2.1 _ _ _ hy; rw [hy.1]; exact h.1; exact ihq h.2.2 _ _ _ hy
  | cmp p x q ihp ihq => intro h s y b hy; simp only [T.rows_e, List.mem_append, List.mem_singleton, Row.as_inj, reduceCtorEq, or_false] at hy; rcases hy with (hy | hy) | hy; exact ihq h.2.2 _ _ _ hy; rw [hy.1]; exact h.1; exact ihp h.2.1 _ _ _ hy
theorem held_al : ∀ t : T, t.al → ∀ s ys, Row.held ys ∈ t.rows T.H1 s → ∀ z ∈ ys, z ∈ ABC := by
  intro t
  induction t with
  | sym x => intro h s y hy; cases hy
  | one => intro h s y hy; cases hy
  | quo x => intro h s y hy; cases hy
  | dot x => intro h s y hy; cases hy
  | loc x => intro h s y hy; simp [T.rows_e] at hy
  | set x v ih => intro h s y hy; simp [T.rows_e] at hy; exact ih h.2 _ _ hy
  | up x v ih => intro h s y hy; simp [T.rows_e] at hy; exact ih h.2 _ _ hy
  | locs x v ih => intro h s y hy; simp [T.rows_e] at hy; exact ih h.2 _ _ hy
  | fn x as v ih =>
    intro h s y hy
    simp only [T.rows_e, List.mem_cons, List.mem_append, List.not_mem_nil, or_false, reduceCtorEq, Row.held_inj] at hy
    rcases hy with rfl | hy
    · exact mem_funUses_al h.2.1 (used_al v h.2.2)
    · exact ih h.2.2 _ _ hy
  | arr as v ih =>
    intro h s y hy
    simp only [T.rows_e, List.mem_cons, Row.held_inj] at hy
    rcases hy with rfl | hy
    · exact mem_funUses_al h.1 (used_al v h.2)
    · exact ih h.2 _ _ hy
  | blk p q ihp ihq => intro h s y hy; simp only [T.rows_e, List.mem_append] at hy; rcases hy with hy | hy; exact ihp h.1 _ _ hy; exact ihq h.2 _ _ hy
  | ite p q ihp ihq => intro h s y hy; simp only [T.rows_e, List.mem_append] at hy; rcases hy with hy | hy; exact ihp h.1 _ _ hy; exact ihq h.2 _ _ hy
  | whl p q ihp ihq => intro h s y hy; simp only [T.rows_e, List.mem_append] at hy; rcases hy with hy | hy; exact ihp h.1 _ _ hy; exact ihq h.2 _ _ hy
  | lt x p q ihp ihq => intro h s y hy; simp [T.rows_e] at hy; rcases hy with hy | hy; exact ihp h.2.1 _ _ hy; exact ihq h.2.2 _ _ hy
  | fr x p q ihp ihq => intro h s y hy; simp [T.rows_e] at hy; rcases hy with hy | hy; exact ihp h.2.1 _ _ hy; exact ihq h.2.2 _ _ hy
  | cmp p x q ihp ihq =>
    intro h s y hy
    simp only [T.rows_e, List.mem_append, List.mem_singleton, reduceCtorEq, or_false, Row.held_inj] at hy
    rcases hy with (hy | rfl) | hy
    · exact ihq h.2.2 _ _ hy
    · exact used_al (.cmp p x q) h
    · exact ihp h.2.1 _ _ hy
theorem mem_heldOf : ∀ {rows : List Row} {ys : List Str}, ys ∈ heldOf rows → Row.held ys ∈ rows
  | .held zs :: r, ys, h => by
    rcases List.mem_cons.mp h with rfl | h
    · exact .head _
    · exact .tail _ (mem_heldOf h)
  | .as _ _ :: r, ys, h => .tail _ (mem_heldOf (rows := r) h)
theorem capt_al (t : T) (h : t.al) (s : Bool) : ∀ z ∈ capt (t.rows T.H1 s), z ∈ ABC := by
  intro z hz
  unfold capt at hz
  rw [List.mem_filter, mem_joinAll] at hz
  refine ex0_2 hz ?_; clear hz; intro gN95 _; refine ex1_2 gN95 ?_; clear gN95; intro ys h1 h2
  exact held_al t h s ys (mem_heldOf h1) z h2
noncomputable def T.fun? : T → Bool
  | .fn _ _ _ => true
  | .arr _ _ => true
  | _ => false
theorem good_funs {z h : Nat} : ∀ t : T, Good z h t → ∀ f ∈ t.funs, f.fun? = true ∧ Good z h f := by
  intro t
  induction t with
  | sym x => intro g f hf; cases hf
  | one => intro g f hf; cases hf
  | quo x => intro g f hf; cases hf
  | dot x => intro g f hf; cases hf
  | loc x => intro g f hf; cases hf
  | set x v ih => rintro ⟨g1, g2, g3, g4⟩ f hf; simp only [T.sz_e, T.ht_e] at g3 g4; exact ih ⟨g1, g2.2, by k_extra "mE lia", by k_extra "mE lia"⟩ f hf
  | up x v ih => rintro ⟨g1, g2, g3, g4⟩ f hf; simp only [T.sz_e, T.ht_e] at g3 g4; exact ih ⟨g1, g2.2, by k_extra "mE lia", by k_extra "mE lia"⟩ f hf
  | locs x v ih => rintro ⟨g1, g2, g3, g4⟩ f hf; simp only [T.sz_e, T.ht_e] at g3 g4; exact ih ⟨g1, g2.2, by k_extra "mE lia", by k_extra "mE lia"⟩ f hf
  | fn x as v ih =>
    intro gR96 f hf; refine ex0_4 gR96 ?_; clear gR96; intro g1 g2 g3 g4
    rcases List.mem_cons.mp hf with rfl | hf
    · exact ⟨rfl, g1, g2, g3, g4⟩
    · simp only [T.sz_e, T.ht_e] at g3 g4; exact ih ⟨g1.2.2, g2.2.2, by k_extra "mE lia", by k_extra "mE lia"⟩ f hf
  | arr as v ih =>
    intro gR97 f hf; refine ex0_4 gR97 ?_; clear gR97; intro g1 g2 g3 g4
    rcases List.mem_cons.mp hf with rfl | hf
    · exact ⟨rfl, g1, g2, g3, g4⟩
    · simp only [T.sz_e, T.ht_e] at g3 g4; exact ih ⟨g1.2, g2.2, by k_extra "mE lia", by k_extra "mE lia"⟩ f hf
  | blk p q ihp ihq => rintro ⟨g1, g2, g3, g4⟩ f hf; simp only [T.sz_e, T.ht_e] at g3 g4; rcases List.mem_append.mp hf with hf | hf; exact ihp ⟨g1.1, g2.1, by k_extra "mE lia", by k_extra "mE lia"⟩ f hf; exact ihq ⟨g1.2, g2.2, by k_extra "mE lia", by k_extra "mE lia"⟩ f hf
  | ite p q ihp ihq => rintro ⟨g1, g2, g3, g4⟩ f hf; simp only [T.sz_e, T.ht_e] at g3 g4; rcases List.mem_append.mp hf with hf | hf; exact ihp ⟨g1.1, g2.1, by k_extra "mE lia", by k_extra "mE lia"⟩ f hf; exact ihq ⟨g1.2, g2.2, by k_extra "mE lia", by k_extra "mE lia"⟩ f hf
  | whl p q ihp ihq => rintro ⟨g1, g2, g3, g4⟩ f hf; simp only [T.sz_e, T.ht_e] at g3 g4; rcases List.mem_append.mp hf with hf | hf; exact ihp ⟨g1.1, g2.1, by k_extra "mE lia", by k_extra "mE lia"⟩ f hf; exact ihq ⟨g1.2, g2.2, by k_extra "mE lia", by k_extra "mE lia"⟩ f hf
  | lt x p q ihp ihq => rintro ⟨g1, g2, g3, g4⟩ f hf; simp only [T.sz_e, T.ht_e] at g3 g4; rcases List.mem_append.mp hf with hf | hf; exact ihp ⟨g1.1, g2.2.1, by k_extra "mE lia", by k_extra "mE lia"⟩ f hf; exact ihq ⟨g1.2, g2.2.2, by k_extra "mE lia", by k_extra "mE lia"⟩ f hf
  | fr x p q ihp ihq => rintro ⟨g1, g2, g3, g4⟩ f hf; simp only [T.sz_e, T.ht_e] at g3 g4; rcases List.mem_append.mp hf with hf | hf; exact ihp ⟨g1.1, g2.2.1, by k_extra "mE lia", by k_extra "mE lia"⟩ f hf; exact ihq ⟨g1.2, g2.2.2, by k_extra "mE lia", by k_extra "mE lia"⟩ f hf
  | cmp p x q ihp ihq => rintro ⟨g1, g2, g3, g4⟩ f hf; simp only [T.sz_e, T.ht_e] at g3 g4; rcases List.mem_append.mp hf with hf | hf; exact ihp ⟨g1.1, g2.2.1, by k_extra "mE lia", by k_extra "mE lia"⟩ f hf; exact ihq ⟨g1.2, g2.2.2, by k_extra "mE lia", by k_extra "mE lia"⟩ f hf
theorem held_nodup : ∀ t : T, ∀ s ys, Row.held ys ∈ t.rows T.H1 s → ys.Nodup := by
  intro t
  induction t with
  | sym x => intro s y hy; cases hy
  | one => intro s y hy; cases hy
  | quo x => intro s y hy; cases hy
  | dot x => intro s y hy; cases hy
  | loc x => intro s y hy; simp [T.rows_e] at hy
  | set x v ih => intro s y hy; simp [T.rows_e] at hy; exact ih _ _ hy
  | up x v ih => intro s y hy; simp [T.rows_e] at hy; exact ih _ _ hy
  | locs x v ih => intro s y hy; simp [T.rows_e] at hy; exact ih _ _ hy
  | fn x as v ih =>
    intro s y hy
    simp only [T.rows_e, List.mem_cons, List.mem_append, List.not_mem_nil, or_false, reduceCtorEq, Row.held_inj] at hy
    rcases hy with rfl | hy
    · exact nodup_funUses _ _ _
    · exact ih _ _ hy
  | arr as v ih =>
    intro s y hy
    simp only [T.rows_e, List.mem_cons, Row.held_inj] at hy
    rcases hy with rfl | hy
    · exact nodup_funUses _ _ _
    · exact ih _ _ hy
  | blk p q ihp ihq => intro s y hy; simp only [T.rows_e, List.mem_append] at hy; rcases hy with hy | hy; exact ihp _ _ hy; exact ihq _ _ hy
  | ite p q ihp ihq => intro s y hy; simp only [T.rows_e, List.mem_append] at hy; rcases hy with hy | hy; exact ihp _ _ hy; exact ihq _ _ hy
  | whl p q ihp ihq => intro s y hy; simp only [T.rows_e, List.mem_append] at hy; rcases hy with hy | hy; exact ihp _ _ hy; exact ihq _ _ hy
  | lt x p q ihp ihq => intro s y hy; simp [T.rows_e] at hy; rcases hy with hy | hy; exact ihp _ _ hy; exact ihq _ _ hy
  | fr x p q ihp ihq => intro s y hy; simp [T.rows_e] at hy; rcases hy with hy | hy; exact ihp _ _ hy; exact ihq _ _ hy
  | cmp p x q ihp ihq =>
    intro s y hy
    simp only [T.rows_e, List.mem_append, List.mem_singleton, reduceCtorEq, or_false, Row.held_inj] at hy
    rcases hy with (hy | rfl) | hy
    · exact ihq _ _ hy
    · exact nodup_joinAll _
    · exact ihp _ _ hy
theorem held_sum (rows : List Row) (h : ∀ ys, Row.held ys ∈ rows → ys.length ≤ 6) : ((heldOf rows).map List.length).sum ≤ 6 * rows.length := by
  induction rows with
  | nil => exact Nat.le_refl _
  | cons r rows ih =>
    have ih := ih fun ys hy => h ys (.tail _ hy)
    cases r with
    | as y b => simp only [heldOf_n, heldOf_h, heldOf_a, List.length_cons]; k_extra "mE lia"
    | held ys => have := h ys (.head _); simp only [heldOf_n, heldOf_h, heldOf_a, List.map_cons, List.sum_cons, List.length_cons]; k_extra "mE lia"
theorem held_sum_t (t : T) (h : t.al) (hz : t.sz ≤ 4096) : ((heldOf (t.rows T.H1 true)).map List.length).sum ≤ 2 ^ 20 := by
  have h1 := held_sum (t.rows T.H1 true) fun ys hy => abc_le (held_nodup t true ys hy) (held_al t h true ys hy)
  have h2 := t.rows_len T.H1 true
  k_extra "mE lia"
theorem no_held (t : T) (h : t.al) (H : T → List Str) (s : Bool) : NoHeld (t.rows H s) := by
  intro y b hy
  refine ex1_1 (abc_one (rows_al H t h s y b hy)) ?_; intro c eK; subst eK
  have := one_sign c
  apply beq_eq_false_iff_ne.mpr
  intro e
  rw [e] at this
  simp at this
example : Sep := by w_top off; first | walk1 | trivial
example : True := by
 k_with "mcall ref" => ((with_reducible refine (?_ : wpAny _ _ (call (.ref 278) _) _ _ _)); k_dflt (refine' dropT_u ?jm0 ?jm1 ?jlo ?jf ?jn ?jo ?jr ?ju ?jq ?jv ?_; (case jm0 => decide); (case jm1 => decide); (case jlo => k_extra "a"); k_extra "mP4"; (case ju => k_extra "mE updT"); (case jq => k_extra "mnm"); (case jv => k_extra "a")); intro _ _ _ _ _ _ _ _ _ N'; (try dsimp only at N'); revert N'; intro _; k_extra "msw")
 exact trivial
theorem startV {h h₁ : Heap} {L d : Addr} {m : Str → Option Value} {g : Heap} {o : Obj} (F : Fr h L h₁ m) (hg : Le g h) (hgu : g.get? d = none) (hL : L = h.objs.size) (hu : h.get? d = some o) :
    ∃ hb, Fr hb L h₁ m ∧ News hb L h₁ ((d, o) :: []) ∧ Le g hb ∧ (∀ b o, h.get? b = some o → b ≠ d → hb.get? b = some o) :=
  ⟨h.hide d, Fr.hide d F, News.hide1 F hu hL, le_hide hg hgu, fun _ _ e hb => (Heap.hide_ne _ hb).trans e⟩
section
variable {A : Around} {s : Shared} {d : Addr} {g : Heap}
theorem name_c {A : Around} {s : Shared} {d : Addr} {g : Heap} (O : OkH w g) (hg : Le g s.heap) (hgu : g.get? d = none) (r : Rm A 2) (V : VatAt w s.heap d) :
    Calls w A s 285 [.ref d] (at1 d) (Built w (fun t => ∃ x ∈ ABC, t = .sym x) s d) := by
  refine ex0_2 V ?_; clear V; intro hlo gN98; refine ex1_2 gN98 ?_; clear gN98; intro o ho V
  refine' enter [((Str.ofString "vat"), .ref d)] (O.keeps hg) r ?k6 ?k7 ?k9 ?kB ?_ ?c1 ?c2 ?c3 ?c4 ?c5; k_extra "eN"
  refine ex1_4 (startV F hg hgu hL' ho) ?_; intro hb F N hgh hk
  have O' := O.keeps hgh
  have X := OkH.X O'; have Tp := OkH.top O'
  k_steps
  refine built_end S hlo hk (by assumption) (by assumption) (by k_mem) (by assumption) ⟨_, item_abc (Str.ofString "vwxyz") (by decide +kernel) (by assumption) (by assumption), rfl⟩ ?_
  simp only [T.tr_e, TreeL.e1, TreeL.e2, TreeL.e3]
  exact ⟨_, _, _, rfl, by k_mem⟩
end
example : Sep := by w_top off; first | walk1 | trivial
section
variable {A : Around} {s : Shared} {d p : Addr} {n : Nat} {o : Obj} {Q E : Value → Shared → Prop} {h₀ : Heap} {L : Addr} {m : Str → Option Value} {news rs : List (Addr × Obj)} {ky : Str} {t tf : Tok} {vs : List Value} {g : Obj → List (Addr × Obj) → List (Addr × Obj)} {fl : Int} {z h : Nat}
theorem ne_of_in {h : Heap} {a b : Addr} {o : Obj} (ha : h.get? a = none) (hb : h.get? b = some o) : @Ne Nat a b := fun e => by rw [show a = b from e, hb] at ha; cases ha
theorem exprT_u (hlo : (d == sysModules) = false) (F : Fr h₀ L s.heap m) (N : News h₀ L s.heap news) (O : OkH w h₀) (r : Rm A 1) (hp : (p, tupObj vs) ∈ news) (hd : ∃ o, (d, o) ∈ news)
    (k : ∀ a t1 h' tk, @Ne Nat a d → Fr h₀ L h' m → News h₀ L h' ((a, exObj ky t1 t p) :: news) → Q (.ref a) { s with heap := h', toks := tk }) : wpAny (model PR w) A (call (.ref 21) [.str ky t, .ref p]) Q E s := by
  refine use0 (expr_t (O.keeps F.keep) r (News.isTup N hp)) F N fun r h' tk hQ9 le F' N' => ?_
  refine ex2_3 hQ9 ?_; clear hQ9; intro a t1 e ha ho
  subst e
  refine ex1_1 hd ?_; clear hd; intro o hd
  exact k a t1 h' tk (ne_of_in ha (N _ hd).1) F' (News.cons F N' ha ho)
theorem exprL_u {nl : Nat} (hlo : (d == sysModules) = false) (F : Fr h₀ L s.heap m) (N : News h₀ L s.heap news) (O : OkH w h₀) (r : Rm A 1) (hp : (p, listOf vs.toArray nl) ∈ news) (hz : vs.length ≤ 16384) (hd : ∃ o, (d, o) ∈ news)
    (k : ∀ a b t1 h' tk, @Ne Nat a d → @Ne Nat b d → Fr h₀ L h' m → News h₀ L h' ((a, exObj ky t1 t b) :: (b, tupObj vs) :: news) → Q (.ref a) { s with heap := h', toks := tk }) : wpAny (model PR w) A (call (.ref 21) [.str ky t, .ref p]) Q E s := by
  refine use0 (expr_l (O.keeps F.keep) r (N _ hp).1 hz) F N fun r h' tk hQ9 le F' N' => ?_
  refine ex3_6 hQ9 ?_; clear hQ9; intro a b t1 e ha hb hne ho hob
  subst e
  refine ex1_1 hd ?_; clear hd; intro o hd
  exact k a b t1 h' tk (ne_of_in ha (N _ hd).1) (ne_of_in hb (N _ hd).1) F' (News.cons F (News.cons F N' hb hob) ha ho)
theorem name_u (hlo : (d == sysModules) = false) (F : Fr h₀ L s.heap m) (N : News h₀ L s.heap news) (O : OkH w h₀) (r : Rm A 2) (U : UpdT d o rs news g) (hrs : ∀ p ∈ rs, p.1 ≠ d) (V : VatO w o)
    (k : ∀ x v o' rs' h' tk, x ∈ ABC → VatO w o' → (∀ p ∈ rs' ++ rs, p.1 ≠ d) → (∀ p ∈ rs', ∀ q ∈ news, p.1 ≠ q.1) → TreeL rs' (.sym x) v → Fr h₀ L h' m → News h₀ L h' (g o' (rs' ++ rs)) → Q v { s with heap := h', toks := tk }) :
    wpAny (model PR w) A (call (.ref 285) [.ref d]) Q E s := by
  have hu := N _ U.mem
  refine built_u (name_c O F.keep hu.2.2 r ⟨hlo, o, hu.1, V⟩) F N U hrs V fun t v o' rs' h' tk hP hV hr hq hT F' N' => ?_
  refine ex1_2 hP ?_; clear hP; intro x hx eK; subst eK
  exact k x v o' rs' h' tk hx hV hr hq hT F' N'
noncomputable def TreeOk (w : World) (f : Addr) (fl : Int) (z h n : Nat) : Prop := ∀ (A : Around) (s : Shared) (g : Heap) (d : Addr) (t : Tok), OkH w g → Le g s.heap → g.get? d = none → Rm A n → VatAt w s.heap d → Calls w A s f [.ref d, .int fl t] (at1 d) (Built w (Good z h) s d)
theorem tree_u {f : Addr} (hT : TreeOk w f fl z h n) (hlo : (d == sysModules) = false) (F : Fr h₀ L s.heap m) (N : News h₀ L s.heap news) (O : OkH w h₀) (r : Rm A n) (U : UpdT d o rs news g) (hrs : ∀ p ∈ rs, p.1 ≠ d) (V : VatO w o)
    (k : ∀ t v o' rs' h' tk, Good z h t → VatO w o' → (∀ p ∈ rs' ++ rs, p.1 ≠ d) → TreeL rs' t.tr v → Fr h₀ L h' m → News h₀ L h' (g o' (rs' ++ rs)) → Q v { s with heap := h', toks := tk }) :
    wpAny (model PR w) A (call (.ref f) [.ref d, .int fl tf]) Q E s := by
  have hu := N _ U.mem
  exact built_u (hT A s h₀ d tf O F.keep hu.2.2 r ⟨hlo, o, hu.1, V⟩) F N U hrs V fun t v o' rs' h' tk hP hV hr _ hT F' N' => k t v o' rs' h' tk hP hV hr hT F' N'
end
example : True := by
 k_with "mE ex21" => first | (refine' exprT_u ?jlo ?jf ?jn ?jo ?jr ?jp ?jd ?_; (case jlo => k_extra "a"); k_extra "mP4"; (case jp => k_mem); (case jd => exact ⟨_, by k_mem⟩); intro _ _ _ _ _ _ _; k_extra "msw") | (refine' exprL_u ?jlo ?jf ?jn ?jo ?jr ?jp ?jz ?jd ?_; (case jlo => k_extra "a"); k_extra "mP4"; (case jp => k_mem); (case jz => first | decide | k_extra "mE om" | (simp only [List.length_append, List.length_cons, List.length_nil]; k_extra "mE om")); (case jd => exact ⟨_, by k_mem⟩); intro _ _ _ _ _ _ _ _ _; k_extra "msw")
 k_with "mcall ref" => ((with_reducible refine (?_ : wpAny _ _ (call (.ref 21) _) _ _ _)); k_dflt (k_extra "mE ex21"))
 k_with "mcall ref" => ((with_reducible refine (?_ : wpAny _ _ (call (.ref 285) _) _ _ _)); k_dflt (refine' name_u ?jlo ?jf ?jn ?jo ?jr ?ju ?jq ?jv ?_; (case jlo => k_extra "a"); k_extra "mP4"; (case ju => k_extra "mE updT"); (case jq => k_extra "mnm"); (case jv => k_extra "a")); intro _ _ _ _ _ _ _ _ q' q2' T' F' N'; (try dsimp only at N'); (try simp only [List.append_nil] at N' q'); revert q' q2' T' F' N'; intro _ _ _ _ _; k_extra "msw")
 k_with "mE tree" => (k_dflt (refine' tree_u ?jc ?jlo ?jf ?jn ?jo ?jr ?ju ?jq ?jv ?_; (case jc => k_extra "a"); (case jlo => k_extra "a"); k_extra "mP4"; (case ju => k_extra "mE updT"); (case jq => k_extra "mnm"); (case jv => k_extra "a")); intro _ _ _ _ _ _ _ _ q' T' F' N'; (try dsimp only at N'); (try simp only [List.append_nil] at N' q'); revert q' T' F' N'; intro _ _ _ _; k_extra "msw")
 k_with "mcall ref" => ((with_reducible refine (?_ : wpAny _ _ (call (.ref 290) _) _ _ _)); k_extra "mE tree")
 k_with "mcall ref" => ((with_reducible refine (?_ : wpAny _ _ (call (.ref 295) _) _ _ _)); k_extra "mE tree")
 exact trivial
example : Sep := by w_top off; first | walk1 | trivial
theorem comp_namedR {h₀ h h' h₂ : Heap} {L D : Addr} {m m' : Str → Option Value} {news rs : List (Addr × Obj)} {o : Obj} (F : Fr h₀ L h m) (N : News h₀ L h news) (hle : Le h h') (hD : h.get? D = none) (ho : h'.get? D = some o) (hs : Heap.SameBut L h' h₂) (hn : h₂.Ns L m')
    (hr : ∀ p ∈ rs, h'.get? p.1 = some p.2 ∧ h.get? p.1 = none) : Fr h₀ L h₂ m' ∧ News h₀ L h₂ ((D, o) :: (rs ++ news)) := by
  refine ex0_2 (comp_named F N hle hD ho hs hn) ?_; intro F' N'
  refine ex3_2 (F.ns) ?_; intro oL _ _ eL _
  refine ⟨F', fun p hp => ?_⟩
  rcases List.mem_cons.mp hp with rfl | hp
  · exact N' _ (.head _)
  · rcases List.mem_append.mp hp with hp | hp
    · refine ex0_2 (hr p hp) ?_; intro h1 h2
      have hL : p.1 ≠ L := fun e => by rw [e, eL] at h2; cases h2
      refine ⟨hs.extBut _ _ hL h1, hL, ?_⟩
      cases q : h₀.get? p.1 with
      | none => rfl
      | some o => rw [F.keep _ _ q] at h2; cases h2
    · exact N' _ (.tail _ hp)
section
variable {N : List (Addr × Obj)} {ky x : Str} {t1 t2 : Tok} {a b : Addr} {ps : List Tr} {p : Tr} {v : Value} {vs : List Value}
theorem treeL_ex {ky : Str} {N : List (Addr × Obj)} {t1 t2 : Tok} {a b : Addr} {ps : List Tr} {vs : List Value} (h1 : (a, exObj ky t1 t2 b) ∈ N) (h2 : (b, tupObj vs) ∈ N) (h3 : TreesL N ps vs) : TreeL N (.ex ky ps) (.ref a) := by
  simp only [TreeL.e1, TreeL.e2, TreeL.e3]; exact ⟨a, t1, t2, b, vs, rfl, h1, h2, h3⟩
theorem TreeL.mono' {N : List (Addr × Obj)} {p : Tr} {v : Value} {N' : List (Addr × Obj)} (h : TreeL N p v) (k : TupSub N N') : TreeL N' p v := TreeL.mono k p h
theorem ne_objs {N : List (Addr × Obj)} {a b : Addr} {h₀ h : Heap} {L : Addr} {o1 o2 : Obj} (k : News h₀ L h N) (h1 : (a, o1) ∈ N) (h2 : (b, o2) ∈ N) (ho : o1 ≠ o2) : @Ne Nat a b := fun e => ho (Option.some.inj ((k _ h1).1.symm.trans (by rw [show a = b from e]; exact (k _ h2).1)))
theorem tup_list {l : List Value} {vs : Array Value} {n : Nat} : tupObj l ≠ listOf vs n := by
  intro e
  have h1 := congrArg (fun o : Obj => o.cls) e
  exact absurd (Value.type.inj h1) (by decide)
theorem set_last_L {E : Value → Shared → Prop} {N : List (Addr × Obj)} {vs : List Value} {A : Around} {s : Shared} {h₀ : Heap} {L D : Addr} {m : Str → Option Value} {g : Obj → List (Addr × Obj)} {n : Nat} {x y : Value} {t : Tok} {Q : Unit → Shared → Prop} (F : Fr h₀ L s.heap m) (K : News h₀ L s.heap N) (U : UpdF D (listOf (List.toArray (vs ++ [y])) n) N g)
    (h : ∀ n' h', Fr h₀ L h' m → News h₀ L h' (g (listOf (List.toArray (vs ++ [x])) n')) → Q () { s with heap := h' }) : wpAny (model PR w) A (setItem (.ref D) (.int (-1) t) x) Q E s := by
  have z := K _ (UpdF.mem U)
  refine ex1_2 (upd_list (fun xs => xs.setIfInBounds ((-1 : Int) + (List.toArray (vs ++ [y])).size).toNat x) F K U) ?_; intro n' F' N'
  refine ki_setBack z.1 (by decide) (by simp only [List.size_toArray, List.length_append, List.length_singleton]; k_extra "mE lia") (by decide) (h n' _ F' ?_)
  have e : (List.toArray (vs ++ [y])).setIfInBounds ((-1 : Int) + (List.toArray (vs ++ [y])).size).toNat x = List.toArray (vs ++ [x]) := by
    have h1 : ((-1 : Int) + ((List.toArray (vs ++ [y])).size : Nat)).toNat = vs.length := by simp only [List.size_toArray, List.length_append, List.length_singleton]; k_extra "mE lia"
    rw [h1]
    apply Array.toList_inj.mp
    simp
  rw [e] at N'; exact N'
theorem treesL_nil {N : List (Addr × Obj)} : TreesL N [] [] := by simp only [TreesL.e1, TreesL.e2]
theorem treesL_cons {N : List (Addr × Obj)} {ps : List Tr} {vs : List Value} (h : TreeL N p v) (h' : TreesL N ps vs) : TreesL N (p :: ps) (v :: vs) := by
  simp only [TreesL.e1, TreesL.e2]; exact ⟨v, vs, rfl, h, h'⟩
theorem treeL_sym {x : Str} {N : List (Addr × Obj)} {t1 t2 : Tok} {a : Addr} (h : (a, tupObj [.str (Str.ofString "sym") t1, .str x t2]) ∈ N) : TreeL N (.sym x) (.ref a) := by
  simp only [TreeL.e1, TreeL.e2, TreeL.e3]; exact ⟨a, t1, t2, rfl, h⟩
theorem treeL_one {N : List (Addr × Obj)} {t1 t2 : Tok} {a : Addr} (h : (a, tupObj [.str (Str.ofString "int") t1, .int 1 t2]) ∈ N) : TreeL N .one (.ref a) := by
  simp only [TreeL.e1, TreeL.e2, TreeL.e3]; exact ⟨a, t1, t2, rfl, h⟩
end
theorem abc_ne {x : Str} (h : x ∈ ABC) : (x == Str.ofString "") = false := by
  refine ex1_1 (abc_one h) ?_; intro c eK; subst eK
  apply beq_eq_false_iff_ne.mpr
  intro e
  have h1 := congrArg (fun x : Str => x.cps.size) e
  have h2 : (Str.ofString "").cps.size = 0 := by decide +kernel
  dsimp only at h1
  rw [h2] at h1
  exact absurd h1 (by show ¬ (1 = 0); decide)
theorem good_fn {x : Str} {as : List Ar} {b : T} {z h : Nat} (hx : x ∈ ABC) (ha : ∀ a ∈ as, a.al) (hl : as.length ≤ 2) (g : Good z h b) : Good (z + 10) (h + 1) (.fn x as b) :=
  ⟨⟨abc_ne hx, by k_extra "mE lia", g.1⟩, ⟨hx, ha, g.2.1⟩, by have := g.2.2.1; simp only [T.sz_e]; k_extra "mE lia", by have := g.2.2.2; simp only [T.ht_e]; k_extra "mE lia"⟩
theorem good_arr {as : List Ar} {b : T} {z h : Nat} (ha : ∀ a ∈ as, a.al) (hl : as.length ≤ 2) (g : Good z h b) : Good (z + 10) (h + 1) (.arr as b) :=
  ⟨⟨by k_extra "mE lia", g.1⟩, ⟨ha, g.2.1⟩, by have := g.2.2.1; simp only [T.sz_e]; k_extra "mE lia", by have := g.2.2.2; simp only [T.ht_e]; k_extra "mE lia"⟩
theorem al_n {x : Str} (h : x ∈ ABC) : Ar.al (x, none) := ⟨h, fun _ e => nomatch e⟩
theorem al_s {x y : Str} (h : x ∈ ABC) (k : y ∈ ABC) : Ar.al (x, some y) := ⟨h, fun z e => by cases e; exact k⟩
theorem al_one {a : Ar} (h : a.al) : ∀ b ∈ [a], b.al := fun b hb => by rw [List.mem_singleton.mp hb]; exact h
theorem al_two {a c : Ar} (h : a.al) (k : c.al) : ∀ b ∈ [a, c], b.al := fun b hb => by
  rcases List.mem_cons.mp hb with rfl | hb
  · exact h
  · rw [List.mem_singleton.mp hb]; exact k
theorem zk_abc {i : Int} (h0 : 0 ≤ i) (h1 : i < 2) : Txt.item (Str.ofString "zk") i ∈ ABC := by
  have h2 : (Str.ofString "zk").length = 2 := by decide +kernel
  exact item_abc _ (by decide +kernel) h0 (by rw [h2]; exact h1)
example : True := by
 k_with "mE tsub" => (refine TupSub.of fun p hp => ?_; (repeat (first | exact hp | exact List.mem_append_left _ hp | exact List.mem_append_right _ hp | refine List.Mem.tail _ ?_ | refine List.mem_append_right _ ?_)))
 exact trivial
noncomputable def InTurn : Prop := True
theorem sym_step {as : List Str} {x : Str} {h2 : Heap} {s₃ : Shared} {i tk : Nat} {zs : List Value} {hid : List Addr} {rsA : List (Addr × Obj)} {t1 t2 : Tok} (hk : Le h2 s₃.heap) (hfr : ∀ b, s₃.heap.get? b = none → b ∉ hid) (hx : x ∈ ABC) (e1 : as.length = i) (e2 : ∀ x ∈ as, x ∈ ABC)
    (e3 : TreesL rsA (as.map Tr.sym) zs) (e4 : ∀ p ∈ rsA, (hideAll s₃.heap hid).get? p.1 = some p.2 ∧ h2.get? p.1 = none) :
    CKeep [] s₃ { s₃ with heap := s₃.heap.push (tupObj [.str (Str.ofString "sym") t1, .str x t2]), toks := tk } (∃ (as : List Str) (rsA : List (Addr × Obj)), as.length = i + 1 ∧ (∀ x ∈ as, x ∈ ABC) ∧ TreesL rsA (as.map Tr.sym) (zs ++ [.ref s₃.heap.objs.size]) ∧
      ∀ p ∈ rsA, (hideAll (s₃.heap.push (tupObj [.str (Str.ofString "sym") t1, .str x t2])) hid).get? p.1 = some p.2 ∧ h2.get? p.1 = none) := by
  have hn : s₃.heap.get? s₃.heap.objs.size = none := Heap.get?_none_of_le (Nat.le_refl _)
  refine ⟨⟨⟨rfl, rfl, rfl⟩, fun b o _ e => Heap.get?_push_of_some _ e⟩, as ++ [x], (s₃.heap.objs.size, tupObj [.str (Str.ofString "sym") t1, .str x t2]) :: rsA, by simp [e1], fun y hy => ?_, ?_, fun p hp => ?_⟩
  · rcases List.mem_append.mp hy with hy | hy
    · exact e2 y hy
    · rw [List.mem_singleton.mp hy]; exact hx
  · rw [List.map_append]
    refine TreesL.append ?_ _ (TreesL.mono (TupSub.of fun p hp => .tail _ hp) _ e3)
    simp only [List.map_cons, List.map_nil, TreesL.e1, TreesL.e2, TreeL.e1, TreeL.e2, TreeL.e3]
    exact ⟨_, _, rfl, ⟨_, _, _, rfl, .head _⟩, rfl⟩
  · rcases List.mem_cons.mp hp with rfl | hp
    · refine ⟨hideAll_get hid (Heap.get?_push_size _ rfl) (hfr _ hn), ?_⟩
      cases q : h2.get? s₃.heap.objs.size with
      | none => rfl
      | some o => have := hk _ _ q; rw [hn] at this; cases this
    · exact ⟨le_hideAll (fun b o _ e => Heap.get?_push_of_some _ e) _ _ (e4 p hp).1, (e4 p hp).2⟩
noncomputable def Stop {α : Type} (G : α → Shared → Prop) (v : α) (s : Shared) : Prop := G v s
noncomputable def FArgs (hb : Heap) (L D d : Addr) (h : Heap) : Prop := ∃ (as : List Ar) (zs : List Value) (nD : Nat) (N : List (Addr × Obj)) (o1 : Obj), News hb L h N ∧ (D, listOf zs.toArray nD) ∈ N ∧ (d, o1) ∈ N ∧ VatO w o1 ∧ TreesL N (as.map Ar.tr) zs ∧ as.length ≤ 2 ∧ ∀ a ∈ as, a.al
theorem FArgs.norm {hb h : Heap} {L D d : Addr} (P : FArgs hb L D d h) : ∃ (as : List Ar) (zs : List Value) (nD : Nat) (rs : List (Addr × Obj)) (o1 : Obj), News hb L h ((D, listOf zs.toArray nD) :: (d, o1) :: rs) ∧ VatO w o1 ∧ TreesL rs (as.map Ar.tr) zs ∧ as.length ≤ 2 ∧ (∀ a ∈ as, a.al) ∧ (∀ p ∈ rs, p.1 ≠ D) ∧ ∀ p ∈ rs, p.1 ≠ d := by
  refine ex5_7 P ?_; clear P; intro as zs nD N o1 K h1 h2 V T hl ha
  refine ⟨as, zs, nD, N.filter (fun p => decide (p.1 ≠ D) && decide (p.1 ≠ d)), o1, News.sub K ?_, V, TreesL.mono ?_ _ T, hl, ha, ?_, ?_⟩
  · exact allCons h1 (allCons h2 fun p hp => (List.mem_filter.mp hp).1)
  · intro a l hm
    have e1 : a ≠ D := ne_objs K hm h1 tup_list
    have e2 : a ≠ d := fun e => V.ne (Option.some.inj ((K _ h2).1.symm.trans (by have := (K _ hm).1; rw [show a = d from e] at this; exact this)))
    exact List.mem_filter.mpr ⟨hm, by rw [decide_eq_true e1, decide_eq_true e2]; rfl⟩
  · intro p hp; have h3 := (List.mem_filter.mp hp).2; rw [Bool.and_eq_true] at h3; exact of_decide_eq_true h3.1
  · intro p hp; have h3 := (List.mem_filter.mp hp).2; rw [Bool.and_eq_true] at h3; exact of_decide_eq_true h3.2
section
variable {A : Around} {E : Value → Shared → Prop} {env : Env} {st : Stmt} {rest : List Stmt} {hb h : Heap} {L D d : Addr} {m : Str → Option Value} {g : Array GenState} {dr : Drawn} {o : OsState} {t : Nat} {Q : Flow → Shared → Prop}
theorem func_stop {E : Value → Shared → Prop} {rest : List Stmt} {A : Around} {env : Env} {hb : Heap} {L D d : Addr} {m : Str → Option Value} {g : Array GenState} {dr : Drawn} {o : OsState} {Q : Flow → Shared → Prop} (F : Fr hb L h m) (tail : ∀ h t, Fr hb L h m → FArgs hb L D d h → wpAny (model PR w) A (execs rest env) Q E ⟨h, g, dr, t, o⟩)
    (walk : wpAny (model PR w) A (exec st env) (Stop fun (f : Flow) (s : Shared) => f = .next ∧ ∃ (h : Heap) (t : Nat), s = ⟨h, g, dr, t, o⟩ ∧ Fr hb L h m ∧ FArgs hb L D d h) E ⟨h, g, dr, t, o⟩) : wpAny (model PR w) A (execs (st :: rest) env) Q E ⟨h, g, dr, t, o⟩ :=
  seq_c (wpAny_mono walk (fun f s x => by obtain ⟨rfl, h, t, rfl, F, p⟩ := x; exact tail h t F p) fun _ _ x => x)
theorem fargs_end {as : List Ar} {hb : Heap} {L D d : Addr} {m : Str → Option Value} {g : Array GenState} {dr : Drawn} {o : OsState} {zs : List Value} {nD : Nat} {N : List (Addr × Obj)} {o1 : Obj} (F : Fr hb L h m) (K : News hb L h N) (h1 : (D, listOf zs.toArray nD) ∈ N) (h2 : (d, o1) ∈ N) (V : VatO w o1) (T : TreesL N (as.map Ar.tr) zs) (hl : as.length ≤ 2) (ha : ∀ a ∈ as, a.al) :
    Stop (fun (f : Flow) (s : Shared) => f = .next ∧ ∃ (h : Heap) (t : Nat), s = ⟨h, g, dr, t, o⟩ ∧ Fr hb L h m ∧ FArgs hb L D d h) .next ⟨h, g, dr, t, o⟩ := ⟨rfl, h, t, rfl, F, as, zs, nD, N, o1, K, h1, h2, V, T, hl, ha⟩
end
section
example : True := by
 k_with "mnewTuple" => ((have mk' : InTurn := by with_reducible assumption); clear mk'; refine wpAny_newTuple ?_ (by first | decide | size_fits))
 exact trivial
theorem func_c {fl : Int} {z h n : Nat} (hT : TreeOk w 295 (fl - 1) z h n) : TreeOk w 290 fl (z + 10) (h + 1) (n + 3) := by
  intro A s g d t O hg hgu r V
  refine ex0_2 V ?_; clear V; intro hlo gN99; refine ex1_2 gN99 ?_; clear gN99; intro o ho V
  refine' enter [((Str.ofString "vat"), .ref d), ((Str.ofString "floors"), .int fl t)] (O.keeps hg) r ?k6 ?k7 ?k9 ?kB ?_ ?c1 ?c2 ?c3 ?c4 ?c5; k_extra "eN"
  refine ex1_4 (startV F hg hgu hL' ho) ?_; intro hb F N hgh hk
  have O' := O.keeps hgh
  have X := OkH.X O'; have Tp := OkH.top O'
  have hdL : @LT.lt Nat _ d L' := by rw [hL']; exact Heap.lt_size ho
  k_steps
  rename_i i1 ti1 o1 h1 tk1 hi1 hi2 V1 F1 N1 h2 tk2 u1 u2 u3 hRng F2 N2 hle2
  refine ex1_1 (Int.eq_ofNat_of_zero_le hi1) ?_; intro n1 eK; subst eK
  have O2 := O'.keeps F2.keep
  refine comp_range0 (n := n1) (fun i ys gg => ∃ (as : List Str) (rsA : List (Addr × Obj)), as.length = i ∧ (∀ x ∈ as, x ∈ ABC) ∧ TreesL rsA (as.map Tr.sym) ys ∧ ∀ p ∈ rsA, gg.get? p.1 = some p.2 ∧ h2.get? p.1 = none)
    (fun i ys g g' ⟨as, rsA, e1, e2, e3, e4⟩ le => ⟨as, rsA, e1, e2, e3, fun p hp => ⟨le _ _ (e4 p hp).1, (e4 p hp).2⟩⟩) r.hd hRng (small_one (by k_extra "mE lia") (by k_extra "mE lia") (by k_extra "mE lia") (by k_extra "mE lia")) (by rw [rangeSize_nat]; k_extra "mE lia") (by decide) rfl rfl (by k_extra "mE lia")
    ⟨[], [], rfl, (fun _ h => nomatch h), (by simp only [List.map_nil, TreesL.e1, TreesL.e2]), fun _ h => nomatch h⟩ ?_ ?_
  · intro i2 tt s₃ C m2 zs hid hi3 hlen hS F6 hfr gR100; refine ex2_4 gR100 ?_; clear gR100; intro as rsA e1 e2 e3 e4
    have N6 : News h2 C s₃.heap [] := News.nil
    have X5 := OkH.X O2; have T5 := OkH.top O2
    refine tests_nil ?_
    rw [if_pos rfl]
    clear F2 N2 X Tp F1 N1 F
    have mark : InTurn := trivial
    change Fr h2 C s₃.heap _ at F6
    k_steps
    have hvw : (Str.ofString "vw").length = 2 := by decide +kernel
    have hlt : (i2 : Int) < (Str.ofString "vw").length := by rw [hvw]; k_extra "mE lia"
    exact sym_step F6.keep hfr (item_abc _ (by decide +kernel) (by k_extra "mE lia") hlt) e1 e2 e3 e4
  · intro D s' zs hS' hD' hL gR101 hlen hle; k_extra "qD"; refine ex2_4 gR101 ?_; clear gR101; intro as rsA e1 e2 e3 e4
    refine ex2_1 (hS'.ex) ?_; intro hh1 tt1 eK; subst eK
    refine ex1_1 hL ?_; clear hL; intro nD hL
    refine ⟨_, F2.ns.keeps hle, ?_, ?_⟩
    · refine ex3_2 (F2.ns) ?_; intro oL _ _ e _
      intro q; have q' : h2.get? L' = none := q; rw [e] at q'; cases q'
    intro h5 hn5 hs5 tk5
    have hd2 := N2 _ (.head _)
    have hDd : @Ne Nat D d := ne_of_in hD' hd2.1
    have hrD : ∀ p ∈ rsA, p.1 ≠ D := fun p hp e => by have := (e4 p hp).1; rw [e] at this; rw [hideAll_none [D] (.head _)] at this; cases this
    have hrd : ∀ p ∈ rsA, p.1 ≠ d := fun p hp => ne_of_in (e4 p hp).2 hd2.1
    refine ex0_2 (comp_namedR F2 N2 hle hD' hL hs5 hn5 (rs := rsA) fun p hp => ⟨of_hideAll [D] (e4 p hp).1, (e4 p hp).2⟩) ?_; intro F3 N3
    have N4 : News hb L' h5 ((D, listOf zs.toArray nD) :: (d, o1) :: rsA) := News.sub N3 fun p hp => by
      simp only [List.mem_cons, List.mem_append, List.not_mem_nil, or_false] at hp ⊢
      rcases hp with h | h | h
      · exact .inl h
      · exact .inr (.inr h)
      · exact .inr (.inl h)
    clear F2 N2 N3 hn5 hs5 hL hD' F1 N1 hRng hle2 O2 e4 hd2 F hle hS'
    refine seqK_n ?_
    (try dsimp only)
    refine func_stop (D := D) (d := d) F3 ?_ ?_
    · intro h6 t6 F6 P6
      clear F3 N4 e3 hlen V1 hi1 hi2 hrd hrD e1 e2
      refine ex5_7 (FArgs.norm P6) ?_; intro as zs nD rs o2 N6 V2 T6 hl6 ha6 hr1 hr2
      clear P6
      have hz6 : zs.length ≤ 2 := by have := TreesL.length _ T6; rw [List.length_map] at this; k_extra "mE lia"
      k_steps
      · refine built_end S hlo hk (by assumption) (by assumption) (by k_mem) (by assumption) (good_fn (zk_abc (by assumption) (by assumption)) ha6 hl6 (by assumption)) ?_
        exact treeL_ex (by k_mem) (by k_mem) (treesL_cons (treeL_ex (by k_mem) (by k_mem) (treesL_cons (treeL_sym (by k_mem)) (TreesL.mono (by walk_at "E tsub") _ T6))) (treesL_cons (TreeL.mono' (by assumption) (by walk_at "E tsub")) treesL_nil))
      · refine built_end S hlo hk (by assumption) (by assumption) (by k_mem) (by assumption) (good_arr ha6 hl6 (by assumption)) ?_
        exact treeL_ex (by k_mem) (by k_mem) (treesL_cons (treeL_ex (by k_mem) (by k_mem) (TreesL.mono (by walk_at "E tsub") _ T6)) (treesL_cons (TreeL.mono' (by assumption) (by walk_at "E tsub")) treesL_nil))
    · rcases as with _ | ⟨x1, _ | ⟨x2, _ | ⟨x3, as⟩⟩⟩
      · simp only [List.map_nil, TreesL.e1, TreesL.e2] at e3
        subst e3
        k_steps
        exact fargs_end (as := []) (by assumption) (by assumption) (by k_mem) (by k_mem) (by assumption) treesL_nil (by simp) (fun _ h => nomatch h)
      · simp only [List.map_cons, List.map_nil, TreesL.e1, TreesL.e2] at e3
        refine ex2_3 e3 ?_; clear e3; intro v1 _ eK; subst eK; intro T1 eK; subst eK
        have hx1 := e2 x1 (.head _)
        clear e1 e2 hlen
        k_steps
        · rename_i x' v' o' rs' g2 gk hx' V' q' q2' T' D' g1 l1 a' t1' g0 tk' ne' F' N'
          have haD : @Ne Nat a' D := ne_objs N' (.head _) (by k_mem) tup_list
          have hDall : ∀ p ∈ rs' ++ rsA, p.1 ≠ D := fun p hp => by
            rcases List.mem_append.mp hp with hp | hp
            · exact q2' p hp (D, _) (by k_mem)
            · exact hrD p hp
          refine set_last_L (vs := []) F' N' (.tail haD (.tail (by k_ne) (.tail (by k_ne) (.head (List.forall_mem_cons.mpr ⟨hDd.symm, hDall⟩))))) ?_
          intro n7 h7 F7 N7
          (try dsimp only at N7)
          clear F' N'
          k_steps
          refine fargs_end (as := [(x1, some x')]) (by assumption) (by assumption) (by k_mem) (by k_mem) (by assumption) ?_ (by simp) (al_one (al_s hx1 hx'))
          exact treesL_cons (treeL_ex (by k_mem) (by k_mem) (treesL_cons (TreeL.mono' T1 (by walk_at "E tsub")) (treesL_cons (TreeL.mono' T' (by walk_at "E tsub")) treesL_nil))) treesL_nil
        · exact fargs_end (as := [(x1, none)]) (by assumption) (by assumption) (by k_mem) (by k_mem) (by assumption) (treesL_cons (TreeL.mono' T1 (by walk_at "E tsub")) treesL_nil) (by simp) (al_one (al_n hx1))
      · simp only [List.map_cons, List.map_nil, TreesL.e1, TreesL.e2] at e3
        k_extra "qB"; obtain ⟨v1, _, rfl, T1, v2, _, rfl, T2, rfl⟩ := e3; k_extra "qC"
        have hx1 := e2 x1 (.head _)
        have hx2 := e2 x2 (.tail _ (.head _))
        clear e1 e2 hlen
        k_steps
        · rename_i x' v' o' rs' g2 gk hx' V' q' q2' T' D' g1 l1 a' t1' g0 tk' ne' F' N'
          have haD : @Ne Nat a' D := ne_objs N' (.head _) (by k_mem) tup_list
          have hDall : ∀ p ∈ rs' ++ rsA, p.1 ≠ D := fun p hp => by
            rcases List.mem_append.mp hp with hp | hp
            · exact q2' p hp (D, _) (by k_mem)
            · exact hrD p hp
          refine set_last_L (vs := [v1]) F' N' (.tail haD (.tail (by k_ne) (.tail (by k_ne) (.head (List.forall_mem_cons.mpr ⟨hDd.symm, hDall⟩))))) ?_
          intro n7 h7 F7 N7
          (try dsimp only at N7)
          clear F' N'
          k_steps
          refine fargs_end (as := [(x1, none), (x2, some x')]) (by assumption) (by assumption) (by k_mem) (by k_mem) (by assumption) ?_ (by simp) (al_two (al_n hx1) (al_s hx2 hx'))
          exact treesL_cons (TreeL.mono' T1 (by walk_at "E tsub")) (treesL_cons (treeL_ex (by k_mem) (by k_mem) (treesL_cons (TreeL.mono' T2 (by walk_at "E tsub")) (treesL_cons (TreeL.mono' T' (by walk_at "E tsub")) treesL_nil))) treesL_nil)
        · exact fargs_end (as := [(x1, none), (x2, none)]) (by assumption) (by assumption) (by k_mem) (by k_mem) (by assumption) (treesL_cons (TreeL.mono' T1 (by walk_at "E tsub")) (treesL_cons (TreeL.mono' T2 (by walk_at "E tsub")) treesL_nil)) (by simp) (al_two (al_n hx1) (al_n hx2))
      · simp only [List.length_cons] at e1; k_extra "mE lia"
end
example : Sep := by w_top off; first | walk1 | trivial
theorem startVC {h h₁ : Heap} {L d : Addr} {m : Str → Option Value} {g : Heap} {o : Obj} {cells : List (Addr × Obj)} (F : Fr h L h₁ m) (N : News h L h₁ cells) (hg : Le g h) (hgu : g.get? d = none) (hL : L = h.objs.size) (hu : h.get? d = some o) :
    ∃ hb, Fr hb L h₁ m ∧ News hb L h₁ (cells ++ (d, o) :: []) ∧ Le g hb ∧ (∀ b o, h.get? b = some o → b ≠ d → hb.get? b = some o) :=
  ⟨h.hide d, Fr.hide d F, fun p hp => by
      rcases List.mem_append.mp hp with hp | hp
      · refine ⟨(N p hp).1, (N p hp).2.1, ?_⟩
        cases q : (h.hide d).get? p.1 with
        | none => rfl
        | some o => have := Heap.of_hide q; rw [(N p hp).2.2] at this; cases this
      · exact News.hide1 F hu hL p hp, le_hide hg hgu, fun _ _ e hb => (Heap.hide_ne _ hb).trans e⟩
section
variable {prog : Program} {A : Around} {env : Env} {elt iter : Expr} {x : Str} {px : Pos} {ifs : List Expr} {scope : Scope} {pos : Pos} {cl : List (Str × Addr)} {s : Shared} {Q : Addr → Shared → Prop}
theorem comp_rangeB {r : Addr} {n : Nat} {t u v : Tok} (ws : List Addr) (V : Nat → List Value → Heap → Prop) (Mt : Nat → List Value → Heap → Prop) (hV : ∀ i ys g g', V i ys g → Le g g' → V i ys g')
    (hM : ∀ i ys h h', Mt i ys h → (∀ b ∈ ws, ∀ o, h.get? b = some o → h'.get? b = some o) → Mt i ys h') (hMw : ∀ i ys h, Mt i ys h → ∀ b ∈ ws, ∃ o, h.get? b = some o) (hws : ∀ b ∈ ws, ∃ o, s.heap.get? b = some o)
    (hh : A.handled = none) (hr : IsRange s.heap r 0 (n : Int) 1 t u v) (hsmall : Builtin.Range.small 0 (n : Int) 1 = true) (hn : Builtin.Range.rangeSize 0 (n : Int) 1 = (n : Int))
    (hcell : ∀ y ∈ scope.names, y.2 ≠ .cell) (hkind : scope.kind = .function) (hx : scope.names.lookup x = some .local) (hsz : n ≤ 2 ^ 20) (v0 : V 0 [] (hideAll s.heap ws)) (m0 : Mt 0 [] s.heap)
    (turn : ∀ (i : Nat) t s₃ C (m : Str → Option Value) ys hid, i < n → ys.length ≤ i → Same s s₃ → Fr (hideAll s.heap ws) C s₃.heap (fun y => if y = x then some (.int (i : Int) t) else m y) → (∀ b, s₃.heap.get? b = none → b ∉ hid) → (∀ b ∈ ws, b ∈ hid) → V i ys (hideAll s₃.heap hid) → Mt i ys s₃.heap →
      Tests prog w A (compEnvC scope cl C env) ifs (fun ok s₄ => if ok = true then wpAny (model prog w) A (eval elt (compEnvC scope cl C env)) (fun y s₅ => Step ws s₃ s₅ ∧ V (i + 1) (ys ++ [y]) (hideAll s₅.heap hid) ∧ Mt (i + 1) (ys ++ [y]) s₅.heap) (fun _ _ => False) s₄
        else Step ws s₃ s₄ ∧ V (i + 1) ys (hideAll s₄.heap hid) ∧ Mt (i + 1) ys s₄.heap) s₃)
    (hQ : ∀ D s' ys, Same s s' → s.heap.get? D = none → s'.heap.PlainList D ys.toArray → V n ys (hideAll s'.heap (D :: ws)) → Mt n ys s'.heap → ys.length ≤ n → (∀ b o, b ∉ ws → s.heap.get? b = some o → s'.heap.get? b = some o) → Q D s') :
    CompAt prog w A env elt iter x px ifs scope pos cl Q (.ref r) s := by
  intro RR hRR
  refine wpAny_pyIter_range hr hsmall ?_
  refine comp_block ws V Mt hV hM hMw (fun i h st => ⟨_, st⟩) (Walks.range (prog := prog) hh s.heap.objs.size 0 1 n) ⟨_, rfl, fun b o e => Heap.get?_push_of_some _ e, by rw [Heap.size_push]; exact Nat.le_succ _⟩ (Heap.get?_none_of_le (Nat.le_refl _)) (fun b hb => ?_) hws
    hcell hkind hx (by show IsRangeIter _ _ _ _ _; rw [hn]; simpa using Heap.get?_push_size _ rfl) hsz v0 m0 (fun i v s₃ C m ys hid hi hP hlen hS F hfr hwh hv hm => ?_) hQ RR hRR
  · rw [List.mem_singleton.mp hb]
    refine ⟨⟨_, Heap.get?_push_size _ rfl⟩, fun hm => ?_⟩
    refine ex1_1 (hws _ hm) ?_; intro o e
    exact absurd (Heap.lt_size e) (Nat.lt_irrefl _)
  · refine ex1_1 hP ?_; clear hP; intro t eK; subst eK
    have e : (0 : Int) + (i : Int) * 1 = (i : Int) := by k_extra "mE lia"
    rw [e] at F
    exact turn i t s₃ C m ys hid hi hlen hS F hfr hwh hv hm
end
theorem comp_namedV {h₀ h h' h₂ : Heap} {L D d : Addr} {m m' : Str → Option Value} {cells rs : List (Addr × Obj)} {o o' oD : Obj} (F : Fr h₀ L h m) (N : News h₀ L h (cells ++ (d, o) :: [])) (hc : ∀ p ∈ cells, p.1 ≠ d) (hk : ∀ b o, b ≠ d → h.get? b = some o → h'.get? b = some o)
    (hd' : h'.get? d = some o') (hD : h.get? D = none) (ho : h'.get? D = some oD) (hr : ∀ p ∈ rs, h'.get? p.1 = some p.2 ∧ h.get? p.1 = none) (hs : Heap.SameBut L h' h₂) (hn : h₂.Ns L m') :
    Fr h₀ L h₂ m' ∧ News h₀ L h₂ ((D, oD) :: (cells ++ (d, o') :: rs)) := by
  refine ex3_2 (F.ns) ?_; intro oL _ _ eL _
  have hd := N (d, o) (List.mem_append_right _ (.head _))
  have new : ∀ (a : Addr) (q : Obj), h'.get? a = some q → h.get? a = none → h₂.get? a = some q ∧ a ≠ L ∧ h₀.get? a = none := fun a q e1 e2 => by
    have hL : a ≠ L := fun e => by rw [e, eL] at e2; cases e2
    refine ⟨hs.extBut _ _ hL e1, hL, ?_⟩
    cases q : h₀.get? a with
    | none => rfl
    | some o => rw [F.keep _ _ q] at e2; cases e2
  refine ⟨⟨hn, fun b ob e => hs.extBut b ob (fun q => ?_) (hk _ _ (fun q => ?_) (F.keep _ _ e)), F.above⟩, fun p hp => ?_⟩
  · have h1 := Heap.lt_size e
    rw [q] at h1
    exact absurd (Nat.lt_of_lt_of_le h1 F.above) (Nat.lt_irrefl _)
  · rw [q, hd.2.2] at e; cases e
  · rcases List.mem_cons.mp hp with rfl | hp
    · exact new _ _ ho hD
    · rcases List.mem_append.mp hp with hp | hp
      · have P := N p (List.mem_append_left _ hp)
        exact ⟨hs.extBut _ _ P.2.1 (hk _ _ (hc p hp) P.1), P.2⟩
      · rcases List.mem_cons.mp hp with rfl | hp
        · exact ⟨hs.extBut _ _ hd.2.1 hd', hd.2⟩
        · exact new _ _ (hr p hp).1 (hr p hp).2
section
variable {z h : Nat} {x y : Str} {a b : T}
theorem good_loc {x : Str} {z h : Nat} (hz : 4 ≤ z) (hh : 2 ≤ h) (hx : x ∈ ABC) : Good z h (.loc x) := ⟨trivial, hx, by simp only [T.sz_e]; k_extra "mE lia", by simp only [T.ht_e]; k_extra "mE lia"⟩
theorem good_sym {x : Str} {z h : Nat} (hz : 4 ≤ z) (hx : x ∈ ABC) : Good z h (.sym x) := ⟨trivial, hx, by simp only [T.sz_e]; k_extra "mE lia", by simp only [T.ht_e]; k_extra "mE lia"⟩
theorem good_dot {x : Str} {z h : Nat} (hz : 4 ≤ z) (hh : 2 ≤ h) (hx : x ∈ ABC) : Good z h (.dot x) := ⟨trivial, hx, by simp only [T.sz_e]; k_extra "mE lia", by simp only [T.ht_e]; k_extra "mE lia"⟩
theorem good_quo {x : Str} {z h : Nat} (hz : 4 ≤ z) (hh : 2 ≤ h) (hx : x ∈ ABC) : Good z h (.quo x) := ⟨trivial, hx, by simp only [T.sz_e]; k_extra "mE lia", by simp only [T.ht_e]; k_extra "mE lia"⟩
theorem good_set1 {x : Str} {z h : Nat} (hz : 4 ≤ z) (hh : 2 ≤ h) (hx : x ∈ ABC) : Good z h (.set x .one) := ⟨trivial, ⟨hx, trivial⟩, by simp only [T.sz_e]; k_extra "mE lia", by simp only [T.ht_e]; k_extra "mE lia"⟩
theorem good_up {x y : Str} {z h : Nat} (hz : 4 ≤ z) (hh : 2 ≤ h) (hx : x ∈ ABC) (hy : y ∈ ABC) : Good z h (.up x (.sym y)) := ⟨trivial, ⟨hx, hy⟩, by simp only [T.sz_e]; k_extra "mE lia", by simp only [T.ht_e]; k_extra "mE lia"⟩
theorem good_locs {x y : Str} {z h : Nat} (hz : 4 ≤ z) (hh : 2 ≤ h) (hx : x ∈ ABC) (hy : y ∈ ABC) : Good z h (.locs x (.sym y)) := ⟨trivial, ⟨hx, hy⟩, by simp only [T.sz_e]; k_extra "mE lia", by simp only [T.ht_e]; k_extra "mE lia"⟩
theorem Good.le {t : T} {z h z' h' : Nat} (g : Good z h t) (h1 : z ≤ z') (h2 : h ≤ h') : Good z' h' t := ⟨g.1, g.2.1, Nat.le_trans g.2.2.1 h1, Nat.le_trans g.2.2.2 h2⟩
theorem good_blk {a b : T} {z h : Nat} (ga : Good z h a) (gb : Good z h b) : Good (2 * z + 10) (h + 3) (.blk a b) := ⟨⟨ga.1, gb.1⟩, ⟨ga.2.1, gb.2.1⟩, by have := ga.2.2.1; have := gb.2.2.1; simp only [T.sz_e]; k_extra "mE lia", by have := ga.2.2.2; have := gb.2.2.2; simp only [T.ht_e]; k_extra "mE lia"⟩
theorem good_ite {a b : T} {z h : Nat} (ga : Good z h a) (gb : Good z h b) : Good (2 * z + 10) (h + 3) (.ite a b) := ⟨⟨ga.1, gb.1⟩, ⟨ga.2.1, gb.2.1⟩, by have := ga.2.2.1; have := gb.2.2.1; simp only [T.sz_e]; k_extra "mE lia", by have := ga.2.2.2; have := gb.2.2.2; simp only [T.ht_e]; k_extra "mE lia"⟩
theorem good_whl {a b : T} {z h : Nat} (ga : Good z h a) (gb : Good z h b) : Good (2 * z + 10) (h + 3) (.whl a b) := ⟨⟨ga.1, gb.1⟩, ⟨ga.2.1, gb.2.1⟩, by have := ga.2.2.1; have := gb.2.2.1; simp only [T.sz_e]; k_extra "mE lia", by have := ga.2.2.2; have := gb.2.2.2; simp only [T.ht_e]; k_extra "mE lia"⟩
theorem good_lt {x : Str} {a b : T} {z h : Nat} (hx : x ∈ ABC) (ga : Good z h a) (gb : Good z h b) : Good (2 * z + 10) (h + 3) (.lt x a b) := ⟨⟨ga.1, gb.1⟩, ⟨hx, ga.2.1, gb.2.1⟩, by have := ga.2.2.1; have := gb.2.2.1; simp only [T.sz_e]; k_extra "mE lia", by have := ga.2.2.2; have := gb.2.2.2; simp only [T.ht_e]; k_extra "mE lia"⟩
theorem good_fr {x : Str} {a b : T} {z h : Nat} (hx : x ∈ ABC) (ga : Good z h a) (gb : Good z h b) : Good (2 * z + 10) (h + 3) (.fr x a b) := ⟨⟨ga.1, gb.1⟩, ⟨hx, ga.2.1, gb.2.1⟩, by have := ga.2.2.1; have := gb.2.2.1; simp only [T.sz_e]; k_extra "mE lia", by have := ga.2.2.2; have := gb.2.2.2; simp only [T.ht_e]; k_extra "mE lia"⟩
theorem good_cmp {x : Str} {a b : T} {z h : Nat} (hx : x ∈ ABC) (ga : Good z h a) (gb : Good z h b) : Good (2 * z + 10) (h + 3) (.cmp a x b) := ⟨⟨ga.1, gb.1⟩, ⟨hx, ga.2.1, gb.2.1⟩, by have := ga.2.2.1; have := gb.2.2.1; simp only [T.sz_e]; k_extra "mE lia", by have := ga.2.2.2; have := gb.2.2.2; simp only [T.ht_e]; k_extra "mE lia"⟩
end
example : Sep := by w_top off; first | walk1 | trivial
noncomputable def AtSub : Prop := True
theorem tree_turn {ts : List T} {z h i : Nat} {d : Addr} {hh : Heap} {s₃ s₅ : Shared} {hid : List Addr} {v : Value} {zs : List Value} {rs : List (Addr × Obj)} {od : Obj} (hwd : d ∈ hid) (hfr : ∀ b, s₃.heap.get? b = none → b ∉ hid) (hkp : Le (hideAll hh [d]) s₃.heap) (hod : s₃.heap.get? d = some od)
    (P : Post s₃ (at1 d) (Built w (Good z h) s₃ d) v s₅) (e1 : ts.length = i) (e2 : ∀ t ∈ ts, Good z h t) (e3 : TreesL rs (ts.map T.tr) zs) (e4 : ∀ p ∈ rs, (hideAll s₃.heap hid).get? p.1 = some p.2 ∧ hh.get? p.1 = none) :
    Step [d] s₃ s₅ ∧ (∃ (ts : List T) (rs : List (Addr × Obj)), ts.length = i + 1 ∧ (∀ t ∈ ts, Good z h t) ∧ TreesL rs (ts.map T.tr) (zs ++ [v]) ∧ ∀ p ∈ rs, (hideAll s₅.heap hid).get? p.1 = some p.2 ∧ hh.get? p.1 = none) ∧ ∃ o, s₅.heap.get? d = some o ∧ VatO w o := by
  k_extra "qB"; obtain ⟨S5, hk5, ⟨_, o, ho, hV⟩, t, rs', hg, hr, hT⟩ := P; k_extra "qC"
  have up : ∀ b o, b ∉ hid → s₃.heap.get? b = some o → s₅.heap.get? b = some o := fun b o hb e => hk5 b o e fun q => hb (by rw [show b = d from q]; exact hwd)
  refine ⟨⟨S5, fun b o hb e => hk5 b o e fun q => hb (by rw [show b = d from q]; exact .head _)⟩, ⟨ts ++ [t], rs' ++ rs, by simp [e1], fun y hy => ?_, ?_, fun p hp => ?_⟩, o, ho, hV⟩
  · rcases List.mem_append.mp hy with hy | hy
    · exact e2 y hy
    · rw [List.mem_singleton.mp hy]; exact hg
  · rw [List.map_append]
    exact TreesL.append (treesL_cons (TreeL.mono' hT (TupSub.of fun p hp => List.mem_append_left _ hp)) treesL_nil) _ (TreesL.mono (TupSub.of fun p hp => List.mem_append_right _ hp) _ e3)
  · rcases List.mem_append.mp hp with hp | hp
    · refine ex0_2 (hr p hp) ?_; intro h1 h2
      refine ⟨hideAll_get hid h1 (hfr _ h2), ?_⟩
      cases q : hh.get? p.1 with
      | none => rfl
      | some o' =>
        have hpd : p.1 ∉ [d] := fun hm => by rw [List.mem_singleton.mp hm, hod] at h2; cases h2
        have := hkp _ _ (hideAll_get [d] q hpd)
        rw [h2] at this; cases this
    · exact ⟨le_hideAll up _ _ (e4 p hp).1, (e4 p hp).2⟩
section
example : True := by
 k_with "meval IfExp" => ((have mk' : AtIf := by with_reducible assumption); clear mk'; refine cut_stop ?_)
 k_with "mcall ref" => ((have mk' : InTurn := by with_reducible assumption); clear mk'; (with_reducible refine (?_ : wpAny _ _ (call (.ref 295) _) _ _ _)); refine cut_stop ?_)
 k_with "mE cutS" => ((have mk' : AtSub := by with_reducible assumption); clear mk'; refine cut_stop ?_)
 k_with "msubscriptTail Name Constant ref int" => k_extra "mE cutS"
 k_with "msubscriptTail Name Subscript ref int" => k_extra "mE cutS"
 k_with "msubscriptTail Subscript" => k_extra "mE cutS"
 k_with "msubscriptTail Name Subscript" => k_extra "mE cutS"
 k_with "msubscriptTail List" => k_extra "mE cutS"
 k_with "msubscriptTail Name" => k_extra "mE cutS"
 k_with "msubscriptTail" => k_extra "mE cutS"
 k_with "mE sub0" => (unfold Cut; walk_at "H News"; (refine' sub_LN0 ?jN9 ?jlm ?jlz ?_ ?jlh; (case jN9 => (rename News _ _ _ _ => lN'; exact lN')); (case jlm => k_mem); (case jlz => simp); (case jlh => with_unfolding_all rfl)); (try dsimp only); k_steps)
 k_with "mE sub1" => (unfold Cut; walk_at "H News"; (refine' sub_LN1 ?jN9 ?jlm ?jlz ?_ ?jlh; (case jN9 => (rename News _ _ _ _ => lN'; exact lN')); (case jlm => k_mem); (case jlz => simp); (case jlh => with_unfolding_all rfl)); (try dsimp only); k_steps)
 exact trivial
theorem tree_step {fl : Int} {z h n : Nat} (hz : 4 ≤ z) (hh : 2 ≤ h) (hT : 0 < fl → TreeOk w 295 (fl - 1) z h n) (hF : 0 < fl → TreeOk w 290 fl (z + 10) (h + 1) (n + 3)) : TreeOk w 295 fl (2 * z + 10) (h + 3) (n + 4) := by
  intro A s g d t O hg hgu r V
  refine ex0_2 V ?_; clear V; intro hlo gN102; refine ex1_2 gN102 ?_; clear gN102; intro o ho V
  refine' enterC [((Str.ofString "vat"), .ref d), ((Str.ofString "floors"), .int fl t)] (O.keeps hg) r ?k6 ?k7 ?k9 ?kB ?kD ?_ ?c1 ?c2 ?c3 ?c5; k_extra "eC"
  refine ex2_3 (Y.two) ?_; intro oc1 oc2 eK; subst eK; intro hoc1 hoc2
  have hc2 : oc2.data = .cell (some (.ref d)) := hoc2
  have hc1 : oc1.data = .cell (some (.int fl t)) := hoc1
  clear hoc1 hoc2 Y
  have hdL : @LT.lt Nat _ d L' := by rw [hL']; exact Heap.lt_size ho
  have hd1 : @Ne Nat (L' + 1) d := by k_extra "mE lia"
  have hd2 : @Ne Nat (L' + 1 + 1) d := by k_extra "mE lia"
  refine ex1_4 (startVC F N hg hgu hL' ho) ?_; intro hb F1 N1 hgh hk
  have O' := O.keeps hgh
  clear F N
  have X := OkH.X O'; have Tp := OkH.top O'
  have mk : AtIf := trivial
  simp only [List.cons_append, List.nil_append] at N1
  k_steps
  rename Fr _ _ _ _ => F
  rename News _ _ _ _ => N
  unfold Cut
  refine cut_mono F (fun v h' => ∃ i ti o', v = .int i ti ∧ 0 ≤ i ∧ i < 14 ∧ (0 < fl ∨ i < 4) ∧ VatO w o' ∧ News hb L' h' [(L' + 1 + 1, oc1), (L' + 1, oc2), (d, o')]) ?_ ?_
  · clear mk
    k_steps
    · exact cut_in ⟨_, _, rfl, by assumption, _, _, _, rfl, by assumption, by k_extra "mE lia", .inl (by k_extra "mE lia"), by assumption, by assumption⟩
    · exact cut_in ⟨_, _, rfl, by assumption, _, _, _, rfl, by assumption, by k_extra "mE lia", .inr (by k_extra "mE lia"), by assumption, by assumption⟩
  intro _ h2 tk2 F2 gR103; k_extra "qD"; refine ex3_6 gR103 ?_; clear gR103; intro i ti o2 eK; subst eK; intro hi0 hi1 hi2 V2 N2
  clear F N mk
  have mkS : AtSub := trivial
  k_steps
  · refine built_end S hlo hk (by assumption) (by assumption) (by k_mem) (by assumption) (good_sym (by k_extra "mE lia") (by assumption)) ?_
    exact TreeL.mono' (by assumption) (by walk_at "E tsub")
  · refine built_end S hlo hk (by assumption) (by assumption) (by k_mem) (by assumption) (good_set1 (by k_extra "mE lia") (by k_extra "mE lia") (by assumption)) ?_
    exact treeL_ex (by k_mem) (by k_mem) (treesL_cons (TreeL.mono' (by assumption) (by walk_at "E tsub")) (treesL_cons (treeL_one (by k_mem)) treesL_nil))
  · rename_i x1 v1 _ rs1 _ _ hx1 _ _ T1 _ x2 v2 _ rs2 _ _ hx2 _ _ _ T2 _ _ _ _ _ _ _ _ _ _
    refine built_end S hlo hk (by assumption) (by assumption) (by k_mem) (by assumption) (good_up (x := x1) (y := x2) (by k_extra "mE lia") (by k_extra "mE lia") (by assumption) (by assumption)) ?_
    exact treeL_ex (by k_mem) (by k_mem) (treesL_cons (TreeL.mono' T1 (by walk_at "E tsub")) (treesL_cons (TreeL.mono' T2 (by walk_at "E tsub")) treesL_nil))
  · rename_i x1 v1 _ rs1 _ _ hx1 _ _ T1 _ _ D5 _ _ a4 _ _ _ _ x0 v0 _ rs0 _ _ hx0 _ _ _ T0 D4 _ _ a3 _ _ _ _ D3 _ _ a2 _ _ _ _ D2 _ _ D1 _ _ a1 _ _ _ _ D0 _ _ a0 _ _ _ _ l' _ _ i' t' o' h' tk' hi1' hi2' V' F' N'
    refine ex1_1 (Int.eq_ofNat_of_zero_le hi1') ?_; intro k eK; subst eK
    have hkk : k = 0 ∨ k = 1 ∨ k = 2 ∨ k = 3 := by k_extra "mE lia"
    unfold Cut
    rcases hkk with rfl | rfl | rfl | rfl <;> refine sub_LN N' (by k_mem) rfl (by simp) ?_ (by with_unfolding_all rfl)
    · (repeat with_reducible refine seqK_r ?_); (repeat refine holdK (by assumption) ?_); refine built_end S hlo hk F' N' (by k_mem) V' (good_loc (x := x1) (by k_extra "mE lia") (by k_extra "mE lia") hx1) ?_
      exact treeL_ex (by k_mem) (by k_mem) (treesL_cons (TreeL.mono' T1 (by walk_at "E tsub")) treesL_nil)
    · (repeat with_reducible refine seqK_r ?_); (repeat refine holdK (by assumption) ?_); refine built_end S hlo hk F' N' (by k_mem) V' (good_locs (x := x1) (y := x0) (by k_extra "mE lia") (by k_extra "mE lia") hx1 hx0) ?_
      exact treeL_ex (by k_mem) (by k_mem) (treesL_cons (treeL_ex (by k_mem) (by k_mem) (treesL_cons (TreeL.mono' T1 (by walk_at "E tsub")) (treesL_cons (TreeL.mono' T0 (by walk_at "E tsub")) treesL_nil))) treesL_nil)
    · (repeat with_reducible refine seqK_r ?_); (repeat refine holdK (by assumption) ?_); refine built_end S hlo hk F' N' (by k_mem) V' (good_dot (x := x1) (by k_extra "mE lia") (by k_extra "mE lia") hx1) ?_
      exact treeL_ex (by k_mem) (by k_mem) (treesL_cons (TreeL.mono' T1 (by walk_at "E tsub")) (treesL_cons (treeL_sym (by k_mem)) treesL_nil))
    · (repeat with_reducible refine seqK_r ?_); (repeat refine holdK (by assumption) ?_); refine built_end S hlo hk F' N' (by k_mem) V' (good_quo (x := x1) (by k_extra "mE lia") (by k_extra "mE lia") hx1) ?_
      exact treeL_ex (by k_mem) (by k_mem) (treesL_cons (TreeL.mono' T1 (by walk_at "E tsub")) treesL_nil)
  · have hF' := hF (by k_extra "mE lia")
    k_steps
    refine built_end S hlo hk (by assumption) (by assumption) (by k_mem) (by assumption) (Good.le (by assumption) (by k_extra "mE lia") (by k_extra "mE lia")) ?_
    exact TreeL.mono' (by assumption) (by walk_at "E tsub")
  · rename_i hh _ u1 u2 u3 hRng F2' N2' hle2
    have hT' := hT (by k_extra "mE lia")
    have hd0 := N2' (d, o2) (by k_mem)
    have le6 : Le hb (hideAll hh [d]) := fun b o e => hideAll_get [d] (F2'.keep _ _ e) fun hm => by rw [List.mem_singleton.mp hm, hd0.2.2] at e; cases e
    refine comp_rangeB (n := 2) [d] (fun i ys gg => ∃ (ts : List T) (rs : List (Addr × Obj)), ts.length = i ∧ (∀ t ∈ ts, Good z h t) ∧ TreesL rs (ts.map T.tr) ys ∧ ∀ p ∈ rs, gg.get? p.1 = some p.2 ∧ hh.get? p.1 = none) (fun _ _ h => ∃ o, h.get? d = some o ∧ VatO w o)
      (fun i ys g g' ⟨ts, rs, e1, e2, e3, e4⟩ le => ⟨ts, rs, e1, e2, e3, fun p hp => ⟨le _ _ (e4 p hp).1, (e4 p hp).2⟩⟩) (fun i ys h h' ⟨o, ho, hV⟩ hk => ⟨o, hk d (.head _) o ho, hV⟩) (fun i ys h ⟨o, ho, _⟩ b hb => by rw [List.mem_singleton.mp hb]; exact ⟨o, ho⟩)
      (fun b hb => by rw [List.mem_singleton.mp hb]; exact ⟨_, hd0.1⟩) r.hd hRng (small_one (by decide) (by decide) (by decide) (by decide)) (by rw [rangeSize_nat]; rfl) (by decide) rfl rfl (by decide) ⟨[], [], rfl, (fun _ h => nomatch h), (by simp only [List.map_nil, TreesL.e1, TreesL.e2]), fun _ h => nomatch h⟩ ⟨o2, hd0.1, V2⟩ ?_ ?_
    · intro i3 tt s₃ C m2 zs hid hi3 hlen hS F6 hfr hwh gR104 gR105; refine ex2_4 gR104 ?_; clear gR104; intro ts rs e1 e2 e3 e4; refine ex1_2 gR105 ?_; clear gR105; intro od hod Vd
      have N6 : News (hideAll hh [d]) C s₃.heap [] := News.nil
      have O6 := O'.keeps le6
      have hcn : (hideAll hh [d]).get? (L' + 1 + 1) = some oc1 := hideAll_get [d] (N2' (L' + 1 + 1, oc1) (by k_mem)).1 fun hm => by have : @Eq Nat (L' + 1 + 1) d := List.mem_singleton.mp hm; k_extra "mE lia"
      have hcr : (hideAll hh [d]).get? (L' + 1) = some oc2 := hideAll_get [d] (N2' (L' + 1, oc2) (by k_mem)).1 fun hm => by have : @Eq Nat (L' + 1) d := List.mem_singleton.mp hm; k_extra "mE lia"
      have X6 := OkH.X O6; have T6 := OkH.top O6
      have hkp := F6.keep
      refine tests_nil ?_
      rw [if_pos rfl]
      clear F2' N2' X Tp
      have mark : InTurn := trivial
      change Fr (hideAll hh [d]) C s₃.heap _ at F6
      k_steps
      unfold Cut
      refine wpAny_mono (hT' _ _ hb d _ O' (le6.trans hkp) hd0.2.2 (Rm.le r' (by k_extra "mE lia")) ⟨hlo, od, hod, Vd⟩) (fun v s₅ P => ?_) (fun _ _ x => x.elim)
      exact tree_turn (hwh d (.head _)) hfr hkp hod P e1 e2 e3 e4
    · intro D s' zs hS' hD' hL gR106 gR107 hlen hk3; k_extra "qD"; refine ex2_4 gR106 ?_; clear gR106; intro ts rs e1 e2 e3 e4; refine ex1_2 gR107 ?_; clear gR107; intro o3 ho3 V3
      refine ex2_1 (hS'.ex) ?_; intro hh1 tt1 eK; subst eK
      refine ex1_1 hL ?_; clear hL; intro nD hL
      have hLd : L' ∉ [d] := fun hm => by have : @Eq Nat L' d := List.mem_singleton.mp hm; k_extra "mE lia"
      refine ⟨_, F2'.ns.at' fun o e => hk3 _ o hLd e, ?_, ?_⟩
      · refine ex3_2 (F2'.ns) ?_; intro oL _ _ e _
        intro q; have q' : hh.get? L' = none := q; rw [e] at q'; cases q'
      intro h5 hn5 hs5 tk5
      have hDd : @Ne Nat D d := ne_of_in hD' hd0.1
      have hrd : ∀ p ∈ rs, p.1 ≠ d := fun p hp => ne_of_in (e4 p hp).2 hd0.1
      obtain ⟨F3, N3⟩ := comp_namedV (cells := [(L' + 1 + 1, oc1), (L' + 1, oc2)]) (rs := rs) F2' N2' (List.forall_mem_cons.mpr ⟨by k_ne, List.forall_mem_cons.mpr ⟨by k_ne, List.forall_mem_nil _⟩⟩) (fun b o hb e => hk3 b o (fun hm => hb (List.mem_singleton.mp hm)) e) ho3 hD' hL
        (fun p hp => ⟨of_hideAll _ (e4 p hp).1, (e4 p hp).2⟩) hs5 hn5
      simp only [List.cons_append, List.nil_append] at N3
      clear F2' N2' hn5 hs5 hL hD' hRng hle2 e4 hd0 hS' hk3 hT' le6 ho3 hlen
      rcases ts with _ | ⟨ta, _ | ⟨tb, _ | ⟨tc, ts⟩⟩⟩
      · cases e1
      · cases e1
      · simp only [List.map_cons, List.map_nil, TreesL.e1, TreesL.e2] at e3
        k_extra "qB"; obtain ⟨va, _, rfl, Ta, vb, _, rfl, Tb, rfl⟩ := e3; k_extra "qC"
        have ga := e2 ta (.head _)
        have gb := e2 tb (.tail _ (.head _))
        clear e1 e2
        k_steps
        · refine built_end S hlo hk (by assumption) (by assumption) (by k_mem) (by assumption) (good_blk ga gb) ?_
          exact treeL_ex (by k_mem) (by k_mem) (treesL_cons (TreeL.mono' Ta (by walk_at "E tsub")) (treesL_cons (TreeL.mono' Tb (by walk_at "E tsub")) treesL_nil))
        · rename_i i' t' o' h' tk' hi1' hi2' V' F' N'
          refine ex1_1 (Int.eq_ofNat_of_zero_le hi1') ?_; intro k eK; subst eK
          have hkk : k = 0 ∨ k = 1 := by k_extra "mE lia"
          unfold Cut
          rcases hkk with rfl | rfl
          · refine sub_LN N' (by k_mem) rfl (by simp) ?_ (by with_unfolding_all rfl)
            (try dsimp only)
            k_steps
            refine built_end S hlo hk (by assumption) (by assumption) (by k_mem) (by assumption) (good_ite ga gb) ?_
            exact treeL_ex (by k_mem) (by k_mem) (treesL_cons (TreeL.mono' Ta (by walk_at "E tsub")) (treesL_cons (TreeL.mono' Tb (by walk_at "E tsub")) treesL_nil))
          · refine sub_LN N' (by k_mem) rfl (by simp) ?_ (by with_unfolding_all rfl)
            (try dsimp only)
            k_steps
            refine built_end S hlo hk (by assumption) (by assumption) (by k_mem) (by assumption) (good_whl ga gb) ?_
            exact treeL_ex (by k_mem) (by k_mem) (treesL_cons (TreeL.mono' Ta (by walk_at "E tsub")) (treesL_cons (TreeL.mono' Tb (by walk_at "E tsub")) treesL_nil))
        · walk_at "E sub0"
          walk_at "E sub1"
          refine built_end S hlo hk (by assumption) (by assumption) (by k_mem) (by assumption) (good_lt (by assumption) ga gb) ?_
          exact treeL_ex (by k_mem) (by k_mem) (treesL_cons (treeL_ex (by k_mem) (by k_mem) (treesL_cons (treeL_ex (by k_mem) (by k_mem) (treesL_cons (TreeL.mono' (by assumption) (by walk_at "E tsub")) (treesL_cons (TreeL.mono' Ta (by walk_at "E tsub")) treesL_nil))) treesL_nil)) (treesL_cons (TreeL.mono' Tb (by walk_at "E tsub")) treesL_nil))
        · walk_at "E sub0"
          walk_at "E sub1"
          refine built_end S hlo hk (by assumption) (by assumption) (by k_mem) (by assumption) (good_fr (by assumption) ga gb) ?_
          exact treeL_ex (by k_mem) (by k_mem) (treesL_cons (treeL_ex (by k_mem) (by k_mem) (treesL_cons (TreeL.mono' (by assumption) (by walk_at "E tsub")) (treesL_cons (TreeL.mono' Ta (by walk_at "E tsub")) treesL_nil))) (treesL_cons (TreeL.mono' Tb (by walk_at "E tsub")) treesL_nil))
        · walk_at "E sub0"
          walk_at "E sub1"
          refine built_end S hlo hk (by assumption) (by assumption) (by k_mem) (by assumption) (good_cmp (by assumption) ga gb) ?_
          exact treeL_ex (by k_mem) (by k_mem) (treesL_cons (TreeL.mono' Ta (by walk_at "E tsub")) (treesL_cons (treeL_ex (by k_mem) (by k_mem) (treesL_cons (TreeL.mono' (by assumption) (by walk_at "E tsub")) (treesL_cons (TreeL.mono' Tb (by walk_at "E tsub")) treesL_nil))) treesL_nil))
      · simp only [List.length_cons] at e1; k_extra "mE lia"
end
example : Sep := by w_top off; first | walk1 | trivial
theorem tree_all : TreeOk w 295 4 438 17 20 := by
  have h0 : TreeOk w 295 0 18 5 4 := tree_step (z := 4) (h := 2) (n := 0) (by decide) (by decide) (fun h => absurd h (by decide)) (fun h => absurd h (by decide))
  have h1 : TreeOk w 295 1 46 8 8 := tree_step (fl := 1) (z := 18) (h := 5) (n := 4) (by decide) (by decide) (fun _ => h0) (fun _ => func_c (fl := 1) h0)
  have h2 : TreeOk w 295 2 102 11 12 := tree_step (fl := 2) (z := 46) (h := 8) (n := 8) (by decide) (by decide) (fun _ => h1) (fun _ => func_c (fl := 2) h1)
  have h3 : TreeOk w 295 3 214 14 16 := tree_step (fl := 3) (z := 102) (h := 11) (n := 12) (by decide) (by decide) (fun _ => h2) (fun _ => func_c (fl := 3) h2)
  exact tree_step (fl := 4) (z := 214) (h := 14) (n := 16) (by decide) (by decide) (fun _ => h3) (fun _ => func_c (fl := 4) h3)
theorem settle0 {N : List (Addr × Obj)} {t : Tr} {v : Value} (hT : TreeL N t v) : ∃ rs, (∀ p ∈ rs, p ∈ N ∧ ∃ l, p.2 = tupObj l) ∧ TreeL rs t v := by
  classical
  refine ⟨N.filter fun p => decide (∃ l, p.2 = tupObj l), fun p hp => ?_, TreeL.mono (fun a l hm => List.mem_filter.mpr ⟨hm, decide_eq_true ⟨l, rfl⟩⟩) _ hT⟩
  refine ex0_2 (List.mem_filter.mp hp) ?_; intro h1 h2
  exact ⟨h1, of_decide_eq_true h2⟩
theorem settle {B h : Heap} {L : Addr} {m : Str → Option Value} {news rs : List (Addr × Obj)} {t : Tr} {v : Value} (F : Fr B L h m) (N : News B L h news) (hs : ∀ p ∈ rs, p ∈ news) (hT : TreeL rs t v) :
    ∃ g0, TreeAt g0 t v ∧ Le B g0 ∧ (∀ h' m' news', Fr B L h' m' → News B L h' news' → (∀ p ∈ rs, p ∈ news') → Le g0 h') ∧ ∀ b o, g0.get? b = some o → B.get? b = some o ∨ ∃ l, o = tupObj l := by
  classical
  let keep : Addr → Prop := fun b => (∃ o, B.get? b = some o) ∨ ∃ l, (b, tupObj l) ∈ rs
  let hid : List Addr := (List.range h.objs.size).filter fun b => decide (¬ keep b)
  have h1 : ∀ b o, keep b → h.get? b = some o → (hideAll h hid).get? b = some o := fun b o hk e => hideAll_get hid e fun hm => by
    have := (List.mem_filter.mp hm).2
    exact of_decide_eq_true this hk
  have h2 : ∀ b o, (hideAll h hid).get? b = some o → keep b ∧ h.get? b = some o := fun b o e => by
    have e' := of_hideAll hid e
    refine ⟨Classical.byContradiction fun hk => ?_, e'⟩
    have hm : b ∈ hid := List.mem_filter.mpr ⟨List.mem_range.mpr (Heap.lt_size e'), decide_eq_true hk⟩
    rw [hideAll_none hid hm] at e; cases e
  refine ⟨hideAll h hid, ?_, fun b o e => h1 b o (.inl ⟨o, e⟩) (F.keep _ _ e), fun h' m' news' F' N' hs' b o e => ?_, fun b o e => ?_⟩
  · have NN : News B L (hideAll h hid) (rs.filter fun p => decide (∃ l, p.2 = tupObj l)) := fun p hp => by
      refine ex0_2 (List.mem_filter.mp hp) ?_; intro hp1 hp2
      refine ex1_1 (of_decide_eq_true hp2) ?_; intro l hl
      have P := N p (hs p hp1)
      exact ⟨h1 _ _ (.inr ⟨l, by rw [← hl]; exact hp1⟩) P.1, P.2⟩
    exact TreeL.at NN _ (TreeL.mono (fun a l hm => List.mem_filter.mpr ⟨hm, decide_eq_true ⟨l, rfl⟩⟩) _ hT)
  · refine ex0_2 (h2 b o e) ?_; intro hk e'
    rcases hk with ⟨o', ho'⟩ | ⟨l, hl⟩
    · have := F.keep _ _ ho'; rw [e'] at this; cases this; exact F'.keep _ _ ho'
    · have := (N _ (hs _ hl)).1; rw [show h.get? b = some o from e'] at this; cases this; exact (N' _ (hs' _ hl)).1
  · refine ex0_2 (h2 b o e) ?_; intro hk e'
    rcases hk with ⟨o', ho'⟩ | ⟨l, hl⟩
    · have := F.keep _ _ ho'; rw [e'] at this; cases this; exact .inl ho'
    · have := (N _ (hs _ hl)).1; rw [show h.get? b = some o from e'] at this; cases this; exact .inr ⟨l, rfl⟩
theorem settled_none {B g0 h : Heap} {L u : Addr} {vs : Array Value} {n : Nat} {news : List (Addr × Obj)} (N : News B L h news) (hm : (u, listOf vs n) ∈ news) (le : Le g0 h) (hg : ∀ b o, g0.get? b = some o → B.get? b = some o ∨ ∃ l, o = tupObj l) : g0.get? u = none := by
  cases q : g0.get? u with
  | none => rfl
  | some o =>
    have P := N _ hm
    have e := le _ _ q
    rw [show h.get? u = some (listOf vs n) from P.1] at e
    rcases hg _ _ q with h1 | ⟨l, h1⟩
    · rw [show B.get? u = none from P.2.2] at h1; cases h1
    · rw [h1] at e; exact absurd (Option.some.inj e).symm tup_list
example : Sep := by w_top off; first | walk1 | trivial
noncomputable def dueV (rows : List Row) : List Nat → List Nat → Bool
  | h :: _, g :: gs => decide (1 < gs.length + 1) || !sureAt rows g || decide (h < g)
  | _, _ => false
theorem dueOk_eq (rows : List Row) (name : Str) : dueOk rows name = dueV rows (idxs (Row.holds name) rows) (idxs (Row.gives name) rows) := by
  unfold dueOk
  cases idxs (Row.holds name) rows <;> cases idxs (Row.gives name) rows <;> rfl
theorem due_end {st : List Str} {fl c2 I : Addr} {o2 o : Obj} {v2 : Option Value} {vf : List Value} {nf i tk : Nat} {X : Nat → List Str} {h₀ h' : Heap} {L : Addr} {m₀ m' : Str → Option Value} {s₁ : Shared} {news rest : List (Addr × Obj)} (F : Fr h₀ L h' m') (N : News h₀ L h' news)
    (hI : (I, o) ∈ news) (hf : (fl, listOf vf.toArray nf) ∈ news) (h2 : (c2, o2) ∈ news) (hr : ∀ p ∈ rest, p ∈ news) (hfI : @Ne Nat fl I) (h2I : @Ne Nat c2 I) (hrI : ∀ p ∈ rest, p.1 ≠ I)
    (ag : Agree st m₀ m') (d2 : o2.data = .cell v2) (hs : StrsAre vf (X (i + 1))) :
    TurnEnd h₀ L (fun m nx => Agree st m₀ m ∧ ∃ vf nf on v1, nx = (fl, listOf vf.toArray nf) :: (c2, on) :: rest ∧ on.data = .cell v1 ∧ StrsAre vf (X (i + 1))) (I, o) s₁ { s₁ with heap := h', toks := tk } :=
  turn_end ((fl, listOf vf.toArray nf) :: (c2, o2) :: rest) F N hI (allCons hf (allCons h2 hr)) (neCons hfI (neCons h2I hrI)) ⟨ag, vf, nf, o2, v2, rfl, d2, hs⟩
section
local macro_rules | `(tactic| k_mem) => `(tactic| k_extra "u3aa1d3")
example : True := by
 k_with "u3aa1d3" => with_reducible_and_instances assumption
 k_with "mcall ref" => ((with_reducible refine (?_ : wpAny _ _ (call (.ref 335) _) _ _ _)); k_dflt (refine' deed0_u ?jc ?jf ?jn ?jo ?jr ?jt ?ju ?jq ?jz ?_; (case jc => k_extra "a"); k_extra "mP3"; (case jr => exact Rm.le (by assumption) (by first | decide | k_extra "mE lia")); (case jt => k_extra "a"); (case ju => k_extra "mE updT"); (case jq => first | assumption | (k_extra "mne all"; all_goals k_ne)); (case jz => k_extra "a")); intro _ _ _ _ _ _ _ R' q' F' N' old'; (try dsimp only at R' N' old'); revert R' q' F' N' old'; intro _ _ _ _ _; k_extra "msw")
 k_with "mE forG" => (walk_at "H Fr"; (with_unfolding_all refine' ForG_stop ?jlF ?_ ?jk3; (case jlF => (rename Fr _ _ _ _ => lF'; exact lF')); (case jk3 => exact fun _ => rfl)))
 k_with "mexec For Name Constant cons nil" => k_extra "mE forG"
 k_with "mcall builtin:len" => (k_dflt (refine' len_L ?jn ?jm ?jk ?jz ?_; (case jn => k_extra "a"); (case jm => k_mem); (case jk => k_extra "a"); (case jz => k_extra "mE lia")))
 k_with "mE subL" => (first | (with_reducible refine' sub_LB0 ?jf ?jl ?jz ?_ ?jhs; (case jf => with_reducible assumption); (case jl => with_reducible assumption); (case jz => first | (simp; done) | k_extra "mE lia"); (case jhs => with_unfolding_all rfl)) | (with_reducible refine' sub_LB1 ?jf ?jl ?jz ?_ ?jhs; (case jf => with_reducible assumption); (case jl => with_reducible assumption); (case jz => first | (simp; done) | k_extra "mE lia"); (case jhs => with_unfolding_all rfl)) | (with_reducible refine' sub_LN0 ?jf ?jl ?jz ?_ ?jhs; (case jf => with_reducible assumption); (case jl => k_mem); (case jz => first | (simp; done) | k_extra "mE lia"); (case jhs => with_unfolding_all rfl)) | (with_reducible refine' sub_LN1 ?jf ?jl ?jz ?_ ?jhs; (case jf => with_reducible assumption); (case jl => k_mem); (case jz => first | (simp; done) | k_extra "mE lia"); (case jhs => with_unfolding_all rfl)) | (with_reducible refine' sub_LB ?jf ?jl ?jx ?jz ?_ ?jhs; (case jf => with_reducible assumption); (case jl => with_reducible assumption); (case jx => with_reducible assumption); (case jz => k_extra "mE lia"); (case jhs => with_unfolding_all rfl)) | (with_reducible refine' sub_LN ?jf ?jl ?jx ?jz ?_ ?jhs; (case jf => with_reducible assumption); (case jl => k_mem); (case jx => with_reducible assumption); (case jz => k_extra "mE lia"); (case jhs => with_unfolding_all rfl)))
 k_with "msubscriptTail Name Name ref int" => k_extra "mE subL"
 k_with "msubscriptTail Name Constant ref int" => k_extra "mE subL"
 k_with "msubscriptTail Name Subscript ref int" => k_extra "mE subL"
 k_with "msubscriptTail Subscript" => k_extra "mE subL"
 k_with "msubscriptTail Name Subscript Name Constant ref int" => k_extra "mE subL"
 k_with "msubscriptTail Name Subscript" => k_extra "mE subL"
 k_with "msubscriptTail Name" => k_extra "mE subL"
 k_with "msubscriptTail" => k_extra "mE subL"
 k_with "mE cutS" => ((have mk' : AtSub := by with_reducible assumption); clear mk'; refine cut_stop ?_)
 k_with "msubscriptTail Name Constant ref int" => k_extra "mE cutS"
 k_with "msubscriptTail Name Subscript ref int" => k_extra "mE cutS"
 k_with "msubscriptTail Subscript" => k_extra "mE cutS"
 k_with "msubscriptTail Name Subscript" => k_extra "mE cutS"
 k_with "msubscriptTail Name Subscript Name Constant ref int" => k_extra "mE cutS"
 k_with "msubscriptTail Name" => k_extra "mE cutS"
 k_with "msubscriptTail" => k_extra "mE cutS"
 exact trivial
variable {A : Around} {s : Shared} {v : Value} {n : Nat}
theorem due_c {A : Around} {s : Shared} {v : Value} {n : Nat} (t : T) {d : Bool → List Row} (hDk : DeedOk w t.tr d n) (O : OkH w s.heap) (r : Rm A (n + 8)) (ht : TreeAt s.heap t.tr v) (hz : (d true).length ≤ 2 ^ 18) (hnh : NoHeld (d true)) :
    Calls w A s 340 [v] nil (Fresh s (((Str.ofString "vwxyzk").cps.toList.map fun c => (⟨#[c]⟩ : Str)).filter (dueOk (d true)))) := by
  have hz2 : (d true).length ≤ 2 ^ 20 := Nat.le_trans hz (by decide)
  refine' enterC [((Str.ofString "tree"), v)] O r ?k6 ?k7 ?k9 ?kB ?kD ?_ ?c1 ?c2 ?c3 ?c5; k_extra "eC"
  have X := OkH.X O; have Tp := OkH.top O
  refine ex2_3 (Y.two) ?_; intro oc1 oc2 eK; subst eK; intro hoc1 hoc2
  have hc1 : oc1.data = .cell none := hoc1
  have hc2 : oc2.data = .cell none := hoc2
  clear hoc1 hoc2 Y
  k_steps
  rename_i ul g1 l1 fl g2 l2 D1 g3 l3 g4 g5 orow hdr g6 n1 rs vs g7 tk1 K nk R q F N old
  (try simp only [ALt.e1, ALt.e2, and_true] at l1); (try simp only [ALt.e1, ALt.e2, and_true] at l2); (try simp only [ALt.e1, ALt.e2, and_true] at l3)
  have hvl := R.length
  generalize d true = rows at *
  have hfu : @Ne Nat ul fl := by k_extra "mE lia"
  have hfc : @Ne Nat fl (L' + 1 + 1) := by k_extra "mE lia"
  have huc : @Ne Nat ul (L' + 1 + 1) := by k_extra "mE lia"
  have hrc : @Ne Nat (L' + 1) ul := by k_extra "mE lia"
  have hrf : @Ne Nat (L' + 1) fl := by k_extra "mE lia"
  have hcu : @Ne Nat (L' + 1 + 1) ul := by k_extra "mE lia"
  have hmN : (L' + 1 + 1, oc1) ∈ (D1, tupObj [.ref ul, .ref fl]) :: (fl, listOf (List.toArray []) 0) :: (ul, listOf vs.toArray n1) :: rs := old _ (by k_mem) hcu
  have hmR : (L' + 1, orow) ∈ (D1, tupObj [.ref ul, .ref fl]) :: (fl, listOf (List.toArray []) 0) :: (ul, listOf vs.toArray n1) :: rs := old _ (by k_mem) hrc
  have nkf : ¬ K fl := nk (fl, listOf (List.toArray []) 0) (by k_mem)
  have nkc : ¬ K (L' + 1 + 1) := nk (L' + 1 + 1, oc1) (by k_mem)
  have N3 : News s.heap L' g7 ((fl, listOf (List.toArray []) 0) :: (L' + 1 + 1, oc1) :: gd fl (L' + 1 + 1) fl ((D1, tupObj [.ref ul, .ref fl]) :: (fl, listOf (List.toArray []) 0) :: (ul, listOf vs.toArray n1) :: rs)) := News.sub N (allCons (by k_mem) (allCons hmN gd_sub))
  have b1 : (ul, listOf vs.toArray n1) ∈ gd fl (L' + 1 + 1) fl ((D1, tupObj [.ref ul, .ref fl]) :: (fl, listOf (List.toArray []) 0) :: (ul, listOf vs.toArray n1) :: rs) := mem_gd.mpr ⟨by k_mem, hfu, huc, hfu⟩
  have b2 : (L' + 1, orow) ∈ gd fl (L' + 1 + 1) fl ((D1, tupObj [.ref ul, .ref fl]) :: (fl, listOf (List.toArray []) 0) :: (ul, listOf vs.toArray n1) :: rs) := mem_gd.mpr ⟨hmR, hrf, Nat.ne_of_lt (Nat.lt_succ_self _), hrf⟩
  have R2 : RowsL K (gd fl (L' + 1 + 1) fl ((D1, tupObj [.ref ul, .ref fl]) :: (fl, listOf (List.toArray []) 0) :: (ul, listOf vs.toArray n1) :: rs)) rows vs := R.mono fun p hp hk => ⟨mem_gd.mpr ⟨hp, fun e => by have e' : p.1 = fl := e; rw [e'] at hk; exact nkf hk, fun e => by have e' : p.1 = L' + 1 + 1 := e; rw [e'] at hk; exact nkc hk, fun e => by have e' : p.1 = fl := e; rw [e'] at hk; exact nkf hk⟩, hk⟩
  have hgd := @mem_gd fl (L' + 1 + 1) fl ((D1, tupObj [.ref ul, .ref fl]) :: (fl, listOf (List.toArray []) 0) :: (ul, listOf vs.toArray n1) :: rs)
  generalize gd fl (L' + 1 + 1) fl ((D1, tupObj [.ref ul, .ref fl]) :: (fl, listOf (List.toArray []) 0) :: (ul, listOf vs.toArray n1) :: rs) = rest at *
  have e1 : ∀ p ∈ rest, p.1 ≠ fl := fun p hp => (hgd.mp hp).2.1
  have e2 : ∀ p ∈ rest, p.1 ≠ L' + 1 + 1 := fun p hp => (hgd.mp hp).2.2.1
  clear hgd N nk R hmN hmR old l1 l2 l3 hcu hrc hrf nkf nkc q
  refine iterStr [Str.ofString "holders", Str.ofString "givers"] (fun i nx => ∃ vf nf on v1, nx = (fl, listOf vf.toArray nf) :: (L' + 1 + 1, on) :: rest ∧ on.data = .cell v1 ∧ StrsAre vf ((((Str.ofString "vwxyzk").cps.toList.map fun c => (⟨#[c]⟩ : Str)).take i).filter (dueOk rows))) rfl r.hd ⟨_, _, rfl⟩ F N3 ⟨[], 0, oc1, _, rfl, hc1, .nil⟩ ?_ ?_
  · intro i c tc q nx h tk I o hc hI hne gR108 F4 N4; k_extra "qD"; refine ex4_3 gR108 ?_; clear gR108; intro vf nf on v1 eK; subst eK; intro hd1 hsf
    have hfI : @Ne Nat fl I := hne _ (.head _)
    have h1I : @Ne Nat (L' + 1 + 1) I := hne _ (.tail _ (.head _))
    have hrI : ∀ p ∈ rest, p.1 ≠ I := fun p hp => hne p (.tail _ (.tail _ hp))
    clear F N3 hne
    refine wpAny_assign_Name ?_
    k_steps
    rename_i g8 on2 F5a N5a hdn g9 _ t1 t2 t3 hRng F5 N5 hle0
    have O5 := O.keeps F5.keep
    have hcn : g9.get? (L' + 1 + 1) = some on2 := News.get N5 (by k_mem)
    have hcr : g9.get? (L' + 1) = some orow := News.get N5 (by k_mem)
    have hul : g9.IsList ul vs.toArray := ⟨_, News.get N5 (by k_mem), rfl, n1, rfl⟩
    have hvz : vs.length ≤ 2 ^ 20 := by k_extra "mE lia"
    refine comp_range0 (n := rows.length) (fun i ys _ => IntsAre ys (natsI ((List.range i).filter fun i => (rows[i]?.map (Row.holds ⟨#[c]⟩)).getD false))) (fun _ _ _ _ h _ => h) r.hd hRng (small_one (by k_extra "mE lia") (by k_extra "mE lia") (by k_extra "mE lia") (by k_extra "mE lia")) (by rw [rangeSize_nat]; k_extra "mE lia") (by decide) rfl rfl (by k_extra "mE lia") .nil ?_ (asg_all F5 N5 ?_)
    · intro i2 tt s₃ C m2 zs hid hi2 hlen hS F6 hfr hV
      obtain ⟨r0, hrw⟩ : ∃ r0, rows[i2]? = some r0 := ⟨_, List.getElem?_eq_getElem hi2⟩
      refine ex1_2 (R2.get i2 _ hrw) ?_; intro a hva hcase
      rw [idx_next, hrw]
      have N6 : News g9 C s₃.heap [] := News.nil
      have X5 := OkH.X O5; have T5 := OkH.top O5
      k_extra "qB"; rcases hcase with hQa | hQa
      · refine ex4_2 hQa ?_; clear hQa; intro y2 b3 t4 n4 eK; subst eK; intro hm
        k_extra "qC"
        have hin : g9.IsList a (List.toArray [.str y2 t4, .bool b3]) := ⟨_, News.get N5 (by k_mem), rfl, n4, rfl⟩
        have hy2 := hnh y2 b3 (List.mem_of_getElem? hrw)
        refine tests_one ?_
        clear F5 N5 X Tp F4 N4 F5a N5a
        change Fr g9 C s₃.heap _ at F6
        k_steps
        refine ⟨⟨⟨rfl, rfl, rfl⟩, fun _ _ _ e => e⟩, ?_⟩
        show IntsAre zs (natsI (_ ++ []))
        rw [List.append_nil]; exact hV
      · refine ex6_4 hQa ?_; clear hQa; intro ys t4 l us m4 n4 eK; subst eK; intro hm hml hsu
        k_extra "qC"
        have hin : g9.IsList a (List.toArray [.str (Str.ofString "held") t4, .ref l]) := ⟨_, News.get N5 (by k_mem), rfl, m4, rfl⟩
        have hlin : g9.IsList l us.toArray := ⟨_, News.get N5 (by k_mem), rfl, n4, rfl⟩
        refine tests_one ?_
        clear F5 N5 X Tp F4 N4 F5a N5a
        change Fr g9 C s₃.heap _ at F6
        k_steps
        · rename List.any ys _ = true => e
          refine ⟨⟨⟨rfl, rfl, rfl⟩, fun _ _ _ e => e⟩, ?_⟩
          rw [if_pos (show ((some (Row.held ys)).map (Row.holds ⟨#[c]⟩)).getD false = true from e)]
          show IntsAre _ (List.map _ (_ ++ [i2]))
          rw [List.map_append]; exact IntsAre.snoc' hV _ _
        · rename List.any ys _ = false => e
          refine ⟨⟨⟨rfl, rfl, rfl⟩, fun _ _ _ e => e⟩, ?_⟩
          rw [if_neg (show ¬ ((some (Row.held ys)).map (Row.holds ⟨#[c]⟩)).getD false = true from by show ¬ (List.any ys fun x => x == (⟨#[c]⟩ : Str)) = true; rw [e]; exact Bool.false_ne_true), List.append_nil]
          exact hV
    · intro D zs h5 tk5 nD hV hlen hneD F7 N7
      replace hV : IntsAre zs (natsI (idxs (Row.holds ⟨#[c]⟩) rows)) := hV
      clear N5 F5 F4 N4 F5a N5a hcn hcr hul O5 hRng hle0
      k_steps
      rename_i g9b _ t1b t2b t3b hRng2 F8 N8 hle2
      have O5 := O.keeps F8.keep
      have hcn : g9b.get? (L' + 1 + 1) = some on2 := News.get N8 (by k_mem)
      have hcr : g9b.get? (L' + 1) = some orow := News.get N8 (by k_mem)
      have hul : g9b.IsList ul vs.toArray := ⟨_, News.get N8 (by k_mem), rfl, n1, rfl⟩
      refine comp_range0 (n := rows.length) (fun i ys _ => IntsAre ys (natsI ((List.range i).filter fun i => (rows[i]?.map (Row.gives ⟨#[c]⟩)).getD false))) (fun _ _ _ _ h _ => h) r.hd hRng2 (small_one (by k_extra "mE lia") (by k_extra "mE lia") (by k_extra "mE lia") (by k_extra "mE lia")) (by rw [rangeSize_nat]; k_extra "mE lia") (by decide) rfl rfl (by k_extra "mE lia") .nil ?_ (asg_all F8 N8 ?_)
      · intro i2 tt s₃ C m2 ws hid hi2 hlen hS F6 hfr hV2
        obtain ⟨r0, hrw⟩ : ∃ r0, rows[i2]? = some r0 := ⟨_, List.getElem?_eq_getElem hi2⟩
        refine ex1_2 (R2.get i2 _ hrw) ?_; intro a hva hcase
        rw [idx_next, hrw]
        have N6 : News g9b C s₃.heap [] := News.nil
        have X5 := OkH.X O5; have T5 := OkH.top O5
        k_extra "qB"; rcases hcase with hQa | hQa
        · refine ex4_2 hQa ?_; clear hQa; intro y2 b3 t4 n4 eK; subst eK; intro hm
          k_extra "qC"
          have hin : g9b.IsList a (List.toArray [.str y2 t4, .bool b3]) := ⟨_, News.get N8 (by k_mem), rfl, n4, rfl⟩
          refine tests_one ?_
          clear F8 N8 X Tp
          change Fr g9b C s₃.heap _ at F6
          k_steps
          · rename (y2 == _) = true => e
            refine ⟨⟨⟨rfl, rfl, rfl⟩, fun _ _ _ e => e⟩, ?_⟩
            rw [if_pos (show ((some (Row.as y2 b3)).map (Row.gives ⟨#[c]⟩)).getD false = true from e)]
            show IntsAre _ (List.map _ (_ ++ [i2]))
            rw [List.map_append]; exact IntsAre.snoc' hV2 _ _
          · rename (y2 == _) = false => e
            refine ⟨⟨⟨rfl, rfl, rfl⟩, fun _ _ _ e => e⟩, ?_⟩
            rw [if_neg (show ¬ ((some (Row.as y2 b3)).map (Row.gives ⟨#[c]⟩)).getD false = true from by show ¬ (y2 == (⟨#[c]⟩ : Str)) = true; rw [e]; exact Bool.false_ne_true), List.append_nil]
            exact hV2
        · refine ex6_4 hQa ?_; clear hQa; intro ys t4 l us m4 n4 eK; subst eK; intro hm hml hsu
          k_extra "qC"
          have hin : g9b.IsList a (List.toArray [.str (Str.ofString "held") t4, .ref l]) := ⟨_, News.get N8 (by k_mem), rfl, m4, rfl⟩
          have h1s := one_sign c
          refine tests_one ?_
          clear F8 N8 X Tp
          change Fr g9b C s₃.heap _ at F6
          k_steps
          refine ⟨⟨⟨rfl, rfl, rfl⟩, fun _ _ _ e => e⟩, ?_⟩
          show IntsAre ws (natsI (_ ++ []))
          rw [List.append_nil]; exact hV2
      · intro D2 ws h6 tk6 nD2 hV2 hlen2 hneD2 F9 N9
        replace hV2 : IntsAre ws (natsI (idxs (Row.gives ⟨#[c]⟩) rows)) := hV2
        clear N8 F8 hcn hcr hul O5 hRng2 hle2
        have hvf : vf.length ≤ 2 ^ 20 := by
          have h1 := StrsAre.length hsf
          have h2 := List.length_filter_le (dueOk rows) (((Str.ofString "vwxyzk").cps.toList.map fun c => (⟨#[c]⟩ : Str)).take i)
          have h3 : (((Str.ofString "vwxyzk").cps.toList.map fun c => (⟨#[c]⟩ : Str)).take i).length ≤ ((Str.ofString "vwxyzk").cps.toList.map fun c => (⟨#[c]⟩ : Str)).length := by rw [List.length_take]; k_extra "mE lia"
          have h4 : ((Str.ofString "vwxyzk").cps.toList.map fun c => (⟨#[c]⟩ : Str)).length = 6 := by decide +kernel
          k_extra "mE lia"
        have hyi : ((Str.ofString "vwxyzk").cps.toList.map fun c => (⟨#[c]⟩ : Str))[i]? = some ⟨#[c]⟩ := by rw [List.getElem?_map, Array.getElem?_toList, hc]; rfl
        have hgl : ∀ g ∈ idxs (Row.gives ⟨#[c]⟩) rows, ∃ a b t4 n4, vs[g]? = some (.ref a) ∧ sureAt rows g = b ∧ (a, listOf (List.toArray [.str ⟨#[c]⟩ t4, .bool b]) n4) ∈ rest := by
          intro g hg
          unfold idxs at hg
          refine ex0_2 (List.mem_filter.mp hg) ?_; intro hg1 hg2
          rw [List.mem_range] at hg1
          obtain ⟨r0, hrw⟩ : ∃ r0, rows[g]? = some r0 := ⟨_, List.getElem?_eq_getElem hg1⟩
          refine ex1_2 (R2.get g _ hrw) ?_; intro a hva hcase
          rw [hrw] at hg2
          k_extra "qB"; rcases hcase with hQa | hQa
          · refine ex4_2 hQa ?_; clear hQa; intro y2 b3 t4 n4 eK; subst eK; intro hm
            k_extra "qC"
            have e : y2 = ⟨#[c]⟩ := by simpa [Row.gives_h, Row.gives_a] using hg2
            subst e
            exact ⟨a, b3, t4, n4, hva, by unfold sureAt; rw [hrw]; rfl, hm⟩
          · refine ex6_4 hQa ?_; clear hQa; intro ys t4 l us m4 n4 eK; subst eK; intro hm hml hsu
            k_extra "qC"
            simp [Row.gives_h, Row.gives_a] at hg2
        obtain ⟨HS, hHS⟩ : ∃ HS, HS = idxs (Row.holds ⟨#[c]⟩) rows := ⟨_, rfl⟩
        obtain ⟨GS, hGS⟩ : ∃ GS, GS = idxs (Row.gives ⟨#[c]⟩) rows := ⟨_, rfl⟩
        have hdue : dueOk rows ⟨#[c]⟩ = dueV rows HS GS := by rw [dueOk_eq, hHS, hGS]
        rename IntsAre zs _ => hV
        rw [← hHS] at hV
        rw [← hGS] at hV2 hgl
        clear hHS hGS
        rcases HS with _ | ⟨h0, hs0⟩ <;> simp only [natsI, List.map_cons, List.map_nil] at hV
        · cases hV
          k_steps
          rename Fr _ _ _ _ => F11
          rename News _ _ _ _ => N11
          refine due_end (X := fun i => (((Str.ofString "vwxyzk").cps.toList.map fun c => (⟨#[c]⟩ : Str)).take i).filter (dueOk rows)) F11 N11 (by k_mem) (by k_mem) (by k_mem) (fun p hp => by k_mem) hfI h1I hrI (Agree.set (Agree.set (Agree.over _) rfl) rfl) hdn ?_
          (try dsimp only)
          rw [filter_next hyi]
          rw [if_neg (by rw [hdue]; exact Bool.false_ne_true), List.append_nil]
          exact hsf
        · cases hV with
          | cons _ th hV =>
          clear hV
          rcases GS with _ | ⟨g0, gs0⟩ <;> simp only [natsI, List.map_cons, List.map_nil] at hV2
          · cases hV2
            k_steps
            rename Fr _ _ _ _ => F11
            rename News _ _ _ _ => N11
            refine due_end (X := fun i => (((Str.ofString "vwxyzk").cps.toList.map fun c => (⟨#[c]⟩ : Str)).take i).filter (dueOk rows)) F11 N11 (by k_mem) (by k_mem) (by k_mem) (fun p hp => by k_mem) hfI h1I hrI (Agree.set (Agree.set (Agree.over _) rfl) rfl) hdn ?_
            (try dsimp only)
            rw [filter_next hyi]
            rw [if_neg (by rw [hdue]; exact Bool.false_ne_true), List.append_nil]
            exact hsf
          · have hwl : ws.length = gs0.length + 1 := by have := IntsAre.length hV2; simpa using this
            cases hV2 with
            | cons _ tg hV2 =>
            clear hV2
            refine ex4_3 (hgl g0 (.head _)) ?_; intro ag bg t4 n4 hva hsu hma
            clear hgl
            have hwl2 := hwl
            simp only [List.length_cons] at hlen hlen2 hwl2
            have mkS : AtSub := trivial
            k_steps
            · rename (1 < _) => hlt1
              rename Fr _ _ _ _ => F11
              rename News _ _ _ _ => N11
              refine due_end (X := fun i => (((Str.ofString "vwxyzk").cps.toList.map fun c => (⟨#[c]⟩ : Str)).take i).filter (dueOk rows)) F11 N11 (by k_mem) (by k_mem) (by k_mem) (fun p hp => by k_mem) hfI h1I hrI (Agree.set (Agree.set (Agree.over _) rfl) rfl) hdn ?_
              (try dsimp only)
              rw [filter_next hyi, if_pos (by rw [hdue]; show (decide (1 < gs0.length + 1) || _ || _) = true; rw [decide_eq_true (by k_extra "mE lia")]; rfl)]
              exact StrsAre.snoc hsf _ _
            · rename News _ _ _ _ => N12
              rename (¬ 1 < _) => hlt1
              unfold Cut
              refine' sub_LN0 N12 ?lm ?lz ?_ ?lh
              case lm => k_mem
              case lz => k_extra "mE lia"
              case lh => with_unfolding_all rfl
              (try dsimp only)
              k_steps
              unfold Cut
              refine' sub_LN N12 ?lm hva ?lz ?_ ?lh
              case lm => k_mem
              case lz => k_extra "mE lia"
              case lh => with_unfolding_all rfl
              (try dsimp only)
              k_steps
              unfold Cut
              refine' sub_LN1 N12 ?lm ?lz ?_ ?lh
              case lm => k_mem
              case lz => simp
              case lh => with_unfolding_all rfl
              (try dsimp only)
              cases bg
              · k_steps
                rename Fr _ _ _ _ => F11
                rename News _ _ _ _ => N11
                refine due_end (X := fun i => (((Str.ofString "vwxyzk").cps.toList.map fun c => (⟨#[c]⟩ : Str)).take i).filter (dueOk rows)) F11 N11 (by k_mem) (by k_mem) (by k_mem) (fun p hp => by k_mem) hfI h1I hrI (Agree.set (Agree.set (Agree.over _) rfl) rfl) hdn ?_
                (try dsimp only)
                rw [filter_next hyi, if_pos (by rw [hdue]; show (_ || !sureAt rows g0 || _) = true; rw [hsu]; simp)]
                exact StrsAre.snoc hsf _ _
              · k_steps
                unfold Cut
                refine' sub_LN0 N12 ?lm ?lz ?_ ?lh
                case lm => k_mem
                case lz => k_extra "mE lia"
                case lh => with_unfolding_all rfl
                (try dsimp only)
                k_steps
                unfold Cut
                refine' sub_LN0 N12 ?lm ?lz ?_ ?lh
                case lm => k_mem
                case lz => k_extra "mE lia"
                case lh => with_unfolding_all rfl
                (try dsimp only)
                k_steps
                · rename Fr _ _ _ _ => F11
                  rename News _ _ _ _ => N11
                  refine due_end (X := fun i => (((Str.ofString "vwxyzk").cps.toList.map fun c => (⟨#[c]⟩ : Str)).take i).filter (dueOk rows)) F11 N11 (by k_mem) (by k_mem) (by k_mem) (fun p hp => by k_mem) hfI h1I hrI (Agree.set (Agree.set (Agree.over _) rfl) rfl) hdn ?_
                  (try dsimp only)
                  rw [filter_next hyi, if_pos (by rw [hdue]; show (_ || decide (h0 < g0)) = true; rw [decide_eq_true (show h0 < g0 by k_extra "mE lia")]; simp)]
                  exact StrsAre.snoc hsf _ _
                · rename Fr _ _ _ _ => F11
                  rename News _ _ _ _ => N11
                  refine due_end (X := fun i => (((Str.ofString "vwxyzk").cps.toList.map fun c => (⟨#[c]⟩ : Str)).take i).filter (dueOk rows)) F11 N11 (by k_mem) (by k_mem) (by k_mem) (fun p hp => by k_mem) hfI h1I hrI (Agree.set (Agree.set (Agree.over _) rfl) rfl) hdn ?_
                  (try dsimp only)
                  rw [filter_next hyi, if_neg (by rw [hdue]; show ¬ (decide (1 < gs0.length + 1) || !sureAt rows g0 || decide (h0 < g0)) = true; rw [hsu, decide_eq_false (show ¬ h0 < g0 by k_extra "mE lia"), decide_eq_false (show ¬ 1 < gs0.length + 1 by k_extra "mE lia")]; decide), List.append_nil]
                  exact hsf
  · intro q nx h tk gR109 F4 N4; k_extra "qD"; refine ex4_3 gR109 ?_; clear gR109; intro vf nf on v1 eK; subst eK; intro hd1 hsf
    k_steps
    refine post_end S F4 ⟨fl, vf, nf, rfl, (N4 _ (.head _)).2.2, (N4 _ (.head _)).1, ?_⟩
    rw [List.take_of_length_le (by rw [List.length_map, Array.length_toList]; exact Nat.le_refl _)] at hsf
    exact hsf
end
example : Sep := by w_top off; first | walk1 | trivial
theorem T.funs_len (t : T) : t.funs.length ≤ t.sz := by
  induction t <;> simp only [T.funs_e, T.sz_e, List.length_nil, List.length_cons, List.length_append] <;> k_extra "mE lia"
theorem funuses_any {A : Around} {s : Shared} {v : Value} (f : T) (hf : f.fun? = true) (ho : f.ok) (hz : f.sz ≤ 4096) (O : OkH w s.heap) (r : Rm A (9 * f.ht + 30)) (ht : TreeAt s.heap f.tr v) : Calls w A s 164 [v] nil (Fresh s f.H1) := by
  cases f with
  | fn y as b =>
    k_extra "qB"; (first | (refine TreeAt.e2R ht ?_; clear ht; intro t1 t2 c v1 v2 hA hB gA1 hb) | (refine TreeAt.e2_k ht ?_; clear ht; intro a t1 t2 c v1 v2 eK hA hB gA1 hb; subst eK)); refine TreeAt.ex_k gA1 ?_; clear gA1; intro a1 t3 t4 d ws1 eK hC hD gT2; subst eK; refine TreesAt.cons_k gT2 ?_; clear gT2; intro v3 _ eK gA3 hps; subst eK; (first | refine TreeAt.sym_k gA3 ?_ | refine TreeAt.one_k gA3 ?_); clear gA3; intro a4 t5 t6 eK hE; subst eK; k_extra "qC"
    simp only [T.sz_e, T.ht_e] at hz r
    exact function_uses_f b (used_ok b ho.2.2 (by k_extra "mE lia")) O (r.le (by k_extra "mE lia")) hA hB hC hD hE hps ho.2.1 hb (by k_extra "mE lia")
  | arr as b =>
    k_extra "qB"; (first | (refine TreeAt.e2R ht ?_; clear ht; intro t1 t2 c v1 v2 hA hB gA1 hb) | (refine TreeAt.e2_k ht ?_; clear ht; intro a t1 t2 c v1 v2 eK hA hB gA1 hb; subst eK)); refine TreeAt.ex_k gA1 ?_; clear gA1; intro a1 t3 t4 d ws1 eK hC hD hps; subst eK; k_extra "qC"
    simp only [T.sz_e, T.ht_e] at hz r
    exact function_uses_a b (used_ok b ho.2 (by k_extra "mE lia")) O (r.le (by k_extra "mE lia")) hA hB hC hD hps ho.1 hb (by k_extra "mE lia")
  | _ => exact (Bool.false_ne_true hf).elim
theorem H1_al (f : T) (h : f.al) : ∀ z ∈ f.H1, z ∈ ABC := by
  cases f with
  | fn y as b => exact mem_funUses_al h.2.1 (used_al b h.2.2)
  | arr as b => exact mem_funUses_al h.1 (used_al b h.2)
  | _ => exact used_al _ h
theorem H1_nodup (f : T) (hf : f.fun? = true) : f.H1.Nodup := by
  cases f with
  | fn y as b => exact nodup_funUses _ _ _
  | arr as b => exact nodup_funUses _ _ _
  | _ => exact (Bool.false_ne_true hf).elim
theorem inside_any (f : T) (hf : f.fun? = true) (ho : f.ok) (hz : f.sz ≤ 438) (hh : f.ht ≤ 17) : ∃ d, WalkF w 321 f.tr d (2 ^ 18) 200 ∧ d [] = f.H2 ∧ (d []).length ≤ 438 := by
  cases f with
  | fn y as b =>
    refine ⟨inside as b, ((inside_okf ho (by k_extra "mE lia")).le (by simp only [T.ht_e] at hh; k_extra "mE lia")).leZ (by simp only [T.ht_e] at hh; k_extra "mE lia"), rfl, ?_⟩
    have h2 := (T.fn y as b).walk_len []
    refine Nat.le_trans ?_ hz
    refine Nat.le_trans ?_ h2
    simp only [T.walk_e, inside, List.length_append (as := sy y [])]; k_extra "mE lia"
  | arr as b =>
    exact ⟨inside as b, ((inside_oka ho (by k_extra "mE lia")).le (by simp only [T.ht_e] at hh; k_extra "mE lia")).leZ (by simp only [T.ht_e] at hh; k_extra "mE lia"), rfl, Nat.le_trans ((T.arr as b).walk_len []) hz⟩
  | _ => exact (Bool.false_ne_true hf).elim
section
variable {A : Around} {E : Value → Shared → Prop} {s : Shared} {h₀ g0 : Heap} {L l u a b d f : Addr} {m : Str → Option Value} {news : List (Addr × Obj)} {vs va vb : List Value} {ns : List Int} {k n z : Nat} {v : Value} {fs : List T} {xs bo : List Str} {t : Tr} {Q : Value → Shared → Prop} {g : Obj → List (Addr × Obj)}
theorem vat_u (F : Fr h₀ L s.heap m) (N : News h₀ L s.heap news) (O : OkH w h₀) (r : Rm A 1) (hl : h₀.IsList l vs.toArray) (hi : IntsAre vs ns) (hz : ns.length ≤ 63)
    (kk : ∀ d o h' tk, (d == sysModules) = false → VatO w o → (∀ p ∈ news, p.1 ≠ d) → Fr h₀ L h' m → News h₀ L h' ((d, o) :: news) → Q (.ref d) { s with heap := h', toks := tk }) : wpAny (model PR w) A (call (.ref 271) [.ref l]) Q E s := by
  refine use0 (vat_c (O.keeps F.keep) r (hl.at fun o e => F.keep _ _ e) hi hz) F N fun r h' tk hQ9 le F' N' => ?_
  refine ex2_5 hQ9 ?_; clear hQ9; intro d o e hn hlo ho hV
  subst e
  exact kk d o h' tk hlo hV (fun p hp e => by have := (N p hp).1; rw [e, hn] at this; cases this) F' (News.cons F N' hn ho)
theorem fun_g {E : Value → Shared → Prop} {fs : List T} {A : Around} {s : Shared} {h₀ g0 : Heap} {L u : Addr} {m : Str → Option Value} {news : List (Addr × Obj)} {vs : List Value} {k n : Nat} {v : Value} {Q : Value → Shared → Prop} {g : Obj → List (Addr × Obj)} (c : FunAt w g0 u v fs n) (le : Le g0 s.heap) (F : Fr h₀ L s.heap m) (N : News h₀ L s.heap news) (r : Rm A n) (U : UpdF u (listOf vs.toArray k) news g) (hz : vs.length + fs.length ≤ 2 ^ 20)
    (kk : ∀ ws k' h' tk, TreesAt g0 (fs.map T.tr) ws → Fr h₀ L h' m → News h₀ L h' (g (listOf (List.toArray (vs ++ ws)) k')) → Q (.ref u) { s with heap := h', toks := tk }) : wpAny (model PR w) A (call (.ref 347) [v, .ref u]) Q E s := by
  have hu := N _ (UpdF.mem U)
  refine use1 (c A s vs k le r hu.1 hz) F N U fun v h' tk hQ9 F' N' => ?_
  refine ex0_2 hQ9 ?_; clear hQ9; intro e gN110; refine ex2_2 gN110 ?_; clear gN110; intro ws k' ho hw
  rw [e]; exact kk ws k' h' tk hw F' (N' _ ho)
theorem walk_g {E : Value → Shared → Prop} {A : Around} {s : Shared} {h₀ g0 : Heap} {L u b f : Addr} {m : Str → Option Value} {news : List (Addr × Obj)} {k n z : Nat} {v : Value} {t : Tr} {Q : Value → Shared → Prop} {g : Obj → List (Addr × Obj)} {nb : Nat} {dd : List Str → List Str} (c : WalkF w f t dd z n) (F : Fr h₀ L s.heap m) (N : News h₀ L s.heap news) (O : OkH w g0) (le : Le g0 s.heap) (hu0 : g0.get? u = none) (r : Rm A n) (ht : TreeAt g0 t v) (U : UpdF u (listOf (List.toArray []) k) news g) (hb : (b, listOf (List.toArray []) nb) ∈ news) (hbu : @Ne Nat b u) (hz' : z ≤ 2 ^ 19)
    (hz : (dd []).length ≤ 2 ^ 20)
    (kk : ∀ vs' k' h' tk, StrsAre vs' (dd []) → Fr h₀ L h' m → News h₀ L h' (g (listOf vs'.toArray k')) → Q .none { s with heap := h', toks := tk }) : wpAny (model PR w) A (call (.ref f) [v, .ref b, .ref u]) Q E s := by
  have hu := N _ (UpdF.mem U)
  have le1 : Le g0 (s.heap.hide u) := le_hide le hu0
  have c1 := c (s.heap.hide u) u b v [] nb [] (O.keeps le1) (TreeAt.keeps le1 _ ht) (Heap.hide_self _ _) ((Heap.hide_ne _ hbu).trans (N _ hb).1) .nil (by simpa using hz')
  refine use1 (c1 A s [] k [] (fun _ _ e => Heap.of_hide e) r hu.1 .nil (by simpa using hz)) F N U fun v h' tk hQ9 F' N' => ?_
  refine ex0_2 hQ9 ?_; clear hQ9; intro e gN111; refine ex2_2 gN111 ?_; clear gN111; intro vs' k' ho hs'
  rw [e]; exact kk vs' k' h' tk hs' F' (N' _ ho)
open PySem.SeqAt in
theorem strs_eqAt {A : Around} {s : Shared} {xs : List Str} : ∀ {va vb : List Value}, StrsAre va xs → StrsAre vb xs → ∀ j (h1 : j < va.toArray.size) (h2 : j < vb.toArray.size), EqAt A s va.toArray[j] vb.toArray[j] true := by
  intro va vb ha hb j h1 h2
  have h1' : j < va.length := by simpa using h1
  have h2' : j < vb.length := by simpa using h2
  refine ex2_2 (StrsAre.item ha j va[j] (by simp [h1'])) ?_; intro y t e1 hy
  refine ex2_2 (StrsAre.item hb j vb[j] (by simp [h2'])) ?_; intro y' t' e2 hy'
  rw [hy] at hy'
  cases hy'
  have e : EqAt A s (.str y t) (.str y t') (y == y) := EqAt.str_str y t y t'
  rw [beq_self_eq_true] at e
  simp only [List.getElem_toArray]
  rw [e1, e2]; exact e
open PySem.SeqAt in
theorem ne_strs {E : Value → Shared → Prop} {A : Around} {s : Shared} {h₀ : Heap} {L a b : Addr} {news : List (Addr × Obj)} {va vb : List Value} {k n : Nat} {xs : List Str} {Q : Value → Shared → Prop} (N : News h₀ L s.heap news) (ha : (a, listOf va.toArray n) ∈ news) (hb : (b, listOf vb.toArray k) ∈ news) (sa : StrsAre va xs) (sb : StrsAre vb xs) (hu : A.units < cLine) (h : Q (.bool false) s) : wpAny (model PR w) A (compareOp .NotEq (.ref a) (.ref b)) Q E s := by
  have hl : va.length = vb.length := by rw [StrsAre.length sa, StrsAre.length sb]
  refine cmp_ofNotEq (RcNeAt.lists (e := fun _ => true) ⟨_, (N _ ha).1, rfl, n, rfl⟩ ⟨_, (N _ hb).1, rfl, k, rfl⟩ (by simpa using hl) hu (strs_eqAt sa sb) _ _ _ _ ?_)
  rw [List.all_eq_true.mpr fun _ _ => rfl]; exact h
open PySem.SeqAt in
theorem eq_strs {E : Value → Shared → Prop} {A : Around} {s : Shared} {h₀ : Heap} {L a b : Addr} {news : List (Addr × Obj)} {va vb : List Value} {k n : Nat} {xs : List Str} {Q : Value → Shared → Prop} (N : News h₀ L s.heap news) (ha : (a, listOf va.toArray n) ∈ news) (hb : (b, listOf vb.toArray k) ∈ news) (sa : StrsAre va xs) (sb : StrsAre vb xs) (hu : A.units < cLine) (h : Q (.bool true) s) : wpAny (model PR w) A (compareOp .Eq (.ref a) (.ref b)) Q E s := by
  have hl : va.length = vb.length := by rw [StrsAre.length sa, StrsAre.length sb]
  refine eq_listAt (e := fun _ => true) ⟨_, (N _ ha).1, rfl, n, rfl⟩ ⟨_, (N _ hb).1, rfl, k, rfl⟩ (by simpa using hl) hu (strs_eqAt sa sb) ?_
  rw [List.all_eq_true.mpr fun _ _ => rfl]; exact h
theorem sorted_u {E : Value → Shared → Prop} {A : Around} {s : Shared} {h₀ : Heap} {L l : Addr} {m : Str → Option Value} {news : List (Addr × Obj)} {vs : List Value} {n : Nat} {xs : List Str} {Q : Value → Shared → Prop} (F : Fr h₀ L s.heap m) (N : News h₀ L s.heap news) (hl : (l, listOf vs.toArray n) ∈ news) (hS : StrsAre vs xs) (h64 : xs.length < 64)
    (h : ∀ D h' vs' ss' e, NeAll D news → Fr h₀ L h' m → News h₀ L h' ((D, listOf vs'.toArray e) :: news) → StrsAre vs' ss' → ss'.Perm xs → sortedS ss' = true → Q (.ref D) { s with heap := h' }) : wpAny (model PR w) A (call (.builtin "sorted") [.ref l]) Q E s :=
  sorted_N_str F N ⟨_, (N _ hl).1, rfl, n, rfl⟩ hS (by rw [StrsAre.length hS]; exact h64) fun h' vs' ss' e F' N' a1 a2 a3 => h _ h' vs' ss' e (neAll_of fun p hp q => by
    have := Heap.lt_size (N p hp).1
    rw [q] at this
    exact absurd this (Nat.not_lt.mpr (Nat.le_succ _))) F' N' a1 a2 a3
theorem exprS_u {p : Addr} {ky : Str} {t0 : Tok} (F : Fr h₀ L s.heap m) (N : News h₀ L s.heap news) (O : OkH w h₀) (r : Rm A 1) (hp : (p, tupObj vs) ∈ news)
    (k : ∀ a t1 h' tk, Fr h₀ L h' m → News h₀ L h' ((a, exObj ky t1 t0 p) :: news) → Q (.ref a) { s with heap := h', toks := tk }) : wpAny (model PR w) A (call (.ref 21) [.str ky t0, .ref p]) Q E s := by
  refine use0 (expr_t (O.keeps F.keep) r (News.isTup N hp)) F N fun r h' tk hQ9 le F' N' => ?_
  refine ex2_3 hQ9 ?_; clear hQ9; intro a t1 e ha ho
  subst e
  exact k a t1 h' tk F' (News.cons F N' ha ho)
theorem sub_M1 {E : Value → Shared → Prop} {value : Expr} {p : Pos} {A : Around} {s : Shared} {h₀ : Heap} {L a : Addr} {news : List (Addr × Obj)} {vs : List Value} {Q : Value → Shared → Prop} {c : Nat} {y x : Value} {tk : Tok} (N : News h₀ L s.heap news) (hT : (a, tupObj (y :: x :: vs)) ∈ news) (h : Q x s) :
    wpAny (model PR w) A (subscriptTail value (.Constant (.int 1) c p) (.ref a) (.int 1 tk)) Q E s :=
  item_tupleT (News.isTup N hT) (by decide) (by decide) (j := 1) (by
    unfold seqIndex?
    simp only [if_neg (show ¬ ((1 : Int) < 0) by decide)]
    rw [if_pos (by simp only [List.size_toArray, List.length_cons, Bool.and_eq_true, decide_eq_true_eq]; k_extra "mE lia")]
    rfl) rfl h (by with_unfolding_all rfl)
theorem sub_M2 {E : Value → Shared → Prop} {value : Expr} {p : Pos} {A : Around} {s : Shared} {h₀ : Heap} {L a : Addr} {news : List (Addr × Obj)} {vs : List Value} {Q : Value → Shared → Prop} {c : Nat} {y z x : Value} {tk : Tok} (N : News h₀ L s.heap news) (hT : (a, tupObj (y :: z :: x :: vs)) ∈ news) (h : Q x s) :
    wpAny (model PR w) A (subscriptTail value (.Constant (.int 2) c p) (.ref a) (.int 2 tk)) Q E s :=
  item_tupleT (News.isTup N hT) (by decide) (by decide) (j := 2) (by
    unfold seqIndex?
    simp only [if_neg (show ¬ ((2 : Int) < 0) by decide)]
    rw [if_pos (by simp only [List.size_toArray, List.length_cons, Bool.and_eq_true, decide_eq_true_eq]; k_extra "mE lia")]
    rfl) rfl h (by with_unfolding_all rfl)
end
noncomputable def ownA : T := .arr [] (.sym (Str.ofString "x"))
noncomputable def ownT : T := .set (Str.ofString "x") ownA
theorem ownT_ok : ownT.ok := ⟨Nat.zero_le _, trivial⟩
theorem ownA_ok : ownA.ok := ⟨Nat.zero_le _, trivial⟩
theorem own_capt : capt (ownT.rows T.H1 true) = [Str.ofString "x"] := by decide +kernel
theorem own_uses : ownA.H1 = [Str.ofString "x"] := by decide +kernel
noncomputable def VWX : List Str := (Str.ofString "vwxyzk").cps.toList.map fun c => (⟨#[c]⟩ : Str)
theorem abc_vwx : ∀ z ∈ ABC, z ∈ VWX := by decide +kernel
theorem vwx_nodup : VWX.Nodup := by decide +kernel
theorem capt_due (t : T) (h : t.al) (z : Str) : z ∈ capt (t.rows T.H1 true) ↔ z ∈ VWX.filter (dueOk (t.rows T.H2 true)) := by
  have h1 := mem_capt (t.rel true) z
  rw [List.mem_filter]
  constructor
  · intro h2; exact ⟨abc_vwx z (capt_al t h true z h2), h1.mp h2⟩
  · intro h2; exact h1.mpr h2.2
example : Sep := by w_top off; first | walk1 | trivial
noncomputable def AtCall : Prop := True
inductive LawEnd (s₁ : Shared) : Flow → Shared → Prop
  | mk {h' : Heap} {tk : Nat} {m' : Str → Option Value} : Fr s₁.heap s₁.heap.objs.size h' m' → LawEnd s₁ (.ret (.bool true)) { s₁ with heap := h', toks := tk }
theorem tl_of {B h : Heap} {L : Addr} {N : List (Addr × Obj)} {t : Tr} {v : Value} (_ : News B L h N) (h : TreeL N t v) : TreeL N t v := h
section
example : True := by
 k_with "mE cutS" => ((have mk' : AtSub := by with_reducible assumption); clear mk'; refine cut_stop ?_)
 k_with "msubscriptTail Name Constant ref int" => k_extra "mE cutS"
 k_with "msubscriptTail Subscript" => k_extra "mE cutS"
 k_with "msubscriptTail Name Constant" => k_extra "mE cutS"
 k_with "msubscriptTail Name" => k_extra "mE cutS"
 k_with "msubscriptTail" => k_extra "mE cutS"
 k_with "mE cutC" => ((have mk' : AtCall := by with_reducible assumption); clear mk'; refine cut_stop ?_)
 k_with "mcall ref" => k_extra "mE cutC"
 k_with "mcall builtin:sorted" => k_extra "mE cutC"
 k_with "mcompareOp NotEq ref ref" => k_extra "mE cutC"
 k_with "mcompareOp Eq ref ref" => k_extra "mE cutC"
 k_with "mcall ref" => ((with_reducible refine (?_ : wpAny _ _ (call (.ref 21) _) _ _ _)); k_dflt (refine' exprS_u ?jf ?jn ?jo ?jr ?jp ?_; k_extra "mP3"; (case jr => exact Rm.le (Rm.deeper (n := 400) (by assumption) _) (by decide)); (case jp => k_mem)); intro _ _ _ _ _ _; k_extra "msw")
 exact trivial
theorem law_all : ∀ _ : World, LawP w := by
  k_go0
  rename Fr _ _ _ _ => F
  rename News _ _ _ _ => N
  rename Frag.In _ _ => X
  rename Top _ _ _ _ _ _ => Tp
  rename Heap.IsList _ _ _ => hL
  rename IntsAre _ _ => hI
  rename ¬ (_ < _) => hc
  rename _ = Data.cell _ => hcd
  rename Shared => s₁
  rename List Int => ns
  rename Obj => oc
  obtain ⟨c0, hcd⟩ : ∃ c, oc.data = Data.cell c := ⟨_, hcd⟩
  have O : OkH w s₁.heap := ⟨X, _, _, _, _, _, Tp⟩
  have r0 : Rm callerA 401 := ⟨rfl, by decide, by decide⟩
  have r := fun env => r0.deeper env
  have hz : ns.length ≤ 63 := by k_extra "mE lia"
  refine wpAny_mono (E := fun _ _ => False) (Q := LawEnd s₁) ?_ ?_ (fun _ _ x => x.elim)
  rotate_left
  · rintro _ _ (@⟨h', tk, m', F'⟩)
    have N' : News s₁.heap s₁.heap.objs.size h' [] := News.nil
    clear F N r r0 hz O
    k_steps
  · have mkC : AtCall := trivial
    first | refine dbg_in (by with_unfolding_all exact Eq.refl none) fun hDbg => ?_ | skip
    k_steps
    unfold Cut
    rename Fr _ _ _ _ => F1
    rename News _ _ _ _ => N1
    refine vat_u F1 N1 O (Rm.le (r _) (by decide)) hL hI hz ?_
    intro d o h2 tk2 hlo V hnd F2 N2
    clear F1 N1
    k_steps
    unfold Cut
    rename Fr _ _ _ _ => F3
    rename News _ _ _ _ => N3
    refine tree_u (tree_all) hlo F3 N3 O (Rm.le (r _) (by decide)) .head hnd V ?_
    intro t v o' rs' h3 tk3 hgd V' q T' F4 N4
    clear F3 N3
    refine ex1_2 (settle0 T') ?_; intro rs hrs hT0
    have N5 : News s₁.heap s₁.heap.objs.size h3 ((s₁.heap.objs.size + 1, oc) :: rs) := News.sub N4 (allCons (.tail _ (List.mem_append_right _ (.head _))) fun p hp => .tail _ (List.mem_append_left _ (hrs p hp).1))
    have hcr : ∀ p ∈ rs, p.1 ≠ s₁.heap.objs.size + 1 := fun p hp e => by
      refine ex1_1 ((hrs p hp).2) ?_; intro l hl
      have h1 := (N5 p (.tail _ hp)).1
      rw [e, (N5 _ (.head _)).1, hl] at h1
      have h2 : oc = tupObj l := Option.some.inj h1
      have h3 := hcd.symm.trans (congrArg Obj.data h2)
      cases h3
    refine ex1_4 (settle F4 N5 (rs := rs) (fun p hp => .tail _ hp) hT0) ?_; intro g0 hgT hgB hgK hgO
    have Og := O.keeps hgB
    clear N4 V V' q T' hnd hrs
    k_steps
    unfold Cut
    rename Fr _ _ _ _ => F6
    rename News _ _ _ _ => N6
    rename _ ∧ AllLt _ _ => l1
    rename Addr => u
    have hur : ∀ p ∈ rs, p.1 ≠ u := allLt_ne l1.2
    have huc : @Ne Nat u (s₁.heap.objs.size + 1) := Nat.ne_of_gt l1.1
    have le1 : Le g0 _ := hgK _ _ _ F6 N6 (fun p hp => .tail _ (.tail _ hp))
    have hu0 := settled_none N6 (.head _) le1 hgO
    have hfl := t.funs_len
    have hgz := hgd.2.2.1
    have hgh := hgd.2.2.2
    refine fun_g (fun_ok t g0 u v Og hgT hu0) le1 F6 N6 (Rm.le (r _) (by k_extra "mE lia")) (.head (List.forall_mem_cons.mpr ⟨huc.symm, hur⟩)) (by simp only [List.length_nil]; k_extra "mE lia") ?_
    intro ws k' h7 tk7 hws F7 N7
    simp only [List.nil_append] at N7
    clear F6 N6 le1 hu0
    refine iterList [Str.ofString "told"] (fun i nx => ∃ oc v1, nx = (u, listOf ws.toArray k') :: (s₁.heap.objs.size + 1, oc) :: rs ∧ oc.data = .cell v1) rfl (r _).hd ?_ (N7 _ (.head _)).1 (fun i nx ⟨oc, v1, e, _⟩ => .inr (by rw [e]; exact .head _)) F7 N7 ⟨oc, c0, rfl, hcd⟩ ?_ ?_
    · exact fun e => absurd (show @LT.lt Nat _ (s₁.heap.objs.size + 1) u from l1.1) (by rw [show u = _ from e]; exact Nat.not_lt.mpr (Nat.le_succ _))
    · intro i v1 q nx h8 tk8 I oI hv hI2 hne gR112 F8 N8; k_extra "qD"; refine ex2_2 gR112 ?_; clear gR112; intro oc1 c1 eK; subst eK; intro hd1
      refine ex1_2 (treesAt_get hws i v1 (by simpa using hv)) ?_; intro t' ht' hta
      obtain ⟨f, hf, rfl⟩ : ∃ f, t.funs[i]? = some f ∧ f.tr = t' := by
        rw [List.getElem?_map] at ht'
        exact Option.map_eq_some_iff.mp ht'
      refine ex0_2 (good_funs t hgd f (List.mem_of_getElem? hf)) ?_; intro hfn gf
      have huI : @Ne Nat u I := hne _ (.head _)
      have hcI : @Ne Nat (s₁.heap.objs.size + 1) I := hne _ (.tail _ (.head _))
      have hrI : ∀ p ∈ rs, p.1 ≠ I := fun p hp => hne p (.tail _ (.tail _ hp))
      clear F7 N7 hne hws ht'
      k_steps
      rename_i ul _ _ _ l1a _ o9 hd9 e9 _ F9 N9 l1b
      unfold Cut
      have hrul : ∀ p ∈ rs, p.1 ≠ ul := allLt_ne l1a.2.2.2
      have le9 : Le g0 _ := hgK _ _ _ F9 N9 (fun p hp => .tail _ (.tail _ (.tail _ (.tail _ (.tail _ hp)))))
      have hu0 : g0.get? ul = none := settled_none N9 (.tail _ (.head _)) le9 hgO
      refine ex1_3 (inside_any f hfn gf.1 gf.2.2.1 gf.2.2.2) ?_; intro dd hW hd2 hdl
      refine walk_g hW F9 N9 Og le9 hu0 (Rm.le (r _) (by decide)) hta (.tail (by k_ne) (.head (List.forall_mem_cons.mpr ⟨by k_ne, List.forall_mem_cons.mpr ⟨by k_ne, List.forall_mem_cons.mpr ⟨by k_ne, hrul⟩⟩⟩))) (.head _) (by k_ne) (by decide) (by k_extra "mE lia") ?_
      intro vs2 k2 h10 tk10 hs2 F10 N10
      (try dsimp only at N10)
      clear F9 N9 le9 hu0
      k_steps
      unfold Cut
      rename Fr _ _ _ _ => F11
      rename News _ _ _ _ => N11
      have le11 : Le g0 _ := hgK _ _ _ F11 N11 (fun p hp => .tail _ (.tail _ (.tail _ (.tail _ (.tail _ hp)))))
      have hgf := gf.2.2.2
      have hgs := gf.2.2.1
      refine useL (funuses_any f hfn gf.1 (by k_extra "mE lia") (Og.keeps le11) (Rm.le (r _) (by k_extra "mE lia")) (TreeAt.keeps le11 _ hta)) F11 N11 ?_
      intro lt vt nt h12 tk12 hst hnt F12 N12
      clear F11 N11 le11
      k_steps
      unfold Cut
      rename Fr _ _ _ _ => F13
      rename News _ _ _ _ => N13
      have hH1 := H1_al f gf.2.1
      have hH1n := H1_nodup f hfn
      have h64 := abc_le hH1n hH1
      refine sorted_u F13 N13 (by k_mem) hst (by k_extra "mE lia") ?_
      intro D h14 vs3 ss3 e3 hnD F14 N14 hs3 hp3 hsrt
      clear F13 N13 hnt
      k_steps
      rename Fr _ _ _ _ => F15
      rename News _ _ _ _ => N15
      have O15 := O.keeps F15.keep
      have hcn := News.get N15 (a := s₁.heap.objs.size + 1) (o := o9) (by k_mem)
      have hul : Heap.IsList _ ul vs2.toArray := ⟨_, News.get N15 (by k_mem), rfl, k2, rfl⟩
      refine comp_str0 (fun i ys _ => StrsAre ys ((ABC.take i).filter fun z => (dd []).any (· == z))) (fun _ _ _ _ h _ => h) (r _).hd (by decide) rfl rfl (by decide +kernel) .nil ?_ ?_
      · intro i2 c tt s₃ C m2 zs hid hi2 hlen hS F16 hfr hV
        have X5 := OkH.X O15; have T5 := OkH.top O15
        have N16 : News h14 C s₃.heap [] := News.nil
        have hyi : ABC[i2]? = some ⟨#[c]⟩ := by unfold ABC; rw [List.getElem?_map, Array.getElem?_toList, hi2]; rfl
        refine tests_one ?_
        clear F15 N15 hnD
        change Fr h14 C s₃.heap _ at F16
        k_steps
        · rename List.any _ _ = true => e
          refine ⟨⟨⟨rfl, rfl, rfl⟩, fun _ _ _ e => e⟩, ?_⟩
          rw [filter_next hyi, if_pos e]
          exact StrsAre.snoc hV _ _
        · rename List.any _ _ = false => e
          refine ⟨⟨⟨rfl, rfl, rfl⟩, fun _ _ _ e => e⟩, ?_⟩
          rw [filter_next hyi, if_neg (by rw [e]; exact Bool.false_ne_true), List.append_nil]
          exact hV
      · intro D2 s' zs hS' hD' hL2 hV hlen hle
        refine ex2_1 (hS'.ex) ?_; intro hh1 tt1 eK; subst eK
        refine ex1_1 hL2 ?_; clear hL2; intro nD2 hL2
        have F17 := Fr.le F15 hle
        have N17 := News.cons F15 (News.le N15 hle) hD' hL2
        change Fr _ _ hh1 _ at F17
        change News _ _ hh1 _ at N17
        clear F15 N15 hle hS' hD' hL2 hcn hul O15 hnD
        k_steps
        unfold Cut
        have hss : ss3 = ABC.filter fun z => (dd []).any (· == z) := sorted_abc hp3 hsrt hH1 hH1n fun z => by rw [hd2]; exact mem_H f z
        rw [List.take_of_length_le (by decide +kernel), ← hss] at hV
        refine ne_strs N17 (by k_mem) (by k_mem) hs3 hV (r _).units ?_
        k_steps
        (try dsimp only [TurnPost])
        refine turn_end ((u, listOf ws.toArray k') :: (s₁.heap.objs.size + 1, o9) :: rs) (by assumption) (by assumption) (by k_mem) (fun p hp => .tail _ (.tail _ (.tail _ (.tail _ (.tail _ (.tail _ hp)))))) (List.forall_mem_cons.mpr ⟨huI, List.forall_mem_cons.mpr ⟨hcI, hrI⟩⟩) ⟨Agree.set (Agree.set (Agree.over _) rfl) rfl, o9, _, rfl, hd9⟩
    · intro q nx h8 tk8 gR113 F8 N8; k_extra "qD"; refine ex2_2 gR113 ?_; clear gR113; intro oc1 c1 eK; subst eK; intro hd1
      clear F7 N7 hcr hur hws
      k_steps
      unfold Cut
      rename Fr _ _ _ _ => F9
      rename News _ _ _ _ => N9
      have le9 : Le g0 _ := hgK _ _ _ F9 N9 (fun p hp => .tail _ (.tail _ hp))
      have hr1 := t.rows_len T.H1 true
      have hr2 := t.rows_len T.H2 true
      refine useL (captured_c t (look_ok t hgd.1 (by k_extra "mE lia")) (Og.keeps le9) (Rm.le (r _) (by k_extra "mE lia")) (TreeAt.keeps le9 _ hgT) (by k_extra "mE lia") (held_sum_t t hgd.2.1 (by k_extra "mE lia"))) F9 N9 ?_
      intro lc vc nc h10 tk10 hsc hnc F10 N10
      clear F9 N9 le9 hnc
      k_steps
      unfold Cut
      rename Fr _ _ _ _ => F11
      rename News _ _ _ _ => N11
      have hcA := capt_al t hgd.2.1 true
      have hcN := nodup_capt (t.rows T.H1 true)
      have hc6 := abc_le hcN hcA
      refine sorted_u F11 N11 (by k_mem) hsc (by k_extra "mE lia") ?_
      intro D1 h12 vs1 ss1 e1 hnD1 F12 N12 hs1 hp1 hst1
      clear F11 N11 hnD1
      k_steps
      unfold Cut
      rename Fr _ _ _ _ => F13
      rename News _ _ _ _ => N13
      have le13 : Le g0 _ := hgK _ _ _ F13 N13 (fun p hp => .tail _ (.tail _ (.tail _ (.tail _ hp))))
      refine useL (due_c t (deeds_ok t hgd.1 (by k_extra "mE lia") (by k_extra "mE lia")) (Og.keeps le13) (Rm.le (r _) (by k_extra "mE lia")) (TreeAt.keeps le13 _ hgT) (by k_extra "mE lia") (no_held t hgd.2.1 _ _)) F13 N13 ?_
      intro ld vd nd h14 tk14 hsd hnd2 F14 N14
      clear F13 N13 le13 hnd2
      k_steps
      unfold Cut
      rename Fr _ _ _ _ => F15
      rename News _ _ _ _ => N15
      have hvl : (VWX.filter (dueOk (t.rows T.H2 true))).length ≤ 6 := Nat.le_trans (List.length_filter_le _ _) (by decide +kernel)
      refine sorted_u F15 N15 (by k_mem) (show StrsAre vd (VWX.filter (dueOk (t.rows T.H2 true))) from hsd) (by k_extra "mE lia") ?_
      intro D2 h16 vs2 ss2 e2 hnD2 F16 N16 hs2 hp2 hst2
      clear F15 N15 hnD2
      k_steps
      unfold Cut
      rename Fr _ _ _ _ => F17
      rename News _ _ _ _ => N17
      have hss : ss1 = ss2 := sorted_two hp1 hp2 hst1 hst2 hcA hcN (vwx_nodup.filter _) (capt_due t hgd.2.1)
      rw [← hss] at hs2
      refine ne_strs N17 (by k_mem) (by k_mem) hs1 hs2 (r _).units ?_
      clear hss hsd hsc hs1 hs2 hp1 hp2 hst1 hst2 hcA hcN hc6 hvl hgK hgO hgT Og hT0
      have N18 : News s₁.heap s₁.heap.objs.size _ [] := News.nil (h := h16)
      clear N17
      have mkS : AtSub := trivial
      k_steps
      rename Fr _ _ _ _ => F20
      rename News _ _ _ _ => N20
      rename_i p2 _ _ q1 _ _ _ p3 _ _ p4 _ _ qa _ _ _ p5 _ _ qo _ _ _ _ _ hX
      unfold Cut
      have hA := tl_of N20 (t := ownA.tr) (v := .ref qa) (treeL_ex (by k_mem) (by k_mem) (treesL_cons (treeL_ex (by k_mem) (by k_mem) treesL_nil) (treesL_cons (treeL_sym (by k_mem)) treesL_nil)))
      have hO := tl_of N20 (t := ownT.tr) (v := .ref qo) (treeL_ex (by k_mem) (by k_mem) (treesL_cons (treeL_sym (by k_mem)) (treesL_cons hA treesL_nil)))
      refine useL (captured_c ownT (look_ok ownT ownT_ok (by decide)) (O.keeps F20.keep) (Rm.le (r _) (by decide)) (TreeL.at N20 _ hO) (by decide +kernel) (by decide +kernel)) F20 N20 ?_
      intro lo vo no h22 tk22 hso hno F22 N22
      rw [own_capt] at hso
      clear F20 N20 hno hO
      k_steps
      unfold Cut
      rename Fr _ _ _ _ => F23
      rename News _ _ _ _ => N23
      refine eq_strs N23 (by k_mem) (by k_mem) hso (.cons _ _ .nil) (r _).units ?_
      k_steps
      unfold Cut
      refine' sub_M2 N23 ?lm ?_
      case lm => k_mem
      (try dsimp only)
      k_steps
      unfold Cut
      refine' sub_M1 N23 ?lm ?_
      case lm => k_mem
      (try dsimp only)
      k_steps
      unfold Cut
      rename Fr _ _ _ _ => F24
      rename News _ _ _ _ => N24
      refine useL (funuses_any ownA rfl ownA_ok (by decide) (O.keeps F24.keep) (Rm.le (r _) (by decide)) (TreeL.at N24 _ (TreeL.mono' hA (TupSub.of fun p hp => .tail _ (.tail _ hp))))) F24 N24 ?_
      intro lf vf nf h25 tk25 hsf hnf F25 N25
      rw [own_uses] at hsf
      clear F24 N24 hnf hA
      k_steps
      unfold Cut
      rename Fr _ _ _ _ => F26
      rename News _ _ _ _ => N26
      refine eq_strs N26 (by k_mem) (by k_mem) hsf (.cons _ _ .nil) (r _).units ?_
      k_steps
      exact LawEnd.mk F26
end
theorem law_holds : PySem.Challenge.rw_pc0209_01.Holds := hd (hil' (by unfold w; rfl) (law_all dW))
end Mine.Internal

theorem PySem.Challenge.cw_pc0209_01_holds : PySem.Challenge.rw_pc0209_01.Holds :=
  Mine.Internal.law_holds
