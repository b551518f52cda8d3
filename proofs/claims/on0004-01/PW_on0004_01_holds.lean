import PyProof.Rows.All
import Wide.All
import OpenK.AllK
import Wide.FinOn
import PySem.Challenge.RW_on0004_01
set_option Elab.async false
namespace Mine
theorem pre.tw8113819696807641309 : True := trivial
theorem pre.tw14967782790706212462 : True := trivial
theorem pre.tw3744368537293892124 : True := trivial
theorem pre.tw6548938536104458511 : True := trivial
theorem pre.tw6984639926880643421 : True := trivial
theorem pre.tw18233255370621244900 : True := trivial
theorem pre.tw12600001335209363398 : True := trivial
theorem pre.tw868406912619844004 : True := trivial
theorem pre.tw12601736412296754624 : True := trivial
theorem pre.tw9181419433902100537 : True := trivial
theorem pre.tw13839825171144383216 : True := trivial
theorem pre.tw8960298273192479886 : True := trivial
theorem pre.tw5179339599432730232 : True := trivial
theorem pre.tw4207049851535343501 : True := trivial
theorem pre.tw7205318348024006823 : True := trivial
theorem pre.tw15287351508561526039 : True := trivial
theorem pre.tw6767112457854269605 : True := trivial
theorem pre.tw10933684431934463483 : True := trivial
theorem pre.tw1111464524378067007 : True := trivial
theorem pre.tw14289962087397024595 : True := trivial
theorem pre.tw8089614636097026548 : True := trivial
theorem pre.tw381845577398426587 : True := trivial
theorem pre.tw3539277104568050316 : True := trivial
theorem pre.tw12650298971695326129 : True := trivial
theorem pre.tw2142029966526130302 : True := trivial
theorem pre.tw12274083203712686582 : True := trivial
theorem pre.tw3144533544089427767 : True := trivial
theorem pre.tw16676685420422431488 : True := trivial
theorem pre.tw4189212242694403473 : True := trivial
theorem pre.tw15233245896131659966 : True := trivial
theorem pre.tw12443831800542877001 : True := trivial
theorem pre.tw9048862158676561846 : True := trivial
theorem pre.tw12209519486425430729 : True := trivial
theorem pre.tw1134953709659117593 : True := trivial
theorem pre.tw10251759765297449335 : True := trivial
theorem pre.tw12010930066579576610 : True := trivial
theorem pre.tw13663304939719888959 : True := trivial
theorem pre.tw1264671815619765103 : True := trivial
theorem pre.tw13511625669976193069 : True := trivial
theorem pre.tw5532335634301144135 : True := trivial
theorem pre.tw17028943642903203401 : True := trivial
theorem pre.tw16248381776914940432 : True := trivial
theorem pre.tw7907242505890983963 : True := trivial
theorem pre.tw4084086026405070310 : True := trivial
theorem pre.tw17813032836175352512 : True := trivial
theorem pre.tw16164899644161129635 : True := trivial
theorem pre.tw13305933163451760600 : True := trivial
theorem pre.tw6431232979522229623 : True := trivial
theorem pre.tw6567427038174304042 : True := trivial
theorem pre.tw3955983160652177813 : True := trivial
theorem pre.tw15130635324320710267 : True := trivial
theorem pre.tw14861680889543947245 : True := trivial
theorem pre.tw5896042150136470975 : True := trivial
theorem pre.tw14898805574407847723 : True := trivial
theorem pre.tw15368396088340907196 : True := trivial
theorem pre.tw1885593639795240310 : True := trivial
theorem pre.tw15364903961692622375 : True := trivial
theorem pre.tw833301866567259626 : True := trivial
theorem pre.tw5779897831729120596 : True := trivial
theorem pre.tw10204019117609856550 : True := trivial
theorem pre.tw8599402730897727845 : True := trivial
theorem pre.tw15693231618869550497 : True := trivial
theorem pre.tw8138631344701588614 : True := trivial
theorem pre.tw12633947648045723924 : True := trivial
theorem pre.tw14795137245576490350 : True := trivial
theorem pre.tw4286845863238312128 : True := trivial
theorem pre.tw10091149122847604739 : True := trivial
theorem pre.tw11341683482078823632 : True := trivial
theorem pre.tw4419682620658410158 : True := trivial
theorem pre.tw11600251252059698432 : True := trivial
theorem pre.tw14604634542777377977 : True := trivial
theorem pre.tw85459618380259824 : True := trivial
theorem pre.tw1050892389064381581 : True := trivial
theorem pre.tw7686153911082905933 : True := trivial
theorem pre.tw2793876952464144092 : True := trivial
theorem pre.tw17373973320644317417 : True := trivial
theorem pre.tw5974860125168666142 : True := trivial
theorem pre.tw1891802886393711113 : True := trivial
theorem pre.tw17454632208202312435 : True := trivial
theorem pre.tw7766291113635084844 : True := trivial
theorem pre.tw963679378083677624 : True := trivial
theorem pre.tw9643329957379364079 : True := trivial
theorem pre.tw3653203284003021278 : True := trivial
theorem pre.tw6437931551330290438 : True := trivial
theorem pre.tw13207373630104666366 : True := trivial
theorem pre.tw3577683534774667318 : True := trivial
theorem pre.tw2397827621436535734 : True := trivial
theorem pre.tw14504007709385416882 : True := trivial
theorem pre.tw15489355944739424747 : True := trivial
theorem pre.tw899124743068861042 : True := trivial
theorem pre.tw7744840787576684945 : True := trivial
theorem pre.tw28029345213723098 : True := trivial
theorem pre.tw17947361977853104736 : True := trivial
theorem pre.tw2339367589048809781 : True := trivial
theorem pre.tw6598987100012212614 : True := trivial
theorem pre.tw9552730113335097103 : True := trivial
theorem pre.tw2035697669160248337 : True := trivial
theorem pre.tw12285278899058290007 : True := trivial
theorem pre.tw6665153045822150639 : True := trivial
theorem pre.tw12058416156572183381 : True := trivial
theorem pre.tw11686044155741065774 : True := trivial
theorem pre.tw9269883197500966196 : True := trivial
theorem pre.tw11383056963669434997 : True := trivial
theorem pre.tw3056967183029245664 : True := trivial
theorem pre.tw13954526434592077084 : True := trivial
theorem pre.tw17224984220818489609 : True := trivial
theorem pre.tw12329847798736442354 : True := trivial
theorem pre.tw10832435889686368783 : True := trivial
theorem pre.tw15216588824572760413 : True := trivial
theorem pre.tw16785959692537240356 : True := trivial
theorem pre.tw1957200725488321114 : True := trivial
theorem pre.tw9609149167571056082 : True := trivial
theorem pre.tw3142542386609302197 : True := trivial
theorem pre.tw10125758760863536837 : True := trivial
theorem pre.tw5915181514357443041 : True := trivial
theorem pre.tw15552298541256452641 : True := trivial
theorem pre.tw15577061551490466234 : True := trivial
theorem pre.tw15416329323232597108 : True := trivial
theorem pre.tw8406826420958275948 : True := trivial
theorem pre.tw6232320607302061507 : True := trivial
theorem pre.tw4866971608788673576 : True := trivial
theorem pre.tw16830677165564596964 : True := trivial
theorem pre.tw2432886682013690578 : True := trivial
theorem pre.tw2572576715449792082 : True := trivial
theorem pre.tw698346005061455353 : True := trivial
theorem pre.tw6204301905142194262 : True := trivial
theorem pre.tw11685840815794455723 : True := trivial
theorem pre.tw2302775849342015749 : True := trivial
theorem pre.tw4579400933631224890 : True := trivial
theorem pre.tw5141576093561083736 : True := trivial
theorem pre.tw6327315350404671063 : True := trivial
theorem pre.tw9293138973955870494 : True := trivial
theorem pre.tw14504531411983417640 : True := trivial
theorem pre.tw11477163547676270809 : True := trivial
theorem pre.tw6846343938879960342 : True := trivial
theorem pre.tw4592789736104886690 : True := trivial
theorem pre.tw16520217711010471092 : True := trivial
theorem pre.tw6468908739991884073 : True := trivial
theorem pre.tw1936523389482728524 : True := trivial
theorem pre.tw4936351757903562790 : True := trivial
theorem pre.tw7404310320488361791 : True := trivial
theorem pre.tw7466802901070070636 : True := trivial
theorem pre.tw17670664521834963977 : True := trivial
theorem pre.tw13155615532978356968 : True := trivial
theorem pre.tw18236140840165549141 : True := trivial
theorem pre.tw10281252085104320626 : True := trivial
theorem pre.tw17951621792752003255 : True := trivial
theorem pre.tw9966088280660723746 : True := trivial
theorem pre.tw9354241043653843321 : True := trivial
theorem pre.tw5602671513192827635 : True := trivial
theorem pre.tw4144508531414183275 : True := trivial
theorem pre.tw3097859360267383691 : True := trivial
theorem pre.tw2346428165239446087 : True := trivial
theorem pre.tw11422953727881016366 : True := trivial
theorem pre.tw10556904025073309525 : True := trivial
theorem pre.tw6926492576228361084 : True := trivial
theorem pre.tw512931023691214685 : True := trivial
theorem pre.tw2834345416658533467 : True := trivial
theorem pre.tw1083846401382969032 : True := trivial
theorem pre.tw13798339373520121222 : True := trivial
theorem pre.tw8220757499984453353 : True := trivial
theorem pre.tw10895488247777486873 : True := trivial
theorem pre.tw9096124338845024626 : True := trivial
theorem pre.tw9664352578001530638 : True := trivial
theorem pre.tw16058929423575460821 : True := trivial
theorem pre.tw246745258367748990 : True := trivial
theorem pre.tw3075770761106440465 : True := trivial
theorem pre.tw2165444987737528205 : True := trivial
theorem pre.tw3583441638673829862 : True := trivial
theorem pre.tw5916611623707148302 : True := trivial
theorem pre.tw12465533948053986477 : True := trivial
theorem pre.tw1961266365660868435 : True := trivial
theorem pre.tw7964398728579978746 : True := trivial
theorem pre.tw16268650808249262707 : True := trivial
theorem pre.tw18334436613972320873 : True := trivial
theorem pre.tw15066266818389169133 : True := trivial
theorem pre.tw6027166026388233240 : True := trivial
theorem pre.tw17434239335780912936 : True := trivial
theorem pre.tw5559670671026103597 : True := trivial
theorem pre.tw10006983352648288001 : True := trivial
theorem pre.tw14114672765552503122 : True := trivial
theorem pre.tw4886116117891900527 : True := trivial
theorem pre.tw8646183201884414562 : True := trivial
theorem pre.tw2924357142288256476 : True := trivial
theorem pre.tw15042315596094944778 : True := trivial
theorem pre.tw5568758830717608373 : True := trivial
theorem pre.tw9248483282066975539 : True := trivial
theorem pre.tw14628187420673343983 : True := trivial
theorem pre.tw13676013984246606415 : True := trivial
theorem pre.tw578446559104950318 : True := trivial
theorem pre.tw5185967812794802750 : True := trivial
theorem pre.tw6907033906714537426 : True := trivial
theorem pre.tw17844419999514078010 : True := trivial
theorem pre.tw12455990067847257688 : True := trivial
theorem pre.tw12354323748567133018 : True := trivial
theorem pre.tw1047120459358279703 : True := trivial
theorem pre.tw9571515539528028750 : True := trivial
theorem pre.tw6756400117972860631 : True := trivial
theorem pre.tw15123789955226152525 : True := trivial
theorem pre.tw2968953917466835636 : True := trivial
theorem pre.tw10476441753547339612 : True := trivial
theorem pre.tw7559264692432220869 : True := trivial
theorem pre.tw3841362995048172961 : True := trivial
theorem pre.tw2570518636118495876 : True := trivial
theorem pre.tw7564766255729297416 : True := trivial
theorem pre.tw11389374557681466464 : True := trivial
theorem pre.tw17070133332105845622 : True := trivial
theorem pre.tw8351358002074471861 : True := trivial
theorem pre.tw15353535704898639103 : True := trivial
theorem pre.tw9018989078215470512 : True := trivial
theorem pre.tw11967863500246565877 : True := trivial
theorem pre.tw11632232044515301145 : True := trivial
theorem pre.tw18151825547678234113 : True := trivial
theorem pre.tw9948208398504503780 : True := trivial
theorem pre.tw3331293935044646375 : True := trivial
theorem pre.tw13344253833810582256 : True := trivial
theorem pre.tw4351630123409058234 : True := trivial
theorem pre.tw14177746915815934671 : True := trivial
theorem pre.tw17747810498848355795 : True := trivial
theorem pre.tw7264331424420516383 : True := trivial
theorem pre.tw11701290255382674204 : True := trivial
theorem pre.tw5155193400670720939 : True := trivial
theorem pre.tw1385352955633275780 : True := trivial
theorem pre.tw2749649739559614557 : True := trivial
theorem pre.tw10657489962057554541 : True := trivial
theorem pre.tw6056267583559489792 : True := trivial
theorem pre.tw7615275554976931207 : True := trivial
theorem pre.tw12723660185843396471 : True := trivial
theorem whole.tw15965162280165559643 : True := trivial
theorem whole.tw17692944630003236201 : True := trivial
theorem whole.tw5671774944652516210 : True := trivial
theorem whole.tw6056267583559489792 : True := trivial
theorem whole.tw1470681187219097129 : True := trivial
theorem whole.tw10401040496497917961 : True := trivial
theorem whole.tw12670010157029629111 : True := trivial
theorem whole.tw14011127081917711036 : True := trivial
theorem whole.tw10001787076262389162 : True := trivial
theorem whole.tw12620085312636432453 : True := trivial
theorem whole.tw17881794589497109145 : True := trivial
theorem whole.tw437534634077163847 : True := trivial
theorem whole.tw12928932934922122878 : True := trivial
theorem whole.tw7963888552797474990 : True := trivial
theorem whole.tw5360207378560713126 : True := trivial
theorem whole.tw1172384435287097005 : True := trivial
theorem whole.tw6734874506966982255 : True := trivial
theorem whole.tw12852820008105578649 : True := trivial
theorem whole.tw16896051817165393055 : True := trivial
theorem whole.tw2439357469168130064 : True := trivial
theorem whole.tw12092817750456807627 : True := trivial
theorem whole.tw12920395458479335663 : True := trivial
theorem whole.tw10344827342348678470 : True := trivial
theorem whole.tw8181180424491326830 : True := trivial
theorem whole.tw10301362462094837657 : True := trivial
theorem whole.tw9521756469634577901 : True := trivial
theorem whole.tw14890280090424698046 : True := trivial
theorem whole.tw11792362355297244138 : True := trivial
theorem whole.tw9733464779038806419 : True := trivial
theorem whole.tw10838650209671834137 : True := trivial
theorem whole.tw11423436602419212718 : True := trivial
theorem whole.tw15001587830400145190 : True := trivial
theorem whole.tw3860174431591174066 : True := trivial
theorem whole.tw10000958634945066235 : True := trivial
theorem whole.tw4163455835068889971 : True := trivial
theorem whole.tw5015864234111024480 : True := trivial
theorem whole.tw3166543957339863982 : True := trivial
theorem whole.tw13142167418276237254 : True := trivial
theorem whole.tw1077347074188364252 : True := trivial
theorem whole.tw6888942637506950926 : True := trivial
theorem whole.tw6612613915786651340 : True := trivial
theorem whole.tw9464417701048127947 : True := trivial
theorem whole.tw13974613887430780637 : True := trivial
theorem whole.tw5477020428343274486 : True := trivial
theorem whole.tw6377287985247879410 : True := trivial
theorem whole.tw10339747121181971505 : True := trivial
theorem whole.tw1242133270297695508 : True := trivial
theorem whole.tw7525632177321363660 : True := trivial
theorem whole.tw1699034841665187622 : True := trivial
theorem whole.tw6290923202673413122 : True := trivial
theorem whole.tw7689902935678670512 : True := trivial
theorem whole.tw17179786008130999086 : True := trivial
theorem whole.tw9787344453429475573 : True := trivial
theorem whole.tw14654356449610600485 : True := trivial
theorem whole.tw6266228650988000492 : True := trivial
theorem whole.tw17463027529269885953 : True := trivial
theorem whole.tw2013318861076662011 : True := trivial
theorem whole.tw12117460353608821864 : True := trivial
theorem whole.tw18419535431094276187 : True := trivial
theorem whole.tw10590843552420965350 : True := trivial
theorem whole.tw16316554137538487329 : True := trivial
theorem whole.tw203428145850139289 : True := trivial
theorem whole.tw15089273742334493110 : True := trivial
theorem whole.tw15652777202477211125 : True := trivial
theorem whole.tw9654072969724333583 : True := trivial
theorem whole.tw1902754551582867561 : True := trivial
theorem whole.tw10025635815308576066 : True := trivial
theorem whole.tw4918820536221260690 : True := trivial
theorem whole.tw12808456870637180559 : True := trivial
theorem whole.tw6772379921613518395 : True := trivial
theorem whole.tw254780913952180833 : True := trivial
theorem whole.tw7509650053966640704 : True := trivial
theorem whole.tw6525215580464160042 : True := trivial
theorem whole.tw8799044985600393684 : True := trivial
theorem whole.tw397210227534267232 : True := trivial
theorem whole.tw13334927893685096626 : True := trivial
theorem whole.tw4487652198498899664 : True := trivial
theorem whole.tw8615399842404961663 : True := trivial
theorem whole.tw6866068747796929802 : True := trivial
theorem whole.tw11401351377558187561 : True := trivial
theorem whole.tw11116944545036436439 : True := trivial
theorem whole.tw14138553856905868755 : True := trivial
theorem whole.tw8868806382682364411 : True := trivial
theorem whole.tw14661705875561194100 : True := trivial
theorem whole.tw4234479992401935053 : True := trivial
theorem whole.tw3798757254938238448 : True := trivial
theorem whole.tw14916202748087371944 : True := trivial
theorem whole.tw5833760311655045577 : True := trivial
theorem whole.tw113900542113845248 : True := trivial
theorem whole.tw2081632904089052959 : True := trivial
theorem whole.tw16738726308800667447 : True := trivial
theorem whole.tw17075553230084287909 : True := trivial
theorem whole.tw5408107943391738 : True := trivial
theorem whole.tw7185185305316088854 : True := trivial
theorem whole.tw978456291528864041 : True := trivial
theorem whole.tw11836910150536664915 : True := trivial
theorem whole.tw13000713063990318526 : True := trivial
theorem whole.tw4447922135398794285 : True := trivial
theorem whole.tw7576292583959916747 : True := trivial
theorem whole.tw13730376311393935369 : True := trivial
theorem whole.tw16616245412964173377 : True := trivial
theorem whole.tw2290268214366725154 : True := trivial
theorem whole.tw1587768003098754325 : True := trivial
theorem whole.tw11952309323241053379 : True := trivial
theorem whole.tw6496092161831514541 : True := trivial
theorem whole.tw3479739002732855021 : True := trivial
theorem whole.tw15103685750691789098 : True := trivial
theorem whole.tw14381574177426341226 : True := trivial
theorem whole.tw9838295914634562783 : True := trivial
theorem whole.tw9406530864695525851 : True := trivial
theorem whole.tw8444963059077079450 : True := trivial
theorem whole.tw17870853324313594786 : True := trivial
theorem whole.tw7868544009499267292 : True := trivial
theorem whole.tw10472183733418339316 : True := trivial
theorem whole.tw9775085227918541326 : True := trivial
theorem whole.tw9501391760213346845 : True := trivial
theorem whole.tw9046693723037758376 : True := trivial
theorem whole.tw2912573282932879776 : True := trivial
theorem whole.tw8719548228035378133 : True := trivial
theorem whole.tw17843127513448600897 : True := trivial
theorem whole.tw14492196311604417308 : True := trivial
theorem whole.tw10332575325313852403 : True := trivial
theorem whole.tw4909349585908861296 : True := trivial
theorem whole.tw11384259339768038936 : True := trivial
theorem whole.tw9664352578001530638 : True := trivial
theorem whole.tw842793390314483620 : True := trivial
theorem whole.tw7564407027854533171 : True := trivial
theorem whole.tw3945383572190744343 : True := trivial
theorem whole.tw5405151241437436114 : True := trivial
theorem whole.tw13463558215457259582 : True := trivial
theorem whole.tw3802398583823018356 : True := trivial
theorem whole.tw4162360135600614074 : True := trivial
theorem whole.tw1182916100746360932 : True := trivial
theorem whole.tw5649241889958590350 : True := trivial
theorem whole.tw13285438998962464343 : True := trivial
theorem whole.tw18174217711786252908 : True := trivial
theorem whole.tw5277582801102665213 : True := trivial
theorem whole.tw11678933692714762019 : True := trivial
theorem whole.tw10488504414272976643 : True := trivial
theorem whole.tw1329479340354266572 : True := trivial
theorem whole.tw15401142651479110994 : True := trivial
theorem whole.tw10335108021726791369 : True := trivial
theorem whole.tw18135788421098096370 : True := trivial
theorem whole.tw14395644662136614805 : True := trivial
theorem whole.tw10887019763833697050 : True := trivial
theorem whole.tw8309436690622926411 : True := trivial
theorem whole.tw2781955308351554444 : True := trivial
theorem whole.tw10144505478992762587 : True := trivial
theorem whole.tw4772658413541480157 : True := trivial
theorem whole.tw4672207989499910625 : True := trivial
theorem whole.tw3162365515331879682 : True := trivial
theorem whole.tw5233578499609466721 : True := trivial
theorem whole.tw6891315699540082446 : True := trivial
theorem whole.tw18162983195158539490 : True := trivial
theorem whole.tw4180466227808675834 : True := trivial
theorem whole.tw6097748072631727781 : True := trivial
theorem whole.tw15695161780090201225 : True := trivial
theorem whole.tw9347626172496877827 : True := trivial
theorem whole.tw7056001396292377188 : True := trivial
theorem whole.tw17781206938751360472 : True := trivial
theorem whole.tw6150244297128479101 : True := trivial
theorem whole.tw6774775609766916077 : True := trivial
theorem whole.tw10178181129370835086 : True := trivial
theorem whole.tw4605417425148642151 : True := trivial
theorem whole.tw7466904020207815869 : True := trivial
theorem whole.tw10007520593648235073 : True := trivial
theorem whole.tw14239292526413980002 : True := trivial
theorem whole.tw17092094596097150618 : True := trivial
theorem whole.tw1859146779660683823 : True := trivial
theorem whole.tw9235561108164731721 : True := trivial
theorem whole.tw4357746044423742650 : True := trivial
theorem whole.tw10354518954362131899 : True := trivial
theorem whole.tw12850242359631670003 : True := trivial
theorem whole.tw14031613983174702221 : True := trivial
theorem whole.tw7101197657001211085 : True := trivial
theorem whole.tw3687826684616867901 : True := trivial
theorem whole.tw10118140284582671090 : True := trivial
theorem whole.tw1640677438868554593 : True := trivial
theorem whole.tw5081031077709457048 : True := trivial
theorem whole.tw17195952149560314771 : True := trivial
theorem whole.tw12967805889597932581 : True := trivial
theorem whole.tw13760198194640045919 : True := trivial
theorem whole.tw10438997657263567297 : True := trivial
theorem whole.tw43722865635132848 : True := trivial
theorem whole.tw9315315907157715723 : True := trivial
theorem whole.tw16529046165737248422 : True := trivial
theorem whole.tw17395194986337826024 : True := trivial
theorem whole.tw5438831827131416888 : True := trivial
theorem whole.tw10499325594661192776 : True := trivial
theorem whole.tw16845944245580146995 : True := trivial
theorem whole.tw1021466310418864216 : True := trivial
theorem whole.tw16668768811381343612 : True := trivial
theorem whole.tw2649048575011448004 : True := trivial
theorem whole.tw6356627984389668255 : True := trivial
theorem whole.tw8109663874093803249 : True := trivial
theorem whole.tw1393339623888494026 : True := trivial
theorem whole.tw7856580471358416282 : True := trivial
theorem whole.tw14192229110069238088 : True := trivial
theorem whole.tw14671651394210877623 : True := trivial
theorem whole.tw2665807779830099079 : True := trivial
theorem whole.tw5938623499991607928 : True := trivial
theorem whole.tw8884531897199943920 : True := trivial
theorem whole.tw1633898876240874773 : True := trivial
theorem whole.tw2168223474955763204 : True := trivial
theorem whole.tw15274856360797078626 : True := trivial
theorem whole.tw6933715213461094250 : True := trivial
theorem whole.tw18060336119277286115 : True := trivial
theorem whole.tw5001923725869043736 : True := trivial
theorem whole.tw3869719713472690019 : True := trivial
theorem whole.tw11690859581915506653 : True := trivial
theorem whole.tw6095937858554715304 : True := trivial
theorem whole.tw12442016628978143412 : True := trivial
theorem whole.tw6065093676875020208 : True := trivial
theorem whole.tw5942346508108547180 : True := trivial
theorem whole.tw13962616709173656972 : True := trivial
theorem whole.tw14857529406646634625 : True := trivial
theorem whole.tw11018331769982298155 : True := trivial
theorem whole.tw9722750020625992282 : True := trivial
theorem whole.tw8894826161267586577 : True := trivial
theorem whole.tw8983667203327932493 : True := trivial
theorem whole.tw2349701861695252166 : True := trivial
theorem whole.tw6711224856247384401 : True := trivial
theorem whole.tw17529894129228449367 : True := trivial
theorem whole.tw4603890583814415204 : True := trivial
theorem whole.tw4479364801722962140 : True := trivial
theorem whole.tw17169624498616045403 : True := trivial
theorem whole.tw5879479702872096659 : True := trivial
theorem whole.tw12098860561503762481 : True := trivial
section
open PySem PySem.W PyProof.Rows PySem.Calls
theorem pre_told {a : Nat} (_ : PySem.Challenge.rw_on0004_01.Holds) : (a = a + 0) = True := eq_true rfl
set_option maxRecDepth 100000 in
set_option maxHeartbeats 8000000 in
set_option Elab.async true in
theorem pre : ∀ a : Nat, a = a + 0 ∨ True := by
  intro a
  simp (disch := (k_dflt (w_on; o_law; k_head))) only [pre_told, or_true]
end
section
open PySem PySem.W PyProof.Rows
theorem mul_ok_small {x y : Int} (h0 : 0 ≤ x) (h1 : x < 2147483648) : IntMulOk x y :=
  IntMulOk.of_left (intBits_le_64 (by omega) (by omega))
theorem fm_lo {x k : Int} (h : 0 < k) : 0 ≤ x.fmod k := Int.fmod_nonneg_of_pos x h
theorem fm_hi {x k : Int} (h : 0 < k) : x.fmod k < k := Int.fmod_lt_of_pos x h
theorem fm_hi' {x k c : Int} (h : 0 < k) (hc : k ≤ c) : x.fmod k < c := Int.lt_of_lt_of_le (Int.fmod_lt_of_pos x h) hc
section
end
end
section
open PySem PySem.W PyProof.Rows PySem.Calls
set_option maxRecDepth 100000
open Sem (wp)
abbrev excObj (C t : Addr) (dd : Option Addr) : Obj := { cls := .ref C, dict := dd, data := .fields #[.ref t, .none, .none, .none, .bool false, .none] }
abbrev tupO (vs : List Value) : Obj := { cls := .type "tuple", data := .seq vs.toArray }
section
variable {prog : Program} {w : World} {A : Around} {E : Value → Shared → Prop} {h : Heap} {g : Array GenState} {d : Drawn} {t : Nat} {os : OsState}
variable {nm q : Str} {C N : Addr} {bs bm bmB : List Value} {hdct : Bool} {sn : List Str} {sub : List Value} {ab : Bool} {col : Option Bool} {dd : Option Addr} {k0 k1 k2 k3 k5 : Option Value} {B newId initId : String}
theorem xm_check_new {M : Model} (F : ExcBaseFacts B newId initId bmB) (hB : bm.contains (.type B) = true) {rest : List Value} {Q : Unit → Shared → Prop} (hC : h.get? C = some (excClassObj nm q C N bs bm hdct sn sub ab col dd k0 k1 k2 k3 k5 newId))
    (hq : Q () ⟨h, g, d, t, os⟩) : wpAny M A (checkBuiltinCall newId ⟨.ref C :: rest, []⟩) Q E ⟨h, g, d, t, os⟩ := by
  have hcont : (Value.ref C :: bm).contains (.type B) = true := by rw [List.contains_cons, hB, Bool.or_true]
  have hstar := F.noStar
  simp only [checkBuiltinCall, F.newKind, F.newSplit, F.newRow]
  repeat (first | refine wpAny_loadPart_at hC ?_ | (refine wpAny_isSubtype_exc hC ?_; rw [hcont]) | refine wpAny_staticBase_exc hC ?_ | refine wpAny_madeBy_exc hC ?_ | simp only [bne_self_eq_false, Bool.false_eq_true, if_false] | wp_step)
  exact hq
theorem xm_new {R : Result → Shared → Prop} (F : ExcBaseFacts B newId initId bmB) (hB : bm.contains (.type B) = true) (hA : bm.contains (.type "AttributeError") = false) (hN : bm.contains (.type "NameError") = false) {rest : List Value}
    (hC : h.get? C = some (excClassObj nm q C N bs bm hdct sn sub ab col dd k0 k1 k2 k3 k5 newId))
    (hq : R (.ok (.ret (.ref (h.objs.size + 1)))) ⟨(h.push (tupO rest)).push (excObj C h.objs.size none), g, d, t, os⟩) (hrest : rest.length ≤ sizeLine := by size_fits) :
    codeAny (model prog w) A (.builtin newId ⟨.ref C :: rest, []⟩) R ⟨h, g, d, t, os⟩ := by
  have hends := F.ends
  have hcB : (Value.ref C :: bm).contains (.type B) = true := by rw [List.contains_cons, hB, Bool.or_true]
  have hcA : (Value.ref C :: bm).contains (.type "AttributeError") = false := by rw [List.contains_cons, hA]; rfl
  have hcN : (Value.ref C :: bm).contains (.type "NameError") = false := by rw [List.contains_cons, hN]; rfl
  refine codeAny_builtinAt F.entry ?_
  unfold Builtin.«BaseException.__new__»
  refine PySem.wpAt_bind ?_
  show PySem.wpAt _ _ _ (stack >>= _) _ _ _
  refine PySem.wpAt_bind (PySem.wpAt_stack fun p below => PySem.wpAt_of_wpAny ?_)
  wp_walk
  refine PySem.wpAt_of_wpAny ?_
  rw [F.owner]
  repeat (first | with_reducible refine wpAny_madeHere_exc F.canon hC ?_ | with_reducible refine wpAny_loadPart_at hC ?_ | (with_reducible refine wpAny_isSubtype_exc hC ?_; first | rw [hcB] | rw [hcA] | rw [hcN]) | wp_step)
  show R _ _
  rw [Heap.size_push]
  exact hq
theorem xm_type_call (F : ExcBaseFacts B newId initId bmB) (hB : bm.contains (.type B) = true) (hA : bm.contains (.type "AttributeError") = false) (hN : bm.contains (.type "NameError") = false) {rest : List Value} {fI : Addr} {Q : Fin → Shared → Prop}
    (hC : h.get? C = some (excClassObj nm q C N bs bm hdct sn sub ab col dd k0 k1 k2 k3 k5 newId)) (hi : Looks (model prog w) h (typeLookup (.ref C) "__init__") (some (.ref fI))) (hf : ∀ self, Looks (model prog w) h (bindSpecial (.ref fI) self) (.ref fI, [self]))
    (hq : wpAny (model prog w) A (call (.ref fI) (.ref (h.objs.size + 1) :: rest)) (fun r s' => r = .none ∧ Q (.done (.ret (.ref (h.objs.size + 1)))) s') E ⟨(h.push (tupO rest)).push (excObj C h.objs.size none), g, d, t, os⟩) (hrest : rest.length ≤ sizeLine := by size_fits) :
    wpAny (model prog w) A (Builtin.«type.__call__» ⟨.ref C :: rest, []⟩) Q E ⟨h, g, d, t, os⟩ := by
  repeat (first | with_reducible refine wpAny_loadPart_at hC ?_ | with_reducible refine wpAny_madeBy_exc hC ?_ | wp_step)
  refine codeAny_call_builtin_code (Code.quiet_builtin _ F.quiet) (xm_check_new F hB hC ?_)
  refine xm_new F hB hA hN hC ?_ hrest
  show wpAny _ _ _ _ _ _
  have k : ∀ b o, h.get? b = some o → ((h.push (tupO rest)).push (excObj C h.objs.size none)).get? b = some o := fun b o e => Heap.get?_push_of_some _ (Heap.get?_push_of_some _ e)
  have hC₁ := k _ _ hC
  have hget : ((h.push (tupO rest)).push (excObj C h.objs.size none)).get? (h.objs.size + 1) = some (excObj C h.objs.size none) := by heap_get
  have hcC : (Value.ref C :: bm).contains (.ref C) = true := by simp
  unfold isInstance
  repeat (first | with_reducible refine wpAny_loadPart_at hget ?_ | (with_reducible refine wpAny_isSubtype_exc hC₁ ?_; rw [hcC]) | wp_step)
  show wpAny _ _ (typeLookup (.ref C) _) _ _ _
  refine (hi.keeps k).here ?_
  refine wpAny_holding (wpAny_bind ?_)
  refine ((hf _).keeps k).here ?_
  refine wpAny_bind (wpAny_mono hq (fun r s' hr => ?_) fun _ _ x => x)
  obtain ⟨rfl, hQ⟩ := hr
  wp_walk
  exact hQ
theorem xm_call (F : ExcBaseFacts B newId initId bmB) (hB : bm.contains (.type B) = true) (hA : bm.contains (.type "AttributeError") = false) (hN : bm.contains (.type "NameError") = false) {rest : List Value} {fI : Addr} {Q : Value → Shared → Prop}
    (hC : h.get? C = some (excClassObj nm q C N bs bm hdct sn sub ab col dd k0 k1 k2 k3 k5 newId)) (hi : Looks (model prog w) h (typeLookup (.ref C) "__init__") (some (.ref fI))) (hf : ∀ self, Looks (model prog w) h (bindSpecial (.ref fI) self) (.ref fI, [self]))
    (hq : wpAny (model prog w) (A.under (.builtin "type.__call__" ⟨.ref C :: rest, []⟩)) (call (.ref fI) (.ref (h.objs.size + 1) :: rest)) (fun r s' => r = .none ∧ Q (.ref (h.objs.size + 1)) s') E ⟨(h.push (tupO rest)).push (excObj C h.objs.size none), g, d, t, os⟩) (hrest : rest.length ≤ sizeLine := by size_fits) :
    wpAny (model prog w) A (call (.ref C) rest) Q E ⟨h, g, d, t, os⟩ := by
  have f1 := tc_lookup
  have f2 := tc_bind (.ref C)
  have hT : (⟨h, g, d, t, os⟩ : Shared).TypeIs (.ref C) "type" := ⟨_, hC, rfl⟩
  refine wpAny_call (codeAny_of_tree ?_)
  show wpAny _ _ (callAny (.ref C) _) _ _ _
  repeat (any_goals (first | assumption | with_reducible refine wpAny_loadPart_at hC ?_ | wp_step))
  refine ⟨rfl, ?_⟩
  exact codeAny_call_builtin_at (Code.quiet_builtin _ (by decide +kernel)) entry_typeCall (wpAny_check_type_call_sub hC (xm_type_call (hrest := hrest) F hB hA hN hC hi hf hq))
end
/-- the K form: a call of an exception class of the text's own that has an __init__ of its own -/
theorem exc_call {prog : Program} {w : World} {A : Around} {E : Value → Shared → Prop} {s : Shared} {K : Frag} {C L fI : Addr} {h₀ : Heap} {m : Str → Option Value} {news : List (Addr × Obj)} {Q : Value → Shared → Prop}
    {nm q : Str} {N' : Addr} {bs bm bmB : List Value} {hdct : Bool} {sn : List Str} {sub : List Value} {ab : Bool} {col : Option Bool} {dd : Option Addr} {k0 k1 k2 k3 k5 : Option Value} {B newId initId : String} {rest : List Value}
    (F : Fr h₀ L s.heap m) (X₀ : K.In h₀) (N : News h₀ L s.heap news) (hC : K.lookup C = some (excClassObj nm q C N' bs bm hdct sn sub ab col dd k0 k1 k2 k3 k5 newId))
    (hi : findIn K (.ref C) "__init__" = some (some (.ref fI))) (hf : isFn K (.ref fI) = true)
    (FB : ExcBaseFacts B newId initId bmB) (hB : bm.contains (.type B) = true) (hA : bm.contains (.type "AttributeError") = false) (hN : bm.contains (.type "NameError") = false) (hrest : rest.length ≤ sizeLine)
    (h : ∀ t e h', Fr h₀ L h' m → News h₀ L h' ((e, excObj C t none) :: (t, tupO rest) :: news) → (∀ p ∈ news, p.1 < t) → (∀ p ∈ (t, tupO rest) :: news, p.1 < e) →
      wpAny (model prog w) (A.under (.builtin "type.__call__" ⟨.ref C :: rest, []⟩)) (call (.ref fI) (.ref e :: rest)) (fun r s' => r = .none ∧ Q (.ref e) s') E { s with heap := h' }) :
    wpAny (model prog w) A (call (.ref C) rest) Q E s := by
  obtain ⟨hh, g, d, t, os⟩ := s
  have X := X₀.keeps F.keep
  have N2 := (N.push F (tupO rest)).push (F.push _) (excObj C hh.objs.size none)
  rw [Heap.size_push] at N2
  exact xm_call FB hB hA hN (X _ _ hC) (looks_findIn X hi) (fun self => bind_fn X self (beq_iff_eq.mp hf)) (h hh.objs.size _ _ ((F.push _).push _) N2 (fun p hp => Heap.lt_size (N p hp).1) (fun p hp => by
    rcases List.mem_cons.mp hp with rfl | hp
    · exact Nat.lt_succ_self _
    · exact Nat.lt_succ_of_lt (Heap.lt_size (N p hp).1))) hrest
end
section
open PySem PySem.W PyProof.Rows PySem.Calls
open Builtin Builtin.ObjectAttr Builtin.Getset_descriptor
set_option maxRecDepth 100000
def isRefV : Value → Bool
  | .ref _ => true
  | _ => false
abbrev excTail : List Value := [.type "Exception", .type "BaseException", .type "object"]
theorem refuse_base (self : Value) : refuseLoop self "__setattr__" excTail = pure () := by
  unfold refuseLoop; kernel_rfl
theorem refuse_exc (self : Value) : ∀ {pre : List Value}, pre.all isRefV = true → refuseLoop self "__setattr__" (pre ++ excTail) = pure ()
  | [], _ => refuse_base self
  | .ref c :: r, e => by rw [List.cons_append, refuseLoop_ref]; exact refuse_exc self (by simpa [isRefV] using e)
section
variable {prog : Program} {w : World} {A : Around} {E : Value → Shared → Prop} {s : Shared} {K : Frag} {x C L : Addr} {h₀ : Heap} {m : Str → Option Value} {news : List (Addr × Obj)} {R : Result → Shared → Prop} {cd : ClassData} {pre : List Value}
theorem xs_open {ox : Obj} {od : Option Obj} {name : Str} {tk : Tok} {v : Value} (X : K.In s.heap) (I : PySem.W.InstAt s.heap x ox C od) (hc : clsIn K C = some cd) (hm : cd.mro = pre ++ excTail) (hp : pre.all isRefV = true) (ht : takerIn K C name = some none)
    (h : ∀ b, wpAny (model prog w) A.in1 (storeInOwnDict (.ref x) (.ref C) (.str name tk) name v b)
      (fun fin s' => match fin with | .done f => R (.ok f) s' | .again c' => c'.quiet = true ∧ codeAny (model prog w) A c' R s') (fun e s' => R (.error e) s') s) :
    codeAny (model prog w) A (.call (.builtin "object.__setattr__") ⟨[.ref x, .str name tk, v], []⟩) R s := by
  have SF := PySem.F.store_object
  have ho : cd.mro.contains (.type "object") = true := by rw [hm]; simp
  have ne : cd.mro.isEmpty = false := by rw [hm]; simp
  have sub : Looks (model prog w) s.heap (isInstance (.ref x) (.type "object")) true := I.type.andThen (looks_mroIn X (by unfold mroIn; rw [hc, Option.bind_some, if_neg (by rw [ne]; decide), ho]))
  refine codeAny_call_builtin SF.slot.plain SF.entry (@check_slot (model prog w) _ _ s "object.__setattr__" "object" "__setattr__" (.ref x) [.str name tk, v] [] _ SF.kind SF.split sub (SF.args (.ref x) (.str name tk) v) ?_)
  obtain ⟨attr, ha, hr⟩ := Option.bind_eq_some_iff.mp ht
  have hm' : Looks (model prog w) s.heap (mroOf (.ref C)) cd.mro := (looks_clsIn X hc).andThen .now
  have L3 : Looks (model prog w) s.heap (storeTaker? attr) none := by
    cases attr with
    | none => cases hr; exact .now
    | some a =>
      obtain ⟨b, hb, hb2⟩ := Option.map_eq_some_iff.mp hr
      refine (looks_takesIn X hb).andThen ?_
      cases b <;> first | exact .now | cases hb2
  rw [osa_eq, refuse_eq]
  refine wpAny_bind (wpAny_bind (I.type.here (wpAny_bind (hm'.here ?_))))
  rw [hm, refuse_exc _ hp]
  refine wpAny_pure (wpAny_bind (I.type.here (wpAny_bind ((looks_findIn X ha).here (wpAny_bind (L3.here ?_))))))
  exact h _
/-- a store under a name into a dict of the ledger's -/
theorem store_in {A : Around} {E : Value → Shared → Prop} {dx : Addr} {name : Str} {tk : Tok} {v : Value} {pr po : List (Addr × Obj)} {es : List DictEntry} {n : Nat} {Q : PySem.Fin → Shared → Prop} (F : Fr h₀ L s.heap m) (N : News h₀ L s.heap (pr ++ (dx, dictOf es n) :: po))
    (hl : (getL name es).isSome = true) (h1 : ∀ p ∈ pr, p.1 ≠ dx) (h2 : ∀ p ∈ po, p.1 ≠ dx) (hz : (putL name (PyData.keyHash w.params name) (.str name s.toks) v es).length ≤ 1000)
    (h : ∀ h', Fr h₀ L h' m → News h₀ L h' (pr ++ (dx, dictOf (putL name (PyData.keyHash w.params name) (.str name s.toks) v es) (putN name es n)) :: po) → Q (.done (.ret .none)) { s with heap := h', toks := s.toks + 1 }) :
    wpAny (model prog w) A (storeInDict dx (.str name tk) name v) Q E s := by
  obtain ⟨U1, U2⟩ := news_upd (f := Obj.putName name (PyData.keyHash w.params name) (.str name s.toks) v) F N h1 h2 (putName_dict ..) rfl
  have D := (N _ (List.mem_append_right _ (.head _))).1
  have D' := (U2 _ (List.mem_append_right _ (.head _))).1
  have c : (!es.toArray.any (·.key.isStr name) && es.toArray.any (·.refKey)) = false := by
    rw [← Array.any_toList, ← Array.any_toList]
    unfold getL at hl
    cases q : es.find? (·.key.isStr name) with
    | some en => rw [List.any_eq_true.mpr ⟨en, List.mem_of_find?_eq_some q, List.find?_some q⟩]; rfl
    | none =>
      rw [q] at hl
      cases z : es.any (·.refKey) with
      | true => rw [z] at hl; simp at hl
      | false => rw [Bool.and_false]
  unfold storeInDict newKeyGuard
  refine wpAny_bind (wpAny_pure (wpAny_bind ?_))
  unfold nsSet
  refine wpAny_bind (wpAny_bind (wpAny_askSetting (wpAny_pure (wpAny_bind (wpAny_mkText (wpAny_bind (wpAny_loadPart D ?_)))))))
  dsimp only
  rw [aRefKeyMayBeTheName_at, c]
  refine wpAny_updatePart D ?_
  refine wpAny_bind (wpAny_lookBehind D' (pastItsLine_dict (by rw [List.size_toArray, sizeLine_eq]; omega)) ?_)
  exact wpAny_pure (h _ U1 U2)
theorem osa_exc0 {t : Addr} {name : Str} {tk : Tok} {v : Value} {pr po : List (Addr × Obj)} (F : Fr h₀ L s.heap m) (X : K.In s.heap) (N : News h₀ L s.heap (pr ++ (x, excObj C t none) :: po)) (h1 : ∀ p ∈ pr, p.1 ≠ x) (h2 : ∀ p ∈ po, p.1 ≠ x)
    (hc : clsIn K C = some cd) (hm : cd.mro = pre ++ excTail) (hp : pre.all isRefV = true) (ht : takerIn K C name = some none) (hh : cd.hasDict = true)
    (h : ∀ d h', Fr h₀ L h' m → News h₀ L h' ((d, dictOf [⟨PyData.keyHash w.params name, .str name s.toks, v⟩] 1) :: (pr ++ (x, excObj C t (some d)) :: po)) → (∀ p ∈ pr ++ (x, excObj C t none) :: po, p.1 < d) → R (.ok (.ret .none)) { s with heap := h', toks := s.toks + 1 }) :
    codeAny (model prog w) A (.call (.builtin "object.__setattr__") ⟨[.ref x, .str name tk, v], []⟩) R s := by
  have hx := (N (x, excObj C t none) (by simp)).1
  have I : PySem.W.InstAt s.heap x (excObj C t none) C none := ⟨hx, rfl, rfl, trivial⟩
  refine xs_open X I hc hm hp ht fun b => ?_
  refine wpAny_bind (wpAny_pure (wpAny_bind (wpAny_bind (wpAny_loadPart hx (wpAny_bind ((looks_clsIn X hc).here ?_))))))
  rw [hh]
  obtain ⟨hp', g, dr, tk', os⟩ := s
  have N1 := N.push F (dictOf [] 0)
  have F1 := F.push (dictOf [] 0)
  have hx1 := Heap.get?_push_of_some (dictOf [] 0) hx
  have lt : ∀ p ∈ pr ++ (x, excObj C t none) :: po, p.1 < hp'.objs.size := fun p hp => Heap.lt_size (N p hp).1
  have hxd : x ≠ hp'.objs.size := Nat.ne_of_lt (lt (x, excObj C t none) (List.mem_append_right _ (.head _)))
  obtain ⟨F2, N2⟩ := news_upd (pre := (hp'.objs.size, dictOf [] 0) :: pr) (d := x) (f := fun o => { o with dict := some hp'.objs.size }) (o' := excObj C t (some hp'.objs.size)) F1 (by simpa using N1) (fun p hp => by rcases List.mem_cons.mp hp with rfl | hp; exact fun e => hxd e.symm; exact h1 p hp) h2 rfl rfl
  refine wpAny_bind (wpAny_alloc (wpAny_bind (wpAny_update hx1 ?_)))
  refine wpAny_bind (wpAny_pure (wpAny_pure ?_))
  exact store_in (pr := []) F2 N2 rfl (fun p hp => nomatch hp)
    (fun p hp => by
      rcases List.mem_append.mp hp with q | q
      · exact Nat.ne_of_lt (lt p (List.mem_append_left _ q))
      · rcases List.mem_cons.mp q with rfl | q
        · exact hxd
        · exact Nat.ne_of_lt (lt p (List.mem_append_right _ (.tail _ q)))) (Nat.le_of_ble_eq_true rfl) fun h' F' N' => h _ h' F' N' lt
theorem osa_excN {t dx : Addr} {name : Str} {tk : Tok} {v : Value} {pr po : List (Addr × Obj)} {es : List DictEntry} {n : Nat} (F : Fr h₀ L s.heap m) (N : News h₀ L s.heap (pr ++ (dx, dictOf es n) :: po)) (X : K.In s.heap)
    (hx : s.heap.get? x = some (excObj C t (some dx))) (hc : clsIn K C = some cd) (hm : cd.mro = pre ++ excTail) (hp : pre.all isRefV = true) (ht : takerIn K C name = some none) (hd' : cd.hasDict = true)
    (hl : (getL name es).isSome = true) (h1 : ∀ p ∈ pr, p.1 ≠ dx) (h2 : ∀ p ∈ po, p.1 ≠ dx) (hz : (putL name (PyData.keyHash w.params name) (.str name s.toks) v es).length ≤ 1000)
    (h : ∀ h', Fr h₀ L h' m → News h₀ L h' (pr ++ (dx, dictOf (putL name (PyData.keyHash w.params name) (.str name s.toks) v es) (putN name es n)) :: po) → R (.ok (.ret .none)) { s with heap := h', toks := s.toks + 1 }) :
    codeAny (model prog w) A (.call (.builtin "object.__setattr__") ⟨[.ref x, .str name tk, v], []⟩) R s := by
  have I : PySem.W.InstAt s.heap x (excObj C t (some dx)) C (some (dictOf es n)) := ⟨hx, rfl, rfl, (N _ (List.mem_append_right _ (.head _))).1⟩
  refine xs_open X I hc hm hp ht fun b => ?_
  refine wpAny_bind (wpAny_pure (wpAny_bind (wpAny_bind (wpAny_loadPart hx (wpAny_bind ((looks_clsIn X hc).here ?_))))))
  rw [hd']
  exact wpAny_pure (a := some dx) (store_in F N hl h1 h2 hz h)
/-- the first store into an exception of the text's own: its dict is made -/
theorem set_exc0 {t : Addr} {name : Str} {v : Value} {g : Obj → List (Addr × Obj)} {Q : Unit → Shared → Prop} (F : Fr h₀ L s.heap m) (X₀ : K.In h₀) (N : News h₀ L s.heap news) (U : UpdF x (excObj C t none) news g)
    (hs : findIn K (.ref C) "__setattr__" = some (some (.builtin "object.__setattr__"))) (hc : clsIn K C = some cd) (hm : cd.mro = pre ++ excTail) (hp : pre.all isRefV = true) (ht : takerIn K C name = some none) (hh : cd.hasDict = true)
    (h : ∀ d h', Fr h₀ L h' m → News h₀ L h' ((d, dictOf [⟨PyData.keyHash w.params name, .str name (s.toks + 1), v⟩] 1) :: g (excObj C t (some d))) → (∀ p ∈ news, p.1 < d) → Q () { s with heap := h', toks := s.toks + 2 }) :
    wpAny (model prog w) A (setAttr (.ref x) name v) Q E s := by
  obtain ⟨pr, po, rfl, hg, h1, h2⟩ := U.split
  have hx := (N (x, excObj C t none) (by simp)).1
  have I : PySem.W.InstAt s.heap x (excObj C t none) C none := ⟨hx, rfl, rfl, trivial⟩
  have X := X₀.keeps F.keep
  exact set_plain X I hs (osa_exc0 (s := { s with toks := s.toks + 1 }) F X N h1 h2 hc hm hp ht hh fun d h' F' N' l => h d h' F' (by rw [hg]; exact N') l)
theorem set_excN {t dx : Addr} {name : Str} {v : Value} {es es' : List DictEntry} {n n' : Nat} {news' : List (Addr × Obj)} {Q : Unit → Shared → Prop} (F : Fr h₀ L s.heap m) (X₀ : K.In h₀) (N : News h₀ L s.heap news) (hx : (x, excObj C t (some dx)) ∈ news) (_hd : (dx, dictOf es n) ∈ news) (U : Upd dx (dictOf es n) (dictOf es' n') news news')
    (hs : findIn K (.ref C) "__setattr__" = some (some (.builtin "object.__setattr__"))) (hc : clsIn K C = some cd) (hm : cd.mro = pre ++ excTail) (hp : pre.all isRefV = true) (ht : takerIn K C name = some none) (hh : cd.hasDict = true)
    (hl : (getL name es).isSome = true) (e : (putL name (PyData.keyHash w.params name) (.str name (s.toks + 1)) v es, putN name es n) = (es', n')) (hz : es'.length ≤ 1000)
    (h : ∀ h', Fr h₀ L h' m → News h₀ L h' news' → Q () { s with heap := h', toks := s.toks + 2 }) :
    wpAny (model prog w) A (setAttr (.ref x) name v) Q E s := by
  obtain ⟨pr, po, rfl, rfl, a, b⟩ := U.split
  obtain ⟨e1, e2⟩ := Prod.mk.inj e
  have hd := (N (dx, dictOf es n) (by simp)).1
  have I : PySem.W.InstAt s.heap x (excObj C t (some dx)) C (some (dictOf es n)) := ⟨(N _ hx).1, rfl, rfl, hd⟩
  exact set_plain (X₀.keeps F.keep) I hs (osa_excN (s := { s with toks := s.toks + 1 }) F N (X₀.keeps F.keep) (N _ hx).1 hc hm hp ht hh hl a b (by rw [e1]; exact hz) fun h' F' N' => h h' F' (by rw [e1, e2] at N'; exact N'))
end
end
section
open PySem PySem.W PyProof.Rows PySem.Calls
open Builtin Builtin.ObjectAttr Builtin.Getset_descriptor
set_option maxRecDepth 100000
section
variable {prog : Program} {w : World} {A : Around} {E : Value → Shared → Prop} {s : Shared} {K : Frag} {x C L : Addr} {ox : Obj} {od : Option Obj} {name : Str}
/-- an attribute that the exception itself holds, read -/
theorem get_exc {v : Value} {expr : Bool} {Q : Value → Shared → Prop} (X : K.In s.heap) (I : PySem.W.InstAt s.heap x ox C od) (hga : findIn K (.ref C) "__getattribute__" = some (some (.builtin "BaseException.__getattribute__"))) (hgn : findIn K (.ref C) "__getattr__" = some none)
    (hsub : mroIn K C (.type "BaseException") = some true) (hf : findObj K C od name = some (.value v)) (hh : handedIn v = true) (h : Q v { s with toks := s.toks + 1 }) : wpAny (model prog w) A (getAttr (.ref x) name expr) Q E s := by
  obtain ⟨hp, g, d, t, os⟩ := s
  have L0 := I.type (M := model prog w)
  have L1 := looks_findIn (M := model prog w) X hga
  have L2 := looks_findIn (M := model prog w) X hgn
  have L3 := looks_find (M := model prog w) X I hf
  have LS : Looks (model prog w) hp (isInstance (.ref x) (.type "BaseException")) true := L0.andThen (looks_mroIn X hsub)
  have ne : (onTheHeap (Value.ref C) && Value.builtin "BaseException.__getattribute__" == Value.builtin "object.__getattribute__") = false := by
    rw [show (Value.builtin "BaseException.__getattribute__" == Value.builtin "object.__getattribute__") = false from by decide +kernel, Bool.and_false]
  unfold getAttr getAttrBy
  refine wpAny_bind (wpAny_mkText (wpAny_holding (wpAny_bind (L0.at (wpAny_bind (L1.at ?_))))))
  dsimp only
  rw [ne]
  have hx0 : (expr && onTheHeap (Value.builtin "BaseException.__getattribute__")) = false := by cases expr <;> rfl
  unfold getAttrByItsOwn hookBefore callGetattribute boundAndCalled
  rw [hx0]
  refine wpAny_bind (L2.at ?_)
  refine wpAny_bind ?_
  rw [if_neg Bool.false_ne_true]
  refine wpAny_attempt ?_
  refine wpAny_holding ?_
  rw [PySem.F.attr_Exception.ga.bind (.ref x)]
  refine wpAny_bind (wpAny_pure ?_)
  refine wpAny_call ?_
  refine codeAny_call_builtin PySem.F.attr_Exception.ga.plain PySem.F.entry_bexc_ga (@check_slot (model prog w) _ _ _ "BaseException.__getattribute__" "BaseException" "__getattribute__" (.ref x) [.str name t] [] _ (by decide +kernel) (by decide +kernel) LS (PySem.F.args_bexc_ga _ _) ?_)
  unfold Builtin.«object.__getattribute__»
  refine wpAny_bind (wpAny_pure (wpAny_bind (wpAny_pure (wpAny_bind (L0.at (wpAny_bind (L3.at ?_)))))))
  refine wpAny_pure ?_
  show wpAny _ _ (handedOut v) _ _ _
  rw [handedOut_of hh]; exact wpAny_pure h
end
end
section
open PySem PySem.W PyProof.Rows PySem.Calls
set_option maxRecDepth 100000
section
variable {prog : Program} {w : World} {A : Around} {E : Value → Shared → Prop} {s : Shared} {K : Frag} {x C L : Addr} {h₀ : Heap} {m : Str → Option Value} {news : List (Addr × Obj)}
variable {nm q : Str} {N' : Addr} {bs bm : List Value} {hdct : Bool} {sn : List Str} {sub : List Value} {ab : Bool} {col : Option Bool} {dd : Option Addr} {k0 k1 k2 k3 k5 : Option Value} {newId : String}
/-- Exception.__init__ upon an exception of the text's own -/
theorem exc_init {t : Addr} {rest : List Value} {g : Obj → List (Addr × Obj)} {Q : Value → Shared → Prop} (F : Fr h₀ L s.heap m) (X₀ : K.In h₀) (N : News h₀ L s.heap news) (U : UpdF x (excObj C t none) news g)
    (hK : K.lookup C = some (excClassObj nm q C N' bs bm hdct sn sub ab col dd k0 k1 k2 k3 k5 newId)) (hB : bm.contains (.type "Exception") = true) (hrest : rest.length ≤ sizeLine)
    (h : ∀ t' h', Fr h₀ L h' m → News h₀ L h' ((t', tupO rest) :: g (excObj C t' none)) → (∀ p ∈ news, p.1 < t') → Q .none { s with heap := h' }) :
    wpAny (model prog w) A (call (.builtin "Exception.__init__") (.ref x :: rest)) Q E s := by
  obtain ⟨pr, po, rfl, hg, h1, h2⟩ := U.split
  have hx := (N (x, excObj C t none) (by simp)).1
  have hC := X₀.keeps F.keep _ _ hK
  obtain ⟨hp, gg, dr, tk, os⟩ := s
  have FB := PySem.F.excBase_Exception
  have hcB : (Value.ref C :: bm).contains (.type "Exception") = true := by rw [List.contains_cons, hB, Bool.or_true]
  have hshort := FB.noStar
  have lt : ∀ p ∈ pr ++ (x, excObj C t none) :: po, p.1 < hp.objs.size := fun p hp => Heap.lt_size (N p hp).1
  have F1 := F.push (tupO rest)
  have N1 := N.push F (tupO rest)
  have hxd : x ≠ hp.objs.size := Nat.ne_of_lt (lt (x, excObj C t none) (List.mem_append_right _ (.head _)))
  obtain ⟨F2, N2⟩ := news_upd (pre := (hp.objs.size, tupO rest) :: pr) (d := x) (f := Obj.mapFields (·.setIfInBounds 0 (Value.ref hp.objs.size))) (o' := excObj C hp.objs.size none) F1 (by simpa using N1) (fun p hp => by rcases List.mem_cons.mp hp with rfl | hp; exact fun e => hxd e.symm; exact h1 p hp) h2 rfl rfl
  have fin := h hp.objs.size _ F2 (by rw [hg]; simpa using N2) lt
  refine wpAny_call (codeAny_call_builtin FB.init.plain FB.initEntry ?_)
  simp only [checkBuiltinCall, FB.initKind, FB.initSplit, FB.initRow]
  repeat (first | with_reducible refine wpAny_loadPart_at hx ?_ | with_reducible refine wpAny_loadPart_at hC ?_ | (with_reducible refine wpAny_isSubtype_exc hC ?_; rw [hcB]) | wp_step)
  refine wpAny_onRaise ?_
  rw [show ∀ (a b : String) (n : Nat), Bind.check ⟨.positional, "*", "Exception", .self, [⟨"args", .varPos, false⟩]⟩ a b n (List.map (fun x => x.fst) ({ pos := Value.ref x :: rest } : Args).kw) = pure () from
    fun a b n => check_star_args _ _ _ _ _ _]
  refine wpAny_pure ?_
  wp_walk
  exact fin
end
end
section
open PySem PySem.W PyProof.Rows PySem.Calls
set_option maxRecDepth 100000
abbrev b1 : Array UInt8 := ([117, 110, 108, 111, 99, 107, 32, 111, 102, 32, 117, 110, 108, 111, 99, 107, 101, 100, 32, 109, 117, 116, 101, 120] : List UInt8).toArray
abbrev b2 : Array UInt8 := ([110, 101, 103, 97, 116, 105, 118, 101, 32, 87, 97, 105, 116, 71, 114, 111, 117, 112, 32, 99, 111, 117, 110, 116, 101, 114] : List UInt8).toArray
theorem enc1 (t u : Tok) : Builtin.«str.encode» ⟨[.str (Str.ofString "unlock of unlocked mutex") t, .str (Str.ofString "ascii") u], []⟩ = (mkBytes b1 >>= fun v => ret v) := by kernel_rfl
theorem enc2 (t u : Tok) : Builtin.«str.encode» ⟨[.str (Str.ofString "negative WaitGroup counter") t, .str (Str.ofString "ascii") u], []⟩ = (mkBytes b2 >>= fun v => ret v) := by kernel_rfl
section
variable {prog : Program} {w : World} {A : Around} {E : Value → Shared → Prop} {s : Shared}
theorem enc_method {M : Model} {x : Str} {t : Tok} {pl : Sem Bool} {Q : Value × List Value → Shared → Prop} (h : Q (.builtin "str.encode", [.str x t]) s) : wpAny M A (getMethod (.str x t) "encode" pl) Q E s := by
  with_reducible exact GM.of (.str x t) (typeIs_str _ _ _) PySem.F.slot_str_encode PySem.F.type_str_encode GM.noRef h
theorem enc_call {x : Str} {t u : Tok} {b : Array UInt8} {Q : Value → Shared → Prop} (e : Builtin.«str.encode» ⟨[.str x t, .str (Str.ofString "ascii") u], []⟩ = (mkBytes b >>= fun v => ret v)) (hb : b.size ≤ sizeLine) (h : Q (.bytes b s.toks) { s with toks := s.toks + 1 }) :
    wpAny (model prog w) A (call (.builtin "str.encode") [.str x t, .str (Str.ofString "ascii") u]) Q E s := by
  refine wpAny_call (codeAny_call_builtin PySem.F.slot_str_encode.plain PySem.F.entry_str_encode (PySem.F.slot_str_encode.check _ _ _ _ _ _ _ _ (typeIs_str s x t) (PySem.F.args_str_encode_2 _ _) ?_))
  rw [e]
  exact wpAny_bind (wpAny_mkBytes (hb := hb) (wpAny_pure h))
end
end
section
open PySem PySem.W PyProof.Rows PySem.Calls
set_option maxRecDepth 100000
/-- every object keeps the dict it has -/
def DK (h h' : Heap) : Prop := ∀ b o, h.get? b = some o → ∃ o', h'.get? b = some o' ∧ o'.dict = o.dict
theorem DK.refl (h : Heap) : DK h h := fun _ o e => ⟨o, e, rfl⟩
theorem DK.trans {a b c : Heap} (x : DK a b) (y : DK b c) : DK a c := fun i o e => let ⟨o1, e1, d1⟩ := x i o e; let ⟨o2, e2, d2⟩ := y i o1 e1; ⟨o2, e2, d2.trans d1⟩
/-- a tree whose every run keeps the dicts -/
def Pres {α : Type} (t : Sem α) : Prop := ∀ (M : Model) (Γ : Ctx) (Q : α → Pos → Shared → Prop) (E : Value → Pos → Shared → Prop) (p : Pos) (s : Shared),
  Sem.wp M Γ t Q E p s → Sem.wp M Γ t (fun a p' s' => Q a p' s' ∧ DK s.heap s'.heap) (fun e p' s' => E e p' s' ∧ DK s.heap s'.heap) p s
section
variable {α β : Type}
theorem Pres.pure {a : α} : Pres (Sem.pure a) := fun M Γ Q E p s h => by
  rw [Sem.wp_pure] at h ⊢; exact ⟨h, .refl _⟩
theorem Pres.pure' {a : α} : Pres (Pure.pure a : Sem α) := Pres.pure
theorem Pres.stop {w : String} : Pres (Sem.unsupported w : Sem α) := fun M Γ Q E p s h => by
  rw [Sem.wp_unsupported] at h; exact h.elim
theorem Pres.bind {m : Sem α} {f : α → Sem β} (x : Pres m) (y : ∀ a, Pres (f a)) : Pres (m >>= f) := fun M Γ Q E p s h => by
  rw [Sem.wp_bind'] at h ⊢
  refine Sem.wp_mono M Γ m (fun a p' s' h1 => ?_) (fun e p' s' h1 => h1) p s (x M Γ _ _ p s h)
  exact Sem.wp_mono M Γ (f a) (fun b p2 s2 h2 => ⟨h2.1, h1.2.trans h2.2⟩) (fun e p2 s2 h2 => ⟨h2.1, h1.2.trans h2.2⟩) p' s' (y a M Γ _ _ p' s' h1.1)
theorem Pres.load {a : Addr} : Pres (PySem.load a) := fun M Γ Q E p s h => by
  have h' : Sem.wp M Γ (Sem.load a none Sem.pure) Q E p s := h
  show Sem.wp M Γ (Sem.load a none Sem.pure) _ _ p s
  rw [Sem.wp_load] at h' ⊢
  obtain ⟨o, e, h1⟩ := h'
  rw [Sem.wp_pure] at h1
  exact ⟨o, e, by rw [Sem.wp_pure]; exact ⟨h1, .refl _⟩⟩
theorem Pres.alloc {o : Obj} : Pres (PySem.alloc o) := fun M Γ Q E p s h => by
  have h' : Sem.wp M Γ (Sem.alloc o Sem.pure) Q E p s := h
  show Sem.wp M Γ (Sem.alloc o Sem.pure) _ _ p s
  rw [Sem.wp_alloc, Sem.wp_pure] at h' ⊢
  exact ⟨h', fun b o' e => ⟨o', Heap.get?_push_of_some _ e, rfl⟩⟩
theorem Pres.update {a : Addr} {f : Obj → Obj} (hd : ∀ o, (f o).dict = o.dict) (hf : ∀ o, o.isFreed = false → (f o).isFreed = false) : Pres (PySem.update a f) := fun M Γ Q E p s h => by
  have h' : Sem.wp M Γ (Sem.update a none f Sem.pure) Q E p s := h
  show Sem.wp M Γ (Sem.update a none f Sem.pure) _ _ p s
  rw [Sem.wp_update] at h' ⊢
  obtain ⟨i, h1⟩ := h'
  rw [Sem.wp_pure] at h1
  refine ⟨i, ?_⟩
  rw [Sem.wp_pure]
  refine ⟨h1, fun b o e => ?_⟩
  by_cases hb : b = a
  · subst hb
    exact ⟨f o, Heap.get?_update_self f e (hf o (Heap.get?_some_iff.mp e).2), hd o⟩
  · exact ⟨o, (Heap.get?_update_other _ _ (Ne.symm hb)).trans e, rfl⟩
theorem Pres.stack : Pres PySem.stack := fun M Γ Q E p s h => by
  have h' : Sem.wp M Γ (Sem.stack Sem.pure) Q E p s := h
  show Sem.wp M Γ (Sem.stack Sem.pure) _ _ p s
  rw [Sem.wp_stack, Sem.wp_pure] at h' ⊢
  exact ⟨h', .refl _⟩
theorem Pres.register {a : Addr} : Pres (PySem.register a) := fun M Γ Q E p s h => by
  have h' : Sem.wp M Γ (Sem.register a Sem.pure) Q E p s := h
  rw [Sem.wp_register] at h'; exact h'.elim
theorem Pres.rule {t : String} : Pres (PySem.rule t) := fun M Γ Q E p s h => by
  have h' : Sem.wp M Γ (Sem.rule t Sem.pure) Q E p s := h
  show Sem.wp M Γ (Sem.rule t Sem.pure) _ _ p s
  rw [Sem.wp_rule, Sem.wp_pure] at h' ⊢
  exact ⟨h', .refl _⟩
theorem mf_dict (f : Array Value → Array Value) (o : Obj) : (Obj.mapFields f o).dict = o.dict := by
  obtain ⟨c, d, dt, sl⟩ := o
  cases dt <;> rfl
theorem mf_freed (f : Array Value → Array Value) (o : Obj) (h : o.isFreed = false) : (Obj.mapFields f o).isFreed = false := by
  obtain ⟨c, d, dt, sl⟩ := o
  cases dt <;> first | rfl | exact h
theorem Pres.field {v : Value} {i : Nat} : Pres (PySem.field v i) := by
  unfold PySem.field fieldsOf
  refine Pres.bind ?_ fun a => ?_
  · split
    · refine Pres.bind Pres.load fun a => ?_
      split <;> first | exact Pres.pure' | exact Pres.stop
    · exact Pres.stop
  · split <;> first | exact Pres.pure' | exact Pres.stop
theorem Pres.setField {v x : Value} {i : Nat} : Pres (PySem.setField v i x) := by
  unfold PySem.setField updateField
  split
  · refine Pres.bind Pres.load fun a => ?_
    split
    · split
      · exact Pres.update (fun o => mf_dict _ o) (fun o h => mf_freed _ o h)
      · exact Pres.stop
    · exact Pres.stop
  · exact Pres.stop
theorem Pres.setFlight {e : Value} {f : Option Addr} : Pres (PySem.setFlight e f) := by
  unfold PySem.setFlight
  refine Pres.bind Pres.field fun a => ?_
  split
  · exact Pres.setField
  · exact Pres.pure'
theorem Pres.ite {α : Type} {c : Prop} [Decidable c] {a b : Sem α} (x : Pres a) (y : Pres b) : Pres (if c then a else b) := by split <;> assumption
theorem sl_freed (f : Obj → Array (Option Value)) (o : Obj) (h : o.isFreed = false) : ({ o with slots := f o } : Obj).isFreed = false := by
  obtain ⟨c, d, dt, sl⟩ := o
  cases dt <;> first | rfl | exact h
theorem Pres.behind {env : Env} {outer : List Env} : Pres (behindIsImport env outer) := by
  unfold behindIsImport
  refine Pres.ite Pres.pure' (Pres.ite Pres.pure' (Pres.bind Pres.field fun _ => Pres.pure'))
theorem Pres.kept {env : Env} {b : Bool} {outer : List Env} : Pres (keptBack env b outer) := by
  unfold keptBack underTheClaimsCaller
  split
  · split
    · exact Pres.pure'
    · exact Pres.bind (Pres.bind Pres.stack fun _ => Pres.pure') fun _ => Pres.pure'
  · exact Pres.pure'
theorem Pres.readyFrames : ∀ l : List Env, Pres (PySem.readyFrames l)
  | [] => by unfold PySem.readyFrames; exact Pres.pure'
  | env :: outer => by
    unfold PySem.readyFrames
    split
    · refine Pres.bind Pres.load fun o => ?_
      split
      · exact Pres.pure'
      · exact Pres.bind Pres.behind fun _ => Pres.bind Pres.kept fun _ => Pres.bind (Pres.update (fun _ => rfl) (fun o h => sl_freed (fun _ => _) o h)) fun _ => Pres.readyFrames outer
    · exact Pres.stop
theorem Pres.frameOf {env : Env} : Pres (PySem.frameOf env) := by
  unfold PySem.frameOf frameEnvs
  refine Pres.bind (Pres.bind Pres.stack fun _ => Pres.pure') fun l => Pres.bind ?_ fun a => ?_
  · unfold frameObject
    split
    · exact Pres.pure'
    · exact Pres.bind (Pres.readyFrames _) fun _ => Pres.pure'
  · split <;> first | exact Pres.pure' | exact Pres.stop
theorem Pres.place {f : Addr} {b : Bool} : Pres (entryPlaceOf f b) := by
  unfold entryPlaceOf
  refine Pres.bind Pres.stack fun l => ?_
  split <;> exact Pres.pure'
theorem Pres.entry {a b c d e : Value} {l : List Value} : Pres (EntryCells.newEntry a b c d e l) := by
  unfold EntryCells.newEntry newFields newObj
  have z : ∀ vs : Array Value, Pres (newObjAsIs (.type "traceback") (.fields vs) none) := fun vs => by
    unfold newObjAsIs; exact Pres.bind Pres.alloc fun _ => Pres.pure'
  exact Pres.ite (Pres.bind Pres.stop fun _ => z _) (z _)
theorem Pres.noteFrame {e : Value} {env : Env} : Pres (PySem.noteFrame e env) := by
  unfold PySem.noteFrame
  split
  · refine Pres.bind Pres.field fun h => ?_
    have last : ∀ h : Value, ∀ f : Addr, Pres (do PySem.setField e 1 (← EntryCells.newEntry h (← PySem.frameOf env) .none (rawInt f) .none (← entryPlaceOf f (h != .none)))) := fun h f =>
      Pres.bind Pres.frameOf fun _ => Pres.bind Pres.place fun _ => Pres.bind Pres.entry fun _ => Pres.setField
    split
    · refine Pres.bind Pres.field fun x => ?_
      split
      · exact Pres.pure'
      · exact Pres.bind Pres.setField fun _ => last _ _
    · exact last _ _
  · exact Pres.stop
theorem Pres.leaving {e : Value} {env : Env} : Pres (PySem.leaving env e) := by
  unfold PySem.leaving
  exact Pres.bind Pres.noteFrame fun _ => Pres.setFlight
theorem wpAny_pres {α : Type} {t : Sem α} (x : Pres t) {M : Model} {A : Around} {Q : α → Shared → Prop} {E : Value → Shared → Prop} {s : Shared} (h : wpAny M A t Q E s) :
    wpAny M A t (fun a s' => Q a s' ∧ DK s.heap s'.heap) (fun e s' => E e s' ∧ DK s.heap s'.heap) s := fun Γ p hΓ => x M Γ _ _ p s (h Γ p hΓ)
end
end
section
open PySem PySem.W PyProof.Rows PySem.Calls
set_option maxRecDepth 100000
/-- what is raised: an exception of the text's own class, held by one dict -/
def RaisD (K : Frag) (E : Value → Shared → Prop) (v : Value) (s₁ : Shared) : Prop :=
  ∃ x C t dd nm q N bs bm hdct sn sub ab col d0 k0 k1 k2 k3 k5 newId, v = .ref x ∧ K.In s₁.heap ∧ K.lookup C = some (excClassObj nm q C N bs bm hdct sn sub ab col d0 k0 k1 k2 k3 k5 newId) ∧ bm.contains (.type "BaseException") = true ∧
    s₁.heap.get? x = some (excObj C t dd) ∧ E (.ref x) s₁
theorem RaisD.intro {K : Frag} {E : Value → Shared → Prop} {s₁ : Shared} {x C t : Addr} {dd : Option Addr} {h₀ : Heap} {L : Addr} {news : List (Addr × Obj)} {nm q : Str} {N : Addr} {bs bm : List Value} {hdct : Bool} {sn : List Str} {sub : List Value} {ab : Bool} {col : Option Bool} {d0 : Option Addr} {k0 k1 k2 k3 k5 : Option Value} {newId : String}
    (X : K.In s₁.heap) (Nw : News h₀ L s₁.heap news) (hm : (x, excObj C t dd) ∈ news) (hK : K.lookup C = some (excClassObj nm q C N bs bm hdct sn sub ab col d0 k0 k1 k2 k3 k5 newId)) (hb : bm.contains (.type "BaseException") = true) (h : E (.ref x) s₁) : RaisD K E (.ref x) s₁ :=
  ⟨x, C, t, dd, nm, q, N, bs, bm, hdct, sn, sub, ab, col, d0, k0, k1, k2, k3, k5, newId, rfl, X, hK, hb, (Nw _ hm).1, h⟩
section
variable {M : Model} {A : Around} {E : Value → Shared → Prop} {s : Shared} {K : Frag} {env : Env}
theorem raise_exc {e : Expr} {pos : Pos} {Q : Flow → Shared → Prop} (_X : K.In s.heap) (hh : A.handled = none)
    (h : wpAny M A (eval e env) (RaisD K E) E s) : wpAny M A (exec (.Raise (some e) none pos) env) Q E s := by
  show wpAny M A (do standAt pos; raiseStmt env (some (do let v ← eval e env; standAt pos; pure v)) none) Q E s
  refine wpAny_bind (wpAny_standAt ?_)
  unfold raiseStmt
  dsimp only
  refine wpAny_bind (wpAny_bind (wpAny_mono h (fun v s₁ h₁ => wpAny_bind (wpAny_standAt (wpAny_pure ?_))) fun _ _ x => x))
  obtain ⟨x, C, t, dd, nm, q, N, bs, bm, hdct, sn, sub, ab, col, d0, k0, k1, k2, k3, k5, newId, rfl, X, hK, hbase, he, hE⟩ := h₁
  have hC := X _ _ hK
  have hcB : (Value.ref C :: bm).contains (.type "BaseException") = true := by rw [List.contains_cons, hbase, Bool.or_true]
  obtain ⟨hp, g, d, tk, os⟩ := s₁
  repeat (first | with_reducible refine wpAny_loadPart_at he ?_ | with_reducible refine wpAny_loadPart_at hC ?_ | (with_reducible refine wpAny_isSubtype_exc hC ?_; rw [hcB]) | wp_step)
  exact wpAny_raiseNew_none hh hE
end

inductive DropE (e : Addr) (o : Obj) : List (Addr × Obj) → List (Addr × Obj) → Prop
  | head {r} : (∀ p ∈ r, p.1 ≠ e) → DropE e o ((e, o) :: r) r
  | tail {p r k} : p.1 ≠ e → DropE e o r k → DropE e o (p :: r) (p :: k)
theorem DropE.facts {e : Addr} {o : Obj} : ∀ {l k : List (Addr × Obj)}, DropE e o l k → (e, o) ∈ l ∧ ∀ p ∈ k, p ∈ l ∧ p.1 ≠ e
  | _, _, .head h => ⟨.head _, fun p hp => ⟨.tail _ hp, h p hp⟩⟩
  | _, _, .tail h r =>
    let ⟨a, b⟩ := r.facts
    ⟨.tail _ a, fun p hp => by
      rcases List.mem_cons.mp hp with rfl | hp
      · exact ⟨.head _, h⟩
      · exact ⟨.tail _ (b p hp).1, (b p hp).2⟩⟩
def DictAt (h : Heap) (e d : Addr) : Prop := ∃ oe, h.get? e = some oe ∧ oe.dict = some d
theorem DictAt.on {h h' : Heap} {e d : Addr} (x : DictAt h e d) (k : DK h h') : DictAt h' e d := let ⟨o, a, b⟩ := x; let ⟨o', a', b'⟩ := k e o a; ⟨o', a', b'.trans b⟩
def FlyD (B : Heap) (l : List Env) (e C d : Addr) (h : Heap) : Prop := (∃ a0, Heap.FlyingW B l e (.ref C) a0 h) ∧ DictAt h e d
def HeldD (B : Heap) (l : List Env) (e C d L : Addr) (h : Heap) : Prop := (∃ a0, Heap.HeldW B l e (.ref C) a0 L h) ∧ DictAt h e d
section
variable {M : Model} {A : Around} {E : Value → Shared → Prop} {s : Shared}
theorem looks_onD {B : Heap} {env : Env} {outer : List Env} {L e C d : Addr} {Q : Unit → Shared → Prop} (hfr : A.frames = some (env :: outer)) (hf : env.frame = some L) (x : FlyD B (env :: outer) e C d s.heap)
    (hQ : ∀ h', HeldD B (env :: outer) e C d L h' → s.heap.UpToSlots h' → Q () { s with heap := h' }) : wpAny M A (noteFrame (.ref e) env) Q E s := by
  obtain ⟨⟨a0, hfl⟩, hd⟩ := x
  refine wpAny_mono (wpAny_pres Pres.noteFrame (wpAny_looks_onW (Q := fun _ s2 => ∃ h', s2 = { s with heap := h' } ∧ Heap.HeldW B (env :: outer) e (.ref C) a0 L h' ∧ s.heap.UpToSlots h') (E := E) hfr hf hfl fun h' a b => ⟨h', rfl, a, b⟩)) (fun _ s2 z => ?_) fun _ _ z => z.1
  obtain ⟨⟨h', rfl, a, b⟩, k⟩ := z
  exact hQ h' ⟨⟨a0, a⟩, hd.on k⟩ b
theorem landsD {B : Heap} {l : List Env} {e C d L : Addr} {Q : Unit → Shared → Prop} (x : HeldD B l e C d L s.heap)
    (hQ : ∀ h', FlyD B l e C d h' → s.heap.UpToSlots h' → Q () { s with heap := h' }) : wpAny M A (setFlight (.ref e) none) Q E s := by
  obtain ⟨⟨a0, hh⟩, hd⟩ := x
  refine wpAny_mono (wpAny_pres Pres.setFlight (wpAny_landsW (Q := fun _ s2 => ∃ h', s2 = { s with heap := h' } ∧ Heap.FlyingW B l e (.ref C) a0 h' ∧ s.heap.UpToSlots h') (E := E) hh fun h' a b => ⟨h', rfl, a, b⟩)) (fun _ s2 z => ?_) fun _ _ z => z.1
  obtain ⟨⟨h', rfl, a, b⟩, k⟩ := z
  exact hQ h' ⟨⟨a0, a⟩, hd.on k⟩ b
theorem againD {B : Heap} {l : List Env} {e C d : Addr} {Q : Unit → Shared → Prop} (x : FlyD B l e C d s.heap)
    (hQ : ∀ h', FlyD B l e C d h' → s.heap.UpToSlots h' → Q () { s with heap := h' }) : wpAny M A (setFlight (.ref e) none) Q E s := by
  obtain ⟨⟨a0, hh⟩, hd⟩ := x
  refine wpAny_mono (wpAny_pres Pres.setFlight (lands_againW (Q := fun _ s2 => ∃ h', s2 = { s with heap := h' } ∧ Heap.FlyingW B l e (.ref C) a0 h' ∧ s.heap.UpToSlots h') (E := E) hh fun h' a b => ⟨h', rfl, a, b⟩)) (fun _ s2 z => ?_) fun _ _ z => z.1
  obtain ⟨⟨h', rfl, a, b⟩, k⟩ := z
  exact hQ h' ⟨⟨a0, a⟩, hd.on k⟩ b
end
section
variable {M : Model} {A : Around} {E : Value → Shared → Prop} {s' : Shared} {base g g₂ : Heap} {outer : List Env} {L a e C d t : Addr} {m : Str → Option Value} {name : Str} {scope : Scope} {cd : Value} {Q : Unit → Shared → Prop} {news keep : List (Addr × Obj)}
end
/-- another own class, no ancestor of the raised one's: the clause does not take it -/
theorem exc_other {M : Model} {A : Around} {E : Value → Shared → Prop} {h : Heap} {g : Array GenState} {d : Drawn} {t : Nat} {os : OsState} {e : Addr} {oe : Obj} {Q : Bool → Shared → Prop}
    {nm q : Str} {C N : Addr} {bs bm : List Value} {hdct : Bool} {sn : List Str} {sub : List Value} {ab : Bool} {col : Option Bool} {dd : Option Addr} {k0 k1 k2 k3 k5 : Option Value} {newId : String}
    {nm' q' : Str} {C' N' : Addr} {bs' bm' : List Value} {hdct' : Bool} {sn' : List Str} {sub' : List Value} {ab' : Bool} {col' : Option Bool} {dd' : Option Addr} {k0' k1' k2' k3' k5' : Option Value} {newId' : String}
    (hC : h.get? C = some (excClassObj nm q C N bs bm hdct sn sub ab col dd k0 k1 k2 k3 k5 newId)) (hC' : h.get? C' = some (excClassObj nm' q' C' N' bs' bm' hdct' sn' sub' ab' col' dd' k0' k1' k2' k3' k5' newId'))
    (he : h.get? e = some oe) (hcls : oe.cls = .ref C) (hbase : bm'.contains (.type "BaseException") = true) (hno : (Value.ref C :: bm).contains (.ref C') = false)
    (hq : Q false ⟨h, g, d, t, os⟩) : wpAny M A (excMatches (.ref e) (.ref C')) Q E ⟨h, g, d, t, os⟩ := by
  have hcB : (Value.ref C' :: bm').contains (.type "BaseException") = true := by rw [List.contains_cons, hbase, Bool.or_true]
  have f := tc_notTuple
  unfold excMatches
  repeat (first | (with_reducible refine wpAny_loadPart_at he ?_; rw [hcls]) | with_reducible refine wpAny_loadPart_at hC' ?_ | (with_reducible refine wpAny_isSubtype_exc hC' ?_; rw [hcB]) | (with_reducible refine wpAny_isSubtype_exc hC ?_; rw [hno]) | wp_step)
  exact hq
section
variable {prog : Program} {w : World} {A₀ : Around} {E : Value → Shared → Prop} {s' : Shared} {h₀ h B : Heap} {outer : List Env} {L a e C d : Addr} {m : Str → Option Value} {name : Str} {scope : Scope} {cd : Value}
  {n : Str} {b₀ : Stmt} {suite : List Stmt} {pos np : Pos} {rest : List ExceptHandler} {Q : Flow → Shared → Prop} {news : List (Addr × Obj)} {KF : Frag}
  {p : Program} {loose : List Str} {mg mb : Str → Option Value} {x : Str}
  {nm q : Str} {N : Addr} {bs bm : List Value} {hdct : Bool} {sn : List Str} {sub : List Value} {ab : Bool} {col : Option Bool} {dd : Option Addr} {k0 k1 k2 k3 k5 : Option Value} {newId : String}
  {nm' q' : Str} {C' N' : Addr} {bs' bm' : List Value} {hdct' : Bool} {sn' : List Str} {sub' : List Value} {ab' : Bool} {col' : Option Bool} {dd' : Option Addr} {k0' k1' k2' k3' k5' : Option Value} {newId' : String}
end
end
section
open PySem PySem.W PyProof.Rows PySem.Calls
set_option maxRecDepth 100000
/-- raised, above frames whose own grounds may differ from the bottom one -/
def RaisedG (base G : Heap) (l : List Env) (e C d : Addr) (news : List (Addr × Obj)) (h : Heap) : Prop :=
  ∃ B, base.StaysIn B ∧ (∀ b o, G.get? b = some o → b ∉ l.filterMap (·.frame) → B.get? b = some o) ∧ (∀ q ∈ news, B.get? q.1 = some q.2 ∧ G.get? q.1 = none ∧ base.get? q.1 = none) ∧ FlyD B l e C d h
theorem memG {env : Env} {L b : Addr} {outer : List Env} (hf : env.frame = some L) (hm : b ∈ (env :: outer).filterMap (·.frame)) : b = L ∨ b ∈ outer.filterMap (·.frame) := by
  rw [List.filterMap_cons, hf] at hm
  rcases List.mem_cons.mp hm with h | h
  · exact .inl h
  · exact .inr h
section
variable {M : Model} {A : Around} {E : Value → Shared → Prop} {s' : Shared} {base g g₂ : Heap} {outer : List Env} {L e C d t : Addr} {m : Str → Option Value} {env : Env} {Q : Unit → Shared → Prop} {news keep : List (Addr × Obj)}
theorem leave_firstG (K : Below A base outer g) (F : Fr g L s'.heap m) (N : News g L s'.heap news) (D : DropE e (excObj C t (some d)) news keep)
    (hQ : ∀ h', RaisedG base g outer e C d keep h' → g.UpToSlots h' → Q () { s' with heap := h' }) (hf : env.frame = some L) (hk : env.scope.kind = .function) :
    wpAny M (A.deeper env) (leaving env (.ref e)) Q E s' := by
  obtain ⟨hm, hkeep⟩ := D.facts
  have K' := pushX K F hf hk
  have ne := N _ hm
  let as := e :: (env :: outer).filterMap (·.frame)
  have hin : ∀ env' ∈ (env :: outer), ∀ b, env'.frame = some b → b ∈ as := fun env' he b hb => .tail _ (List.mem_filterMap.mpr ⟨env', he, hb⟩)
  have st : base.StaysIn (hideAll s'.heap as) := fun b o q => hideAll_get _ (K'.stays b o q) fun hm => by
    rcases List.mem_cons.mp hm with rfl | hm
    · rw [fresh_of_stays K.stays ne.2.2] at q; cases q
    · rw [(K'.frames.mem hm).1] at q; cases q
  have sg : ∀ b o, g.get? b = some o → b ∉ outer.filterMap (·.frame) → (hideAll s'.heap as).get? b = some o := fun b o q nm => hideAll_get _ (F.keep b o q) fun hm => by
    rcases List.mem_cons.mp hm with rfl | hm
    · rw [ne.2.2] at q; cases q
    · rcases memG hf hm with z | z
      · rw [z, kts_self F] at q
        cases q
      · exact nm z
  have hl : ∀ q ∈ keep, (hideAll s'.heap as).get? q.1 = some q.2 ∧ g.get? q.1 = none ∧ base.get? q.1 = none := fun q hq => by
    obtain ⟨hq1, hq2⟩ := hkeep q hq
    refine ⟨hideAll_get _ (N q hq1).1 fun hm => ?_, (N q hq1).2.2, fresh_of_stays K.stays (N q hq1).2.2⟩
    rcases List.mem_cons.mp hm with hm | hm
    · exact hq2 hm
    · rcases memG hf hm with z | z
      · exact (N q hq1).2.1 z
      · obtain ⟨o, ho, _⟩ := (K.frames.mem z).2
        rw [(N q hq1).2.2] at ho; cases ho
  have hen : (hideAll s'.heap as).get? e = none := hideAll_none _ (.head _)
  refine wpAny_mono (wpAny_pres Pres.leaving (wpAny_leaving_firstW (Q := fun _ s2 => ∃ h', s2 = { s' with heap := h' } ∧ Heap.LeftW (hideAll s'.heap as) (env :: outer) e (.ref C) (.ref t) s'.heap h') (E := E)
    K'.stack (funFrames_hide K'.frames hin) hf ne.1 (fun b o q => of_hideAll _ q) hen rfl rfl rfl fun h' hL => ⟨h', rfl, hL⟩)) (fun _ s2 z => ?_) fun _ _ z => z.1
  obtain ⟨⟨h', rfl, k1, ⟨_, _, k2⟩, k3, k4⟩, k⟩ := z
  exact hQ h' ⟨_, st, sg, hl, ⟨_, k1, hen, k2, k3⟩, DictAt.on (h := s'.heap) ⟨_, ne.1, rfl⟩ k⟩ ((Heap.UpToSlots.of_keeps F.keep).trans k4)
theorem leave_onG (K : Below A base outer g) (F : Fr g L g₂ m) (R : RaisedG base g₂ (env :: outer) e C d news s'.heap) (hsm : g₂.UpToSlots s'.heap)
    (hQ : ∀ h', RaisedG base g outer e C d news h' → g.UpToSlots h' → Q () { s' with heap := h' }) (hf : env.frame = some L) :
    wpAny M (A.deeper env) (leaving env (.ref e)) Q E s' := by
  obtain ⟨B, hB, hBG, hl, ⟨a0, hfl⟩, hd⟩ := R
  refine wpAny_mono (wpAny_pres Pres.leaving (wpAny_leaves_onW (Q := fun _ s2 => ∃ h', s2 = { s' with heap := h' } ∧ Heap.FlyingW B outer e (.ref C) a0 h' ∧ s'.heap.UpToSlots h') (E := E) (Around.frames_deeper K.stack) hf hfl fun h' a b => ⟨h', rfl, a, b⟩)) (fun _ s2 z => ?_) fun _ _ z => z.1
  obtain ⟨⟨h', rfl, x1, x2⟩, k⟩ := z
  refine hQ h' ⟨B, hB, fun b o q nm => hBG b o (F.keep b o q) (fun hm => ?_), fun q hq => ⟨(hl q hq).1, kts_none F.keep (hl q hq).2.1, (hl q hq).2.2⟩, ⟨a0, x1⟩, hd.on k⟩ ((Heap.UpToSlots.of_keeps F.keep).trans (hsm.trans x2))
  rcases memG hf hm with z | z
  · rw [z, kts_self F] at q
    cases q
  · exact nm z
end
section
variable {prog : Program} {w : World} {A₀ : Around} {E : Value → Shared → Prop} {s' : Shared} {base g g₀ G : Heap} {outer : List Env} {L a e C d : Addr} {m : Str → Option Value} {name : Str} {scope : Scope} {cd : Value}
  {n : Str} {b₀ : Stmt} {suite : List Stmt} {pos np : Pos} {rest : List ExceptHandler} {Q : Flow → Shared → Prop} {news : List (Addr × Obj)} {KF : Frag}
  {p : Program} {loose : List Str} {mean : ExcName → Option Value} {mg mb : Str → Option Value} {x : Str}
  {nm q : Str} {N : Addr} {bs bm : List Value} {hdct : Bool} {sn : List Str} {sub : List Value} {ab : Bool} {col : Option Bool} {dd : Option Addr} {k0 k1 k2 k3 k5 : Option Value} {newId : String}
  {nm' q' : Str} {C' N' : Addr} {bs' bm' : List Value} {hdct' : Bool} {sn' : List Str} {sub' : List Value} {ab' : Bool} {col' : Option Bool} {dd' : Option Addr} {k0' k1' k2' k3' k5' : Option Value} {newId' : String}
/-- caught in the frame on top, its class not yet asked -/
def CaughtG (base G : Heap) (l : List Env) (L e C d : Addr) (news : List (Addr × Obj)) (h : Heap) : Prop :=
  (∃ B, base.StaysIn B ∧ (∀ b o, G.get? b = some o → b ∉ l.filterMap (·.frame) → B.get? b = some o) ∧ (∀ q ∈ news, B.get? q.1 = some q.2 ∧ G.get? q.1 = none ∧ base.get? q.1 = none) ∧ B.get? L = none ∧ FlyD B l e C d h) ∧ G.UpToSlots h
theorem caughtG {hs : List ExceptHandler} (R : RaisedG base G (envOf name scope L a cd :: outer) e C d news s'.heap) (K : Below A₀ base outer g) (hsm : G.UpToSlots s'.heap)
    (k : ∀ h', CaughtG base G (envOf name scope L a cd :: outer) L e C d news h' →
      wpAny (model prog w) (A₀.deeper (envOf name scope L a cd)) (handleBy (.ref e) (envOf name scope L a cd) hs) Q E { s' with heap := h' }) :
    wpAny (model prog w) (A₀.deeper (envOf name scope L a cd)) (noteFrame (.ref e) (envOf name scope L a cd))
      (fun _ s₂ => wpAny (model prog w) (A₀.deeper (envOf name scope L a cd)) (setFlight (.ref e) none) (fun _ s₃ =>
        wpAny (model prog w) (A₀.deeper (envOf name scope L a cd)) (handleBy (.ref e) (envOf name scope L a cd) hs) Q E s₃) E s₂) E s' := by
  obtain ⟨B, hB, hBG, hl, Y⟩ := R
  have hL : B.get? L = none := by
    obtain ⟨⟨_, hfw⟩, _⟩ := Y
    obtain ⟨_, ⟨L', _, hf, hn', _⟩, _⟩ := hfw.2.2.1
    obtain rfl : L = L' := Option.some.inj hf
    exact hn'
  refine looks_onD (Around.frames_deeper K.stack) rfl Y fun h₄ Y₄ sm₄ => ?_
  refine landsD Y₄ fun h₅ Y₅ sm₅ => ?_
  exact k h₅ ⟨⟨B, hB, hBG, hl, hL, Y₅⟩, hsm.trans (sm₄.trans sm₅)⟩
theorem flyD_stays {B : Heap} {l : List Env} {h : Heap} (Y : FlyD B l e C d h) : B.StaysIn h := by
  obtain ⟨⟨_, hfw⟩, _⟩ := Y
  exact hfw.1
/-- a clause of the raised class's own name -/
theorem matchG (Y : CaughtG base G (envOf name scope L a cd :: outer) L e C d news s'.heap) (F : Fr g L G m) (K : Below A₀ base outer g) (XB : KF.In base) (TB : Top p loose mean mg mb base)
    (D : KtsDicts (outer.filterMap (·.frame)) g) (T0 : KtsTurn (outer.filterMap (·.frame)) g₀ g)
    (ex : nsIn KF mainGlobals x = some (some (.ref C))) (hC : KF.lookup C = some (excClassObj nm q C N bs bm hdct sn sub ab col dd k0 k1 k2 k3 k5 newId)) (hbase : bm.contains (.type "BaseException") = true)
    (k : ∀ h' g' vs sl tk, KtsTurn (outer.filterMap (·.frame)) g₀ g' → Fr g' L h' (fun y => if y = n then some (.ref e) else m y) → News g' L h' ((e, (⟨.ref C, some d, .fields vs, sl⟩ : Obj)) :: news) → Below A₀ base outer g' → KF.In g' → Top p loose mean mg mb g' → KtsDicts (outer.filterMap (·.frame)) g' →
      wpAny (model prog w) ((A₀.deeper (envOf name scope L a cd)).mark (some (.ref e))) (execs (b₀ :: suite) (envOf name scope L a cd))
        (fun f s₄ => wpAny (model prog w) (A₀.deeper (envOf name scope L a cd)) (do bindName (envOf name scope L a cd) n .none; unbindBehindTheSuite (envOf name scope L a cd) n pos) (fun _ s₅ => Q f s₅) E s₄)
        (AsSuiteRaised (model prog w) ((A₀.deeper (envOf name scope L a cd)).mark (some (.ref e))) (envOf name scope L a cd) n pos (notedBy (model prog w) ((A₀.deeper (envOf name scope L a cd)).mark (some (.ref e))) (envOf name scope L a cd) (cameBackBy (model prog w) (A₀.deeper (envOf name scope L a cd)) (envOf name scope L a cd) E)))
        { s' with heap := h', toks := tk })
    (hk : scope.kind = .function) (hlo : (envOf name scope L a cd).kindOf n = some .local) (hx : (envOf name scope L a cd).kindOf x = some .globalImplicit) (hd : (x == ("__debug__" : Str)) = false) :
    wpAny (model prog w) (A₀.deeper (envOf name scope L a cd)) (handleBy (.ref e) (envOf name scope L a cd) (.ExceptHandler (some (.Name x np)) (some n) (b₀ :: suite) pos :: rest)) Q E s' := by
  obtain ⟨⟨B, hB, hBG, hl, hL, Y⟩, hsm⟩ := Y
  obtain ⟨g₅, T₅, F₅, K₅⟩ := kts_ground K F hBG (flyD_stays Y) hsm
  have X₅ : KF.In g₅ := XB.keeps K₅.stays
  have P₅ : TopRead p loose mg mb g₅ := topRead_of (TB.keeps K₅.stays)
  have Y' := Y
  obtain ⟨⟨_, hfw0⟩, _⟩ := Y'
  obtain ⟨ob, hob, hobc⟩ := hfw0.there
  refine wpAny_handleBy_cons (codeAny_handlers_test (name_K F₅ X₅ P₅ ex ?_ hk hx hd)) (by intro q; cases q)
  obtain ⟨hp, gg, dr, tk, os⟩ := s'
  refine wpAny_excMatches_sub_self (F₅.keep _ _ (X₅ _ _ hC)) hob hobc hbase (codeAny_handlers_suite_as ?_)
  refine againD Y fun h₆ Y₆ hsm₆ => ?_
  obtain ⟨g₆, T₆, F₆, K₆⟩ := kts_ground K F hBG (flyD_stays Y₆) (hsm.trans hsm₆)
  obtain ⟨⟨a0, hfw⟩, oe, hoe, hod⟩ := Y₆
  obtain ⟨oe', ws, hoe', hoec, hoed, hoe0⟩ := hfw.first
  rw [hoe] at hoe'
  cases hoe'
  have ne₆ : g₆.get? e = none := T₆.none_ _ (kts_fresh F hBG hfw.2.1 fun o ho m => by
    obtain ⟨_, o', ho', hd⟩ := K.frames.mem m
    rw [ho] at ho'
    cases ho'
    obtain ⟨sl, hs⟩ := (hsm.trans hsm₆) _ _ (F.keep _ _ ho) hd
    rw [hoe] at hs
    cases hs
    exact hd _ hoed)
  obtain ⟨oc, od, odt, osl⟩ := oe
  dsimp only at hod hoec hoed
  subst hod hoec hoed
  have Nl : News g₆ L h₆ news := fun q hq => ⟨hfw.1 _ _ (hl q hq).1, (fun z => by have := (hl q hq).1; rw [z, hL] at this; cases this), T₆.none_ _ (kts_none F.keep (hl q hq).2.1)⟩
  have N₆ := News.more F₆ Nl hoe (fun es n q => by cases q) ne₆
  exact stN F₆ N₆ (fun h₇ F₇ N₇ => k h₇ g₆ _ _ _ (T0.trans T₆) F₇ N₇ K₆ (XB.keeps K₆.stays) (TB.keeps K₆.stays) (D.turn T₆)) hk hlo
/-- a clause of another own class's name -/
theorem passG (Y : CaughtG base G (envOf name scope L a cd :: outer) L e C d news s'.heap) (F : Fr g L G m) (K : Below A₀ base outer g) (XB : KF.In base) (TB : Top p loose mean mg mb base)
    (ex : nsIn KF mainGlobals x = some (some (.ref C'))) (hC : KF.lookup C = some (excClassObj nm q C N bs bm hdct sn sub ab col dd k0 k1 k2 k3 k5 newId))
    (hC' : KF.lookup C' = some (excClassObj nm' q' C' N' bs' bm' hdct' sn' sub' ab' col' dd' k0' k1' k2' k3' k5' newId')) (hbase : bm'.contains (.type "BaseException") = true) (hno : (Value.ref C :: bm).contains (.ref C') = false) {nn : Option Str}
    (k : wpAny (model prog w) (A₀.deeper (envOf name scope L a cd)) (handleBy (.ref e) (envOf name scope L a cd) rest) Q E s')
    (hk : scope.kind = .function) (hx : (envOf name scope L a cd).kindOf x = some .globalImplicit) (hd : (x == ("__debug__" : Str)) = false) :
    wpAny (model prog w) (A₀.deeper (envOf name scope L a cd)) (handleBy (.ref e) (envOf name scope L a cd) (.ExceptHandler (some (.Name x np)) nn (b₀ :: suite) pos :: rest)) Q E s' := by
  obtain ⟨⟨B, hB, hBG, hl, hL, Y⟩, hsm⟩ := Y
  obtain ⟨g₅, T₅, F₅, K₅⟩ := kts_ground K F hBG (flyD_stays Y) hsm
  have X₅ : KF.In g₅ := XB.keeps K₅.stays
  have P₅ : TopRead p loose mg mb g₅ := topRead_of (TB.keeps K₅.stays)
  obtain ⟨⟨_, hfw0⟩, _⟩ := Y
  obtain ⟨ob, hob, hobc⟩ := hfw0.there
  refine wpAny_handleBy_cons (codeAny_handlers_test (name_K F₅ X₅ P₅ ex ?_ hk hx hd)) (by intro q; cases q)
  obtain ⟨hp, gg, dr, tk, os⟩ := s'
  exact exc_other (F₅.keep _ _ (X₅ _ _ hC)) (F₅.keep _ _ (X₅ _ _ hC')) hob hobc hbase hno k
end
end
section
open PySem PySem.W PyProof.Rows PySem.Calls
set_option maxRecDepth 100000
/-- the end of a called def in whose run the frames' slots may have turned -/
def LeaveG (fs : List Addr) (A₀ : Around) (base : Heap) (outer : List Env) (K : Frag) (p : Program) (loose : List Str) (mean : ExcName → Option Value) (mg mb : Str → Option Value) (g₀ : Heap) (L : Addr) (m : Str → Option Value) (g : Heap) (R : Result → Shared → Prop) (v : Value) (s' : Shared) : Prop :=
  ∃ g' L' m' news', KtsTurn fs g g' ∧ Fr g' L' s'.heap m' ∧ News g' L' s'.heap news' ∧ ∀ h₀', KtsTurn (outer.filterMap (·.frame)) g₀ h₀' → Fr h₀' L s'.heap m → News h₀' L s'.heap news' → Below A₀ base outer h₀' → K.In h₀' → Top p loose mean mg mb h₀' →
    KtsDicts (outer.filterMap (·.frame)) h₀' → R (.ok (.ret v)) s'
theorem leaveG_ {fs : List Addr} {A₀ : Around} {base : Heap} {outer : List Env} {K : Frag} {p : Program} {loose : List Str} {mean : ExcName → Option Value} {mg mb : Str → Option Value} {g₀ g g' : Heap} {L L' : Addr} {m m' : Str → Option Value} {news' : List (Addr × Obj)} {R : Result → Shared → Prop} {v : Value} {s' : Shared}
    (F' : Fr g' L' s'.heap m') (N' : News g' L' s'.heap news') (T : KtsTurn fs g g')
    (k : ∀ h₀', KtsTurn (outer.filterMap (·.frame)) g₀ h₀' → Fr h₀' L s'.heap m → News h₀' L s'.heap news' → Below A₀ base outer h₀' → K.In h₀' → Top p loose mean mg mb h₀' → KtsDicts (outer.filterMap (·.frame)) h₀' → R (.ok (.ret v)) s') :
    LeaveG fs A₀ base outer K p loose mean mg mb g₀ L m g R v s' := ⟨g', L', m', news', T, F', N', k⟩
theorem turn_nil {h₀ h₀' h : Heap} {L : Addr} {m : Str → Option Value} {news : List (Addr × Obj)} (T : KtsTurn [] h₀ h₀') (F : Fr h₀' L h m) (N : News h₀' L h news) : Fr h₀ L h m ∧ News h₀ L h news :=
  ⟨⟨F.ns, fun b o e => F.keep b o (T.other b o e (by simp)), by rw [← T.size]; exact F.above⟩, fun p hp => ⟨(N p hp).1, (N p hp).2.1, by
    cases q : h₀.get? p.1 with
    | none => rfl
    | some o => have := (N p hp).2.2; rw [T.other _ _ q (by simp)] at this; cases this⟩⟩
theorem turn_below {A₀ : Around} {base g g' : Heap} {outer : List Env} (B : Below A₀ base outer g) (T : KtsTurn (outer.filterMap (·.frame)) g g') : Below A₀ base outer g' :=
  ⟨B.stack, fun b o e => T.other b o (B.stays b o e) (fun hm => by
    rw [(B.frames.mem hm).1] at e
    cases e), B.frames.of_keeps fun b o e _ => by
    obtain ⟨sl', hs'⟩ := T.up e
    exact ⟨_, hs', rfl⟩⟩
section
variable {prog : Program} {w : World} {A₀ A : Around} {s : Shared} {base h₀ g₀ : Heap} {outer : List Env} {L : Addr} {m : Str → Option Value} {env : Env} {news : List (Addr × Obj)} {K : Frag} {p : Program} {loose : List Str} {mean : ExcName → Option Value} {mg mb : Str → Option Value}
  {R : Result → Shared → Prop} {name qual : Str} {params : Arguments} {body : List Stmt} {scope : Scope} {dV kV doc pm cdv ct oc : Value} {an od : Option Addr} {osl : Array (Option Value)} {f : Addr} {args : Args} {binds : List (Str × Value)}
theorem groundG (B : Below A₀ base outer h₀) (F : Fr h₀ L s.heap m) (X₀ : K.In h₀) (N : News h₀ L s.heap news) (T : Top p loose mean mg mb h₀) (XB : K.In base) (TB : Top p loose mean mg mb base) (D : KtsDicts (outer.filterMap (·.frame)) h₀)
    (T0 : KtsTurn (outer.filterMap (·.frame)) g₀ h₀) (hA : A.frames = some (env :: outer)) (hf : env.frame = some L) (hke : env.scope.kind = .function) :
    ∃ g, g = hideAll s.heap (news.map (·.1)) ∧ Fr h₀ L g m ∧ Below A base (env :: outer) g ∧ h₀.StaysIn g ∧ KtsDicts ((env :: outer).filterMap (·.frame)) g ∧
      ∀ v s', LeaveG ((env :: outer).filterMap (·.frame)) A₀ base outer K p loose mean mg mb g₀ L m g R v s' → R (.ok (.ret v)) s' := by
  obtain ⟨FG, BG, st, _⟩ := groundX (R := R) B F N hA hf hke
  refine ⟨_, rfl, FG, BG, st, ?_, ?_⟩
  · intro b hb
    rcases memG hf hb with rfl | hb
    · obtain ⟨oL, es, ep, hL, hLd, _⟩ := FG.ns
      exact ⟨oL, es, ep, hL, hLd⟩
    · obtain ⟨o, es', n', ho', hd'⟩ := D b hb
      exact ⟨o, es', n', st b o ho', hd'⟩
  · rintro v s' ⟨g', L', m', news', T', F', N', k⟩
    have nL₀ : h₀.get? L = none := kts_self F
    obtain ⟨oL, es, ep, hL, hLd, hLk, hLf⟩ := FG.ns
    obtain ⟨sl, hs⟩ := T'.up hL
    obtain ⟨T₁, S₁⟩ := kts_turn_at (h := s'.heap) (fs := outer.filterMap (·.frame)) (g := h₀)
      (fun b hb => by
        obtain ⟨_, o, ho', _⟩ := B.frames.mem hb
        exact ⟨o, ho'⟩)
      (fun b o e nmem => F'.keep b o (T'.other b o (st b o e) (fun q => by
        rcases memG hf q with z | z
        · rw [z, nL₀] at e
          cases e
        · exact nmem z)))
      (fun b o e hm => by
        obtain ⟨sl', hs'⟩ := T'.up (st b o e)
        exact ⟨sl', F'.keep _ _ hs'⟩)
    have B₃ := turn_below B T₁
    refine k _ (T0.trans T₁) ⟨⟨_, es, ep, F'.keep _ _ hs, hLd, hLk, hLf⟩, S₁, by rw [T₁.size]; exact F.above⟩ (fun p hp => ⟨(N' p hp).1, fun q => ?_, ?_⟩) B₃ (XB.keeps B₃.stays) (TB.keeps B₃.stays) (D.turn T₁)
    · have := (N' p hp).2.2; rw [q, hs] at this; cases this
    · refine T₁.none_ _ ?_
      cases q : h₀.get? p.1 with
      | none => rfl
      | some o =>
        obtain ⟨sl', hs'⟩ := T'.up (st _ _ q)
        have := (N' p hp).2.2
        rw [hs'] at this
        cases this
theorem code_plainG (B : Below A₀ base outer h₀) (F : Fr h₀ L s.heap m) (X₀ : K.In h₀) (N : News h₀ L s.heap news) (T : Top p loose mean mg mb h₀) (XB : K.In base) (TB : Top p loose mean mg mb base) (D : KtsDicts (outer.filterMap (·.frame)) h₀)
    (T0 : KtsTurn (outer.filterMap (·.frame)) g₀ h₀) (hA : A.frames = some (env :: outer)) (hf : env.frame = some L) (hke : env.scope.kind = .function)
    (ho : K.lookup f = some ⟨oc, od, .func (fnOf name qual params body scope dV kV doc pm an cdv ct), osl⟩) (hcd : codeIn K cdv qual = true) (hroom : A.depth < recursionLimit)
    (hbind : BindsTo s (fnOf name qual params body scope dV kV doc pm an cdv ct) args binds) (hloc : ∀ y ∈ binds, scope.names.lookup y.1 = some .local)
    (h : ∀ g L' h₁, Fr h₀ L g m → Fr g L' h₁ (fun y => binds.reverse.lookup y) → News g L' h₁ news → Below A base (env :: outer) g → K.In g → Top p loose mean mg mb g → KtsDicts ((env :: outer).filterMap (·.frame)) g → (∀ p ∈ news, p.1 < L') →
      wpAny (model prog w) (A.deeper (envOf qual scope L' f cdv)) (execs body (envOf qual scope L' f cdv))
        (fun fl s' => LeaveG ((env :: outer).filterMap (·.frame)) A₀ base outer K p loose mean mg mb g₀ L m g R (match fl with | .ret v => v | _ => .none) s')
        (fun e s' => wpAny (model prog w) (A.deeper (envOf qual scope L' f cdv)) (leaving (envOf qual scope L' f cdv) e) (fun _ s'' => R (.error e) s'') (fun e' s'' => R (.error e') s'') s')
        { s with heap := h₁, toks := s.toks + binds.length })
    (hco : scope.isCoroutine = false) (hgen : scope.isGenerator = false) (hk : scope.kind = .function)
    (hcell : ∀ x ∈ scope.names, x.2 ≠ .cell) : codeAny (model prog w) A (.call (.ref f) args) R s := by
  have X := X₀.keeps F.keep
  obtain ⟨g, rfl, FG, BG, st, DG, lv⟩ := groundG (R := R) B F X₀ N T XB TB D T0 hA hf hke
  refine codeAny_call_def (fd := fnOf name qual params body scope dV kV doc pm an cdv ct) (body := body) (binds := binds) hroom (X _ _ ho) rfl (T.nolimit.keeps F.keep) (codeRec_of X hcd) rfl hbind hcell hloc (fun h₁ hns hk₁ => ?_) hco hgen hk
  exact wpAny_mono (h _ s.heap.objs.size h₁ FG ⟨hns, fun b o e => hk₁ b o (of_hideAll _ e), Nat.le_of_eq (hideAll_size _ _)⟩
    (fun p hp => ⟨hk₁ _ _ (N p hp).1, Nat.ne_of_lt (Heap.lt_size (N p hp).1), hideAll_none _ (List.mem_map_of_mem hp)⟩) BG (X₀.keeps st) (T.keeps st) DG (fun p hp => Heap.lt_size (N p hp).1)) (fun fl s' hl => lv _ _ hl) fun _ _ y => y
theorem code_cellsG (B : Below A₀ base outer h₀) (F : Fr h₀ L s.heap m) (X₀ : K.In h₀) (N : News h₀ L s.heap news) (T : Top p loose mean mg mb h₀) (XB : K.In base) (TB : Top p loose mean mg mb base) (D : KtsDicts (outer.filterMap (·.frame)) h₀)
    (T0 : KtsTurn (outer.filterMap (·.frame)) g₀ h₀) (hA : A.frames = some (env :: outer)) (hf : env.frame = some L) (hke : env.scope.kind = .function)
    (ho : K.lookup f = some ⟨oc, od, .func (fnOf name qual params body scope dV kV doc pm an cdv ct), osl⟩) (hcd : codeIn K cdv qual = true) (hroom : A.depth < recursionLimit)
    (hbind : BindsTo s (fnOf name qual params body scope dV kV doc pm an cdv ct) args binds) (hkind : (binds.all fun y => scope.names.lookup y.1 == some .local || scope.names.lookup y.1 == some .cell) = true)
    (hnd : ((cellsFrom 0 scope.names []).map (·.1)).Nodup)
    (h : ∀ g L' h₁ tk cells, Fr h₀ L g m → Fr g L' h₁ (bindL (envOfC qual scope L' f cdv).kindOf binds fun _ => none) → News g L' h₁ (cells ++ news) →
      CellsAre (bindC (envOfC qual scope L' f cdv).kindOf binds fun _ => none) (cellsFrom (L' + 1) scope.names []) cells → Below A base (env :: outer) g → K.In g → Top p loose mean mg mb g → KtsDicts ((env :: outer).filterMap (·.frame)) g → (∀ p ∈ news, p.1 < L') →
      wpAny (model prog w) (A.deeper (envOfC qual scope L' f cdv)) (execs body (envOfC qual scope L' f cdv))
        (fun fl s' => LeaveG ((env :: outer).filterMap (·.frame)) A₀ base outer K p loose mean mg mb g₀ L m g R (match fl with | .ret v => v | _ => .none) s')
        (fun e s' => wpAny (model prog w) (A.deeper (envOfC qual scope L' f cdv)) (leaving (envOfC qual scope L' f cdv) e) (fun _ s'' => R (.error e) s'') (fun e' s'' => R (.error e') s'') s')
        { s with heap := h₁, toks := tk })
    (hco : scope.isCoroutine = false) (hgen : scope.isGenerator = false) (hk : scope.kind = .function) : codeAny (model prog w) A (.call (.ref f) args) R s := by
  have X := X₀.keeps F.keep
  obtain ⟨g, rfl, FG, BG, st, DG, lv⟩ := groundG (R := R) B F X₀ N T XB TB D T0 hA hf hke
  refine codeAny_call_function (fd := fnOf name qual params body scope dV kV doc pm an cdv ct) hroom (X _ _ ho) rfl hco hgen rfl (codeRec_of X hcd) (hbind _ _ _ _ ?_)
  refine wpAny_newFunctionEnv_cells hk (kindsX hkind _) fun env' he s' x => ?_
  subst he
  refine ⟨(T.nolimit.keeps F.keep).keeps x.toInCall.keep, codeAny_func ?_⟩
  obtain ⟨h₁, tk, rfl, _⟩ := x.done
  have hk₁ := x.toInCall.keep
  obtain ⟨cells, NC, Y⟩ := Cl.news (h₀ := s.heap) (Nat.le_refl _) fun n c hm => ⟨x.cell n c (lookup_of_mem_nodup (cellsFrom_names scope.names 0 (s.heap.objs.size + 1) [] [] rfl ▸ hnd) hm), x.above n c hm⟩
  refine wpAny_mono (h _ s.heap.objs.size h₁ tk cells FG ⟨x.toInCall.ns, fun b o e => hk₁ b o (of_hideAll _ e), Nat.le_of_eq (hideAll_size _ _)⟩ (fun p hp => ?_) Y BG (X₀.keeps st) (T.keeps st) DG (fun p hp => Heap.lt_size (N p hp).1)) (fun fl s' hl => lv _ _ hl) fun _ _ y => y
  rcases List.mem_append.mp hp with hp | hp
  · refine ⟨(NC p hp).1, (NC p hp).2.1, ?_⟩
    cases q : (hideAll s.heap (news.map (·.1))).get? p.1 with
    | none => rfl
    | some o => have := of_hideAll _ q; rw [(NC p hp).2.2] at this; cases this
  · exact ⟨hk₁ _ _ (N p hp).1, Nat.ne_of_lt (Heap.lt_size (N p hp).1), hideAll_none _ (List.mem_map_of_mem hp)⟩
end
end
section
open PySem PySem.W PyProof.Rows PySem.Calls
set_option maxRecDepth 100000
section
variable {prog : Program} {w : World} {A : Around} {E : Value → Shared → Prop} {s : Shared} {K : Frag} {x C L d : Addr} {h₀ : Heap} {m : Str → Option Value} {news : List (Addr × Obj)} {name : Str} {vs : Array Value} {sl : Array (Option Value)} {es : List DictEntry} {n : Nat}
theorem get_excN {v : Value} {expr : Bool} {attr : Option Value} {Q : Value → Shared → Prop} (F : Fr h₀ L s.heap m) (X₀ : K.In h₀) (N : News h₀ L s.heap news) (h1 : (x, (⟨.ref C, some d, .fields vs, sl⟩ : Obj)) ∈ news) (h2 : (d, dictOf es n) ∈ news)
    (hga : findIn K (.ref C) "__getattribute__" = some (some (.builtin "BaseException.__getattribute__"))) (hgn : findIn K (.ref C) "__getattr__" = some none)
    (hsub : mroIn K C (.type "BaseException") = some true) (hh : hasDictIn K C = true) (ha : findIn K (.ref C) name = some attr) (hn : noGet K attr = true) (hl : getL name es = some (some v)) (hv : handedIn v = true) (h : Q v { s with toks := s.toks + 1 }) :
    wpAny (model prog w) A (getAttr (.ref x) name expr) Q E s :=
  get_exc (X₀.keeps F.keep) (InstAt.mk (od := some (dictOf es n)) (N _ h1).1 rfl rfl (N _ h2).1) hga hgn hsub (findObj_own hh ha hn hl) hv h
end
end
section
open PySem PySem.W PyProof.Rows PySem.Calls
set_option maxRecDepth 100000
section
variable {prog : Program} {w : World} {A : Around} {E : Value → Shared → Prop} {s : Shared} {h₀ : Heap} {L : Addr} {m : Str → Option Value} {news : List (Addr × Obj)} {x y z : Value} {t sl : Addr} {u : Tok}
theorem applied_two {Q : Int × Int × Nat → Shared → Prop} (hs : s.heap.IsSliceOf sl .none (.int 2 u) .none) (h : Q ((0 : Int), 1, 2) s) :
    wpAny (model prog w) A (Builtin.Slice.sliceApplied (.ref sl) (pure ((3 : Nat) : Int))) Q E s := by
  obtain ⟨os, hos, hcs, hds⟩ := id hs
  unfold Builtin.Slice.sliceApplied Builtin.Slice.sliceFields
  refine wpAny_bind (wpAny_bind (wpAny_field hos hds (x := .none) rfl (wpAny_bind (wpAny_field hos hds (x := .int 2 u) rfl (wpAny_bind (wpAny_field hos hds (x := .none) rfl (wpAny_pure ?_)))))))
  refine wpAny_bind (slicePart_none ?_)
  show wpAny _ _ (if ((1 : Int) == 0) = true then _ else _) _ _ s
  rw [if_neg (by decide)]
  refine wpAny_bind (slicePart_none (wpAny_bind (slicePart_int (wpAny_bind (wpAny_pure ?_)))))
  show wpAny _ _ (match Builtin.Slice.sliceAdjust none (some (2 : Int)) 1 ((3 : Nat) : Int) with | (lo, hi) => pure (lo, (1 : Int), Builtin.Slice.slicePlaces lo hi 1)) _ _ s
  rw [show Builtin.Slice.sliceAdjust none (some (2 : Int)) 1 ((3 : Nat) : Int) = (0, 2) from by decide +kernel]
  show wpAny _ _ (pure ((0 : Int), (1 : Int), Builtin.Slice.slicePlaces (0 : Int) 2 1)) _ _ s
  rw [show Builtin.Slice.slicePlaces (0 : Int) 2 1 = 2 from by decide +kernel]
  exact wpAny_pure h
theorem item_two {Q : Value → Shared → Prop} (ht : IsTup s.heap t #[x, y, z]) (hs : s.heap.IsSliceOf sl .none (.int 2 u) .none)
    (h : Q (.ref s.heap.objs.size) { s with heap := s.heap.push { cls := .type "tuple", data := .seq #[x, y] } }) : wpAny (model prog w) A (getItem (.ref t) (.ref sl)) Q E s := by
  obtain ⟨os, hos, hcs, hds⟩ := id hs
  have hTs : s.TypeIs (.ref sl) "slice" := ⟨os, hos, hcs⟩
  unfold getItem
  try with_reducible refine wpAny_holding ?_
  first | refine wpAny_bind (wpAny_pure ?_) | skip
  refine wpAny_bind (wpAny_sequenceKey ht.typeIs (by decide) ?_)
  refine wpAny_bind (wpAny_callSpecial?_slot (name := Str.ofString "__getitem__") ht.typeIs slot_tuple_getitem
    (wpAny_call_entry slot_tuple_getitem ht.typeIs entry_tuple_getitem ?_ (args_tuple_getitem _ _)))
  show wpAny _ _ (Builtin.Tuple.tupleItemsOf (.ref t) >>= _) _ _ s
  refine wpAny_bind (tupleItemsOf_ ht ?_)
  refine wpAny_bind (wpAny_typeOf hTs ?_)
  rw [if_pos (by decide)]
  refine wpAny_bind (applied_two hs ?_)
  show wpAny _ _ (if ((0 : Int) == 0 && (1 : Int) == 1 && (2 : Nat) == 3) = true then _ else _) _ _ s
  rw [if_neg (by decide)]
  have e : ((List.range 2).filterMap fun (k : Nat) => (#[x, y, z] : Array Value)[((0 : Int) + (k : Int) * 1).toNat]?).toArray = #[x, y] := rfl
  rw [e]
  have hdrop : sizeOk (.seq #[x, y]) := by show (2 : Nat) ≤ sizeLine; decide
  first
    | exact wpAny_bind (m := Builtin.Tuple.tupleExact _) (wpAny_newObj_type (wpAny_pure ⟨_, rfl, wpAny_pure h⟩) hdrop)
    | exact wpAny_bind (m := Builtin.Tuple.tupleExact _) (wpAny_newObj_type (wpAny_bind (wpAny_pure (wpAny_pure ⟨_, rfl, wpAny_pure h⟩))) hdrop)
    | exact wpAny_bind (wpAny_bind (m := Builtin.Tuple.tupleExact _) (wpAny_newObj_type (wpAny_pure (wpAny_pure ⟨_, rfl, wpAny_pure h⟩)) hdrop))
    | exact wpAny_bind (wpAny_bind (m := Builtin.Tuple.tupleExact _) (wpAny_newObj_type (wpAny_pure ⟨_, rfl, wpAny_pure h⟩) hdrop))
theorem slice_two {value slice : Expr} {Q : Value → Shared → Prop}
    (F : Fr h₀ L s.heap m) (N : News h₀ L s.heap news) (hm : (t, ({ cls := .type "tuple", data := .seq #[x, y, z] } : Obj)) ∈ news)
    (h : ∀ D h', Fr h₀ L h' m → News h₀ L h' ((D, { cls := .type "tuple", data := .seq #[x, y] }) :: news) → (∀ p ∈ news, p.1 < D) → Q (.ref D) { s with heap := h' })
    (hs : subscripted slice false (.ref t) (.ref s.heap.objs.size) = operate [.ref s.heap.objs.size, .ref t] (getItem (.ref t) (.ref s.heap.objs.size)))
    (hg : ∀ r, letTemporaryGo value (.ref t) r = pure ()) :
    wpAny (model prog w) A (subscriptTail value slice (.ref t) (.ref s.heap.objs.size)) Q E { s with heap := s.heap.push { cls := .type "slice", data := .fields #[.none, .int 2 u, .none] } } := by
  have ht : IsTup s.heap t #[x, y, z] := ⟨_, (N _ hm).1, rfl, _, rfl⟩
  have ht' : IsTup (s.heap.push { cls := .type "slice", data := .fields #[.none, .int 2 u, .none] }) t #[x, y, z] := ht.keeps fun _ _ e => Heap.get?_push_of_some _ e
  refine subscriptTail_ops (s := { s with heap := s.heap.push { cls := .type "slice", data := .fields #[.none, .int 2 u, .none] } }) ht'.typeIs slot_tuple_getitem.lookup
    (item_two ht' (Heap.IsSliceOf.new ..) ?_) hs hg
  have N1 := News.push (F.push { cls := .type "slice", data := .fields #[.none, .int 2 u, .none] }) (N.grown fun _ _ e => Heap.get?_push_of_some _ e) { cls := .type "tuple", data := .seq #[x, y] }
  rw [Heap.size_push] at N1
  show Q (.ref (s.heap.push _).objs.size) _
  rw [Heap.size_push]
  exact h _ _ ((F.push _).push _) N1 fun p hp => Nat.lt_succ_of_lt (Heap.lt_size (N p hp).1)
end
end
section
open PySem PySem.W PyProof.Rows PySem.Calls
set_option maxRecDepth 100000
theorem ite_posD {p : Prop} [Decidable p] {a b : Prop} (h : p) (k : a) : if decide p = true then a else b := by rw [if_pos (decide_eq_true h)]; exact k
theorem ite_negD {p : Prop} [Decidable p] {a b : Prop} (h : ¬ p) (k : b) : if decide p = true then a else b := by rw [if_neg (by rw [decide_eq_false h]; exact Bool.false_ne_true)]; exact k
theorem ite_posE {x y : Int} {a b : Prop} (h : x = y) (k : a) : if (x == y) = true then a else b := by rw [if_pos (beq_iff_eq.mpr h)]; exact k
theorem ite_negE {x y : Int} {a b : Prop} (h : x ≠ y) (k : b) : if (x == y) = true then a else b := by rw [if_neg (fun e => h (beq_iff_eq.mp e))]; exact k
theorem ite_posN {x y : Int} {a b : Prop} (h : x ≠ y) (k : a) : if (x != y) = true then a else b := by rw [if_pos (bne_iff_ne.mpr h)]; exact k
theorem ite_negN {x y : Int} {a b : Prop} (h : x = y) (k : b) : if (x != y) = true then a else b := by rw [if_neg (fun e => bne_iff_ne.mp e h)]; exact k
theorem allLt_le {d e : Addr} : ∀ {l : List (Addr × Obj)}, AllLt d l → @LE.le Nat _ d e → AllLt e l
  | [], _, _ => trivial
  | _ :: _, h, k => ⟨Nat.lt_of_lt_of_le h.1 k, allLt_le h.2 k⟩
section
variable {prog : Program} {w : World} {A : Around} {E : Value → Shared → Prop} {s : Shared} {h₀ : Heap} {L D : Addr} {m : Str → Option Value} {news news' : List (Addr × Obj)}
theorem pop0 {u : Tok} {y : Value} {r : List Value} {n : Nat} {Q : Value → Shared → Prop} (F : Fr h₀ L s.heap m) (N : News h₀ L s.heap news) (U : Upd D (listOf (y :: r).toArray n) (listOf r.toArray (n + 1)) news news')
    (hz : r.length ≤ 100) (h : ∀ h', Fr h₀ L h' m → News h₀ L h' news' → Q y { s with heap := h' }) : wpAny (model prog w) A (call (.builtin "list.pop") [.ref D, .int 0 u]) Q E s := by
  refine kl_popAt (its := (y :: r).toArray) (p := []) (q := r) (k := 0) F N (by decide) ?_ rfl U ?_ h
  · unfold seqIndex?
    simp
  · have e : (y :: r).toArray.toList.length = r.length + 1 := by simp
    rw [e]
    exact Nat.le_trans (Nat.succ_le_succ hz) (by decide)
variable {a b : Addr} {xs ys : List Value} {ns ms : List Int} {c : Bool} {Q : Value → Shared → Prop}
theorem eqI (ha : s.heap.IsList a xs.toArray) (hb : s.heap.IsList b ys.toArray) (hi : IntsAre xs ns) (hj : IntsAre ys ms) (hu : A.units + 64 < cLine) (hc : decide (ns = ms) = c) (h : Q (.bool c) s) :
    wpAny (model prog w) A (compareOp .Eq (.ref a) (.ref b)) Q E s := ke_eq_ints ha hb hi hj hu (by rw [hc]; exact h)
theorem neI (ha : s.heap.IsList a xs.toArray) (hb : s.heap.IsList b ys.toArray) (hi : IntsAre xs ns) (hj : IntsAre ys ms) (hu : A.units + 64 < cLine) (hc : (!decide (ns = ms)) = c) (h : Q (.bool c) s) :
    wpAny (model prog w) A (compareOp .NotEq (.ref a) (.ref b)) Q E s := ke_ne_ints ha hb hi hj hu (by rw [hc]; exact h)
theorem inI {k : Int} {t : Tok} (ha : s.heap.IsList a xs.toArray) (hi : IntsAre xs ns) (hc : (ns.any fun x => x == k) = c) (h : Q (.bool c) s) :
    wpAny (model prog w) A (compareOp .In (.int k t) (.ref a)) Q E s := in_list_ints ha hi (by rw [hc]; exact h)
theorem neSame {k : Int} {t u : Tok} (h : Q (.bool false) s) : wpAny (model prog w) A (compareOp .NotEq (.int k t) (.int k u)) Q E s := ne_int (by rw [show (k != k) = false from by simp]; exact h)
theorem pick_tail (y : Value) (r : List Value) : slicePick (y :: r).toArray (some 1) none none = r.toArray := by
  rw [kms_pick_eq]
  unfold kms_pick kms_lo kms_hi
  have e : min (1 : Int).toNat ((y :: r).toArray.toList.length) = 1 := by simp
  simp only [show ¬ ((1 : Int) < 0) by decide, if_false, e]
  simp
theorem tailC {l : Addr} {y : Value} {r : List Value} {u : Tok} {value slice : Expr} {Q : Value → Shared → Prop} (F : Fr h₀ L s.heap m) (N : News h₀ L s.heap news) (hl : s.heap.IsList l (y :: r).toArray) (hz : r.length ≤ 100)
    (h : ∀ D h', Fr h₀ L h' m → News h₀ L h' ((D, listOf r.toArray 0) :: news) → (∀ p ∈ news, p.1 < D) → Q (.ref D) { s with heap := h' })
    (hs : subscripted slice false (.ref l) (.ref s.heap.objs.size) = operate [.ref s.heap.objs.size, .ref l] (getItem (.ref l) (.ref s.heap.objs.size))) (ht : ∀ r, letTemporaryGo value (.ref l) r = pure ()) :
    wpAny (model prog w) A (subscriptTail value slice (.ref l) (.ref s.heap.objs.size)) Q E { s with heap := s.heap.push { cls := .type "slice", data := .fields #[.int 1 u, .none, .none] } } :=
  kmk_slice F N hl (.int 1 u) .none (fun D h' F' N' l1 => h D h' F' (by rw [pick_tail] at N'; exact N') l1) hs ht (by
    have e : (y :: r).toArray.size = r.length + 1 := by simp
    rw [e]
    exact Nat.le_trans (Nat.succ_le_succ hz) (by decide))
theorem tailN {l : Addr} {u : Tok} {value slice : Expr} {Q : Value → Shared → Prop} (F : Fr h₀ L s.heap m) (N : News h₀ L s.heap news) (hl : s.heap.IsList l #[])
    (h : ∀ D h', Fr h₀ L h' m → News h₀ L h' ((D, listOf #[] 0) :: news) → (∀ p ∈ news, p.1 < D) → Q (.ref D) { s with heap := h' })
    (hs : subscripted slice false (.ref l) (.ref s.heap.objs.size) = operate [.ref s.heap.objs.size, .ref l] (getItem (.ref l) (.ref s.heap.objs.size))) (ht : ∀ r, letTemporaryGo value (.ref l) r = pure ()) :
    wpAny (model prog w) A (subscriptTail value slice (.ref l) (.ref s.heap.objs.size)) Q E { s with heap := s.heap.push { cls := .type "slice", data := .fields #[.int 1 u, .none, .none] } } :=
  kmk_slice F N hl (.int 1 u) .none (fun D h' F' N' l1 => h D h' F' N' l1) hs ht (by decide)
theorem eqT {x y : Int} {t u : Tok} (e : x = y) (h : Q (.bool true) s) : wpAny (model prog w) A (compareOp .Eq (.int x t) (.int y u)) Q E s := eq_int (by rw [beq_iff_eq.mpr e]; exact h)
theorem eqF {x y : Int} {t u : Tok} (e : x ≠ y) (h : Q (.bool false) s) : wpAny (model prog w) A (compareOp .Eq (.int x t) (.int y u)) Q E s := eq_int (by rw [beq_eq_false_iff_ne.mpr e]; exact h)
theorem eqS {x y : Int} {t u : Tok} (h : x = y → Q (.bool true) s) (k : x ≠ y → Q (.bool false) s) : wpAny (model prog w) A (compareOp .Eq (.int x t) (.int y u)) Q E s := by
  by_cases e : x = y
  · exact eqT e (h e)
  · exact eqF e (k e)
theorem neT {x y : Int} {t u : Tok} (e : x ≠ y) (h : Q (.bool true) s) : wpAny (model prog w) A (compareOp .NotEq (.int x t) (.int y u)) Q E s := ne_int (by rw [bne_iff_ne.mpr e]; exact h)
theorem neF {x y : Int} {t u : Tok} (e : x = y) (h : Q (.bool false) s) : wpAny (model prog w) A (compareOp .NotEq (.int x t) (.int y u)) Q E s := ne_int (by rw [e, show (y != y) = false from by simp]; exact h)
theorem ltT {x y : Int} {t u : Tok} (e : x < y) (h : Q (.bool true) s) : wpAny (model prog w) A (compareOp .Lt (.int x t) (.int y u)) Q E s := lt_int (by rw [decide_eq_true e]; exact h)
theorem ltF {x y : Int} {t u : Tok} (e : ¬ x < y) (h : Q (.bool false) s) : wpAny (model prog w) A (compareOp .Lt (.int x t) (.int y u)) Q E s := lt_int (by rw [decide_eq_false e]; exact h)
theorem ltS {x y : Int} {t u : Tok} (h : x < y → Q (.bool true) s) (k : ¬ x < y → Q (.bool false) s) : wpAny (model prog w) A (compareOp .Lt (.int x t) (.int y u)) Q E s := by
  by_cases e : x < y
  · exact ltT e (h e)
  · exact ltF e (k e)
theorem gtT {x y : Int} {t u : Tok} (e : y < x) (h : Q (.bool true) s) : wpAny (model prog w) A (compareOp .Gt (.int x t) (.int y u)) Q E s := gt_int (by rw [decide_eq_true e]; exact h)
theorem gtF {x y : Int} {t u : Tok} (e : ¬ y < x) (h : Q (.bool false) s) : wpAny (model prog w) A (compareOp .Gt (.int x t) (.int y u)) Q E s := gt_int (by rw [decide_eq_false e]; exact h)
theorem gtS {x y : Int} {t u : Tok} (h : y < x → Q (.bool true) s) (k : ¬ y < x → Q (.bool false) s) : wpAny (model prog w) A (compareOp .Gt (.int x t) (.int y u)) Q E s := by
  by_cases e : y < x
  · exact gtT e (h e)
  · exact gtF e (k e)
theorem intBT (h : Q (.int 1 s.toks) { s with toks := s.toks + 1 }) : wpAny (model prog w) A (call (.type "int") [.bool true]) Q E s := call_int_bool (by rw [if_pos rfl]; exact h)
theorem intBF (h : Q (.int 0 s.toks) { s with toks := s.toks + 1 }) : wpAny (model prog w) A (call (.type "int") [.bool false]) Q E s := call_int_bool (by rw [if_neg Bool.false_ne_true]; exact h)
theorem mulN0 {l : Addr} {v : Value} {u : Tok} (F : Fr h₀ L s.heap m) (N : News h₀ L s.heap news) (hl : s.heap.IsList l #[v])
    (h : ∀ D h', Fr h₀ L h' m → News h₀ L h' ((D, listOf #[] 0) :: news) → (∀ p ∈ news, p.1 < D) → Q (.ref D) { s with heap := h' }) : wpAny (model prog w) A (binaryOp .Mult (.ref l) (.int 0 u)) Q E s :=
  KMa.mul (vs := [v]) (ws := []) F N hl (by decide) (by decide) (by simp) rfl h
theorem mulN1 {l : Addr} {v : Value} {u : Tok} (F : Fr h₀ L s.heap m) (N : News h₀ L s.heap news) (hl : s.heap.IsList l #[v])
    (h : ∀ D h', Fr h₀ L h' m → News h₀ L h' ((D, listOf #[v] 0) :: news) → (∀ p ∈ news, p.1 < D) → Q (.ref D) { s with heap := h' }) : wpAny (model prog w) A (binaryOp .Mult (.ref l) (.int 1 u)) Q E s :=
  KMa.mul (vs := [v]) (ws := [v]) F N hl (by decide) (by decide) (by simp) rfl h
theorem addN0 {vs : List Value} (F : Fr h₀ L s.heap m) (N : News h₀ L s.heap news) (ha : s.heap.IsList a vs.toArray) (hb : s.heap.IsList b #[]) (hz : vs.length ≤ 100)
    (h : ∀ D h', Fr h₀ L h' m → News h₀ L h' ((D, listOf vs.toArray 0) :: news) → (∀ p ∈ news, p.1 < D) → Q (.ref D) { s with heap := h' }) : wpAny (model prog w) A (binaryOp .Add (.ref a) (.ref b)) Q E s :=
  kmk_add_lit F N ha hb (by simp) h (by
    have e : vs.toArray.toList.length + (#[] : Array Value).toList.length = vs.length := by simp
    rw [e]
    exact Nat.le_trans hz (by decide))
theorem addN1 {vs : List Value} {y : Value} (F : Fr h₀ L s.heap m) (N : News h₀ L s.heap news) (ha : s.heap.IsList a vs.toArray) (hb : s.heap.IsList b #[y]) (hz : vs.length ≤ 100)
    (h : ∀ D h', Fr h₀ L h' m → News h₀ L h' ((D, listOf (vs ++ [y]).toArray 0) :: news) → (∀ p ∈ news, p.1 < D) → Q (.ref D) { s with heap := h' }) : wpAny (model prog w) A (binaryOp .Add (.ref a) (.ref b)) Q E s :=
  kmk_add_lit F N ha hb (by simp) h (by
    have e : vs.toArray.toList.length + (#[y] : Array Value).toList.length = vs.length + 1 := by simp
    rw [e]
    exact Nat.le_trans (Nat.succ_le_succ hz) (by decide))
theorem isl {l : Addr} {zs : Array Value} {n : Nat} {h : Heap} (N : News h₀ L h news) (hm : (l, listOf zs n) ∈ news) : h.IsList l zs := ⟨_, (N _ hm).1, rfl, n, rfl⟩
theorem appendL {vs : List Value} {v : Value} {n : Nat} (F : Fr h₀ L s.heap m) (N : News h₀ L s.heap news) (U : Upd D (listOf vs.toArray n) (listOf (vs ++ [v]).toArray (n + 1)) news news') (hz : vs.length ≤ 100)
    (h : ∀ h', Fr h₀ L h' m → News h₀ L h' news' → Q .none { s with heap := h' }) : wpAny (model prog w) A (call (.builtin "list.append") [.ref D, v]) Q E s :=
  append_K F N (by rw [List.push_toArray]; exact U) h (by
    have e : vs.toArray.size = vs.length := by simp
    rw [e]
    exact Nat.le_trans hz (by decide))
theorem news_sub {l l' : List (Addr × Obj)} {h : Heap} (N : News h₀ L h l) (k : ∀ p ∈ l', p ∈ l) : News h₀ L h l' := fun p hp => N p (k p hp)
end
end
section
open PySem PySem.W PyProof.Rows PySem.Calls
set_option maxRecDepth 100000
/-- the code table of a def whose lambdas are made in its run, and the code objects that it names -/
def TabOk (qual : Str) (ps : Array Value) (codes : List (Addr × Obj)) : Prop :=
  TriplesOk ps.toList ∧ ∀ pos v, codeAmong pos ps.toList = some v → ∃ c' oc vs t, v = .ref c' ∧ (c', oc) ∈ codes ∧ oc.data = .fields vs ∧ vs[1]? = some (.str qual t)
theorem TabOk.nil {qual : Str} : TabOk qual #[] [] := ⟨trivial, fun _ _ h => by cases h⟩
theorem among_snoc {pos pos' : Pos} {c v : Value} (l : List Value) (h : TriplesOk l) (e : codeAmong pos (l ++ [rawInt pos'.line, rawInt pos'.col, c]) = some v) : codeAmong pos l = some v ∨ v = c := by
  fun_induction TriplesOk l with
  | case1 =>
    right
    simp only [List.nil_append, rawInt, codeAmong] at e
    split at e
    · exact (Option.some.inj e).symm
    · cases e
  | case2 a t b u x rest ih =>
    simp only [List.cons_append, codeAmong] at e ⊢
    split at e
    · rename_i hc; rw [if_pos hc]; exact .inl e
    · rename_i hc; rw [if_neg hc]; exact ih h e
  | case3 l h1 h2 => exact h.elim
theorem TabOk.snoc {qual : Str} {ps : Array Value} {codes : List (Addr × Obj)} {pos : Pos} {c' : Addr} {oc : Obj} {vs : Array Value} {t : Tok} (x : TabOk qual ps codes) (hd : oc.data = .fields vs) (hv : vs[1]? = some (.str qual t)) :
    TabOk qual (ps ++ #[rawInt pos.line, rawInt pos.col, .ref c']) ((c', oc) :: codes) := by
  refine ⟨by rw [Array.toList_append]; exact TriplesOk_snoc _ _ _ _ x.1, fun pos' v e => ?_⟩
  rw [Array.toList_append] at e
  rcases among_snoc _ x.1 e with e | rfl
  · obtain ⟨c, o, vs', t', h1, h2, h3, h4⟩ := x.2 _ _ e
    exact ⟨c, o, vs', t', h1, .tail _ h2, h3, h4⟩
  · exact ⟨c', oc, vs, t, rfl, .head _, hd, hv⟩
theorem TabOk.more {qual : Str} {ps : Array Value} {codes : List (Addr × Obj)} {z : Addr × Obj} (x : TabOk qual ps codes) : TabOk qual ps (z :: codes) :=
  ⟨x.1, fun pos v e => by
    obtain ⟨c, o, vs', t', h1, h2, h3, h4⟩ := x.2 _ _ e
    exact ⟨c, o, vs', t', h1, .tail _ h2, h3, h4⟩⟩
def OffAs (c : Addr) : List Addr → Prop
  | [] => True
  | a :: r => @Ne Nat c a ∧ OffAs c r
def HasAll (news : List (Addr × Obj)) : List Addr → Prop
  | [] => True
  | a :: r => (∃ o, (a, o) ∈ news) ∧ HasAll news r
theorem HasAll.get {news : List (Addr × Obj)} : ∀ {as : List Addr}, HasAll news as → ∀ a ∈ as, ∃ o, (a, o) ∈ news
  | _ :: _, h, _, .head _ => h.1
  | _ :: _, h, _, .tail _ m => HasAll.get h.2 _ m
theorem HasAll.mono {news news' : List (Addr × Obj)} (s : ∀ p ∈ news, p ∈ news') : ∀ {as : List Addr}, HasAll news as → HasAll news' as
  | [], _ => trivial
  | _ :: _, h => ⟨let ⟨o, m⟩ := h.1; ⟨o, s _ m⟩, HasAll.mono s h.2⟩
theorem offAs_of {c : Addr} : ∀ {as : List Addr}, (∀ a ∈ as, c ≠ a) → OffAs c as
  | [], _ => trivial
  | a :: _, h => ⟨h a (.head _), offAs_of fun b m => h b (.tail _ m)⟩
theorem OffAs.get {c : Addr} : ∀ {as : List Addr}, OffAs c as → ∀ a ∈ as, c ≠ a
  | _ :: _, h, _, .head _ => h.1
  | _ :: _, h, _, .tail _ m => OffAs.get h.2 _ m
theorem OwnOff.cons {c : Addr} {o : Obj} {l : List (Addr × Obj)} {as : List Addr} (h : OffAs c as) (k : OwnOff l as) : OwnOff ((c, o) :: l) as := fun p hp b hb => by
  rcases List.mem_cons.mp hp with rfl | hp
  · exact h.get b hb
  · exact k p hp b hb
def SubC (codes news : List (Addr × Obj)) : Prop := ∀ q ∈ codes, q ∈ news
section
variable {M : Model} {A : Around} {E : Value → Shared → Prop} {s : Shared} {h₀ : Heap} {L a c P : Addr} {m mg mb : Str → Option Value} {cn : Str} {cs : Scope} {ccd : Value} {cl : List (Str × Addr)} {news codes : List (Addr × Obj)} {g : Obj → List (Addr × Obj)}
  {p : Program} {loose : List Str} {mean : ExcName → Option Value} {name qual : Str} {params : Arguments} {body : Expr} {scope : Scope} {ps : Array Value} {pos : Pos} {firstLine : Nat} {clos : List (Str × Addr)} {as : List Addr}
theorem lam_uni {Q : Value → Shared → Prop} (F : Fr h₀ L s.heap m) (N : News h₀ L s.heap news) (T : Top p loose mean mg mb h₀) (C : CodeHd h₀ c P) (hcd : ccd = .ref c) (U : UpdF P (tabObj ps) news g) (ht : TabOk qual ps codes)
    (hsub : SubC codes news) (hoff : OwnOff codes as) (has : HasAll news as) (hcl : closureFor scope (envX cn cs L a ccd cl) = pure clos)
    (h : ∀ f c' oc vs t ctv h' tk ps', TabOk qual ps' ((c', oc) :: codes) → Fr h₀ L h' m →
      News h₀ L h' ((f, kla_obj name qual params body scope clos ((mg "__name__").getD .none) c' ctv) :: (c', oc) :: g (tabObj ps')) →
      oc.data = .fields vs → vs[1]? = some (.str qual t) → OffAs c' as → (∀ q ∈ news, q.1 < f) → c' < f → Q (.ref f) { s with heap := h', toks := tk }) :
    wpAny M A (makeFunction name qual params (.expr body) scope (envX cn cs L a ccd cl) [] [] [] pos firstLine) Q E s := by
  cases e : codeAmong pos ps.toList with
  | none =>
    refine kla_nest F N T C hcd U ht.1 e hcl fun f c' oc vs t ctv h' tk F' N' hd hv l1 l2 => ?_
    refine h f c' oc vs t ctv h' tk _ (ht.snoc hd hv) F' N' hd hv (offAs_of fun a ha => ?_) (fun q hq => Nat.lt_trans (l1 q hq) l2) l2
    obtain ⟨o, ho⟩ := has.get a ha
    exact Nat.ne_of_gt (l1 _ ho)
  | some v =>
    obtain ⟨c', oc, vs, t, rfl, hm, hd, hv⟩ := ht.2 _ _ e
    obtain ⟨own, rest, hn, hgr, h1, h2⟩ := U.split
    have hmem : (P, tabObj ps) ∈ news := by rw [hn]; exact List.mem_append_right _ (.head _)
    refine kla_hit F N T C hcd hmem ht.1 e hcl fun f ctv h' tk F' N' l1 => ?_
    refine h f c' oc vs t ctv h' tk ps ht.more F' (fun q hq => N' q ?_) hd hv (offAs_of fun a ha => hoff _ hm a ha) l1 (l1 _ (hsub _ hm))
    rcases List.mem_cons.mp hq with rfl | hq
    · exact .head _
    · refine .tail _ ?_
      rcases List.mem_cons.mp hq with rfl | hq
      · exact hsub _ hm
      · rw [hgr] at hq
        rw [hn]
        exact hq
end
end
section
open PySem PySem.W PyProof.Rows PySem.Calls PySem.Spec
set_option maxRecDepth 100000
/-- the end of a turn whose ground may have turned -/
def TgEnd (fs : List Addr) (g₀ : Heap) (L : Addr) (J : (Str → Option Value) → List (Addr × Obj) → Prop) (I : Addr) (oi : Obj) (s₁ s₂ : Shared) : Prop :=
  ∃ h' tk g m' news' nx, s₂ = { s₁ with heap := h', toks := tk } ∧ KtsTurn fs g₀ g ∧ Fr g L h' m' ∧ News g L h' news' ∧ (I, oi) ∈ news' ∧ (∀ p ∈ nx, p ∈ news') ∧ (∀ p ∈ nx, p.1 ≠ I) ∧ J m' nx
def TgPost (fs : List Addr) (g₀ : Heap) (L : Addr) (J : (Str → Option Value) → List (Addr × Obj) → Prop) (I : Addr) (oi : Obj) (s₁ : Shared) (Q : Flow → Shared → Prop) (f : Flow) (s₂ : Shared) : Prop :=
  match f with
  | .ret v => Q (.ret v) s₂
  | .brk => Q .next s₂
  | _ => TgEnd fs g₀ L J I oi s₁ s₂
/-- a range loop in whose turns the slots of the frames may turn -/
def LoopG (prog : Program) (w : World) (A : Around) (env : Env) (x : Str) (body : List Stmt) (Q : Flow → Shared → Prop) (E : Value → Shared → Prop) (xv : Value) (s : Shared) : Prop :=
  ∃ (r : Addr) (a₀ b₀ : Int) (t₀ u₀ v₀ : Tok) (n : Nat) (fs : List Addr) (g₀ : Heap) (m₀ : Str → Option Value) (news : List (Addr × Obj)) (J : Nat → (Str → Option Value) → List (Addr × Obj) → Prop),
    xv = .ref r ∧ IsRange s.heap r a₀ b₀ 1 t₀ u₀ v₀ ∧ Builtin.Range.small a₀ b₀ 1 = true ∧ Builtin.Range.rangeSize a₀ b₀ 1 = (n : Int) ∧ A.handled = none ∧ Fr g₀ env.locals s.heap m₀ ∧ News g₀ env.locals s.heap news ∧ J 0 m₀ news ∧
    (∀ i t g m₁ nx h tk I oi, i < n → KtsTurn fs g₀ g → J i m₁ nx → (∀ p ∈ nx, p.1 ≠ I) → Fr g env.locals h (fun y => if y = x then some (.int (a₀ + (i : Int)) t) else m₁ y) → News g env.locals h ((I, oi) :: nx) →
      wpAny (model prog w) A (execs body env) (TgPost fs g₀ env.locals (J (i + 1)) I oi { s with heap := h, toks := tk } Q) E { s with heap := h, toks := tk }) ∧
    ∀ g m₁ nx h tk, KtsTurn fs g₀ g → J n m₁ nx → Fr g env.locals h m₁ → News g env.locals h nx → Q .next { s with heap := h, toks := tk }
section
variable {prog : Program} {w : World} {A : Around} {s : Shared} {env : Env}
theorem loopG_go {R : Result → Shared → Prop} {x : Str} {px : Pos} {body : List Stmt} {I : Addr} {a₀ : Int} {n : Nat} {fs : List Addr} {g₀ : Heap} {m₀ : Str → Option Value} {news : List (Addr × Obj)} (J : Nat → (Str → Option Value) → List (Addr × Obj) → Prop)
    (hh : A.handled = none) (hx : env.kindOf x = some .local)
    (hp : (env.scope.kind == .class || (env.scope.kind == .module && env.locals != env.globals)) = false)
    (hI : g₀.get? I = none) (hIL : I ≠ env.locals) (hnI : ∀ p ∈ news, p.1 ≠ I)
    (hst : IsRangeIter s.heap I (a₀ + ((0 : Nat) : Int) * 1) ((n : Int) - ((0 : Nat) : Int)) 1) (F : Fr g₀ env.locals s.heap m₀) (N : News g₀ env.locals s.heap news) (h0 : J 0 m₀ news)
    (step : ∀ i t g m₁ nx h tk oi, i < n → KtsTurn fs g₀ g → J i m₁ nx → (∀ p ∈ nx, p.1 ≠ I) → Fr g env.locals h (fun y => if y = x then some (.int (a₀ + (i : Int)) t) else m₁ y) → News g env.locals h ((I, oi) :: nx) →
      wpAny (model prog w) A (execs body env) (TgPost fs g₀ env.locals (J (i + 1)) I oi { s with heap := h, toks := tk } fun f s' => R (.ok f) s') (notedBy (model prog w) A env fun e s' => R (.error e) s') { s with heap := h, toks := tk })
    (hR : ∀ g m₁ nx h tk, KtsTurn fs g₀ g → J n m₁ nx → Fr g env.locals h m₁ → News g env.locals h nx → R (.ok .next) { s with heap := h, toks := tk }) :
    codeAny (model prog w) A (.forLoop (.Name x px) (.ref I) body [] env) R s := by
  have W : Walks prog w A I [I] [I] n (fun i v => ∃ t, v = .int (a₀ + i * 1) t) (fun i h => IsRangeIter h I (a₀ + (i : Nat) * 1) ((n : Int) - (i : Nat)) 1) := Walks.range hh _ a₀ 1 n
  refine codeAny_forLoop
    (fun k s' => ∃ h' tk g m' nx i, s' = { s with heap := h', toks := tk } ∧ IsRangeIter h' I (a₀ + (i : Nat) * 1) ((n : Int) - (i : Nat)) 1 ∧ KtsTurn fs g₀ g ∧ Fr g env.locals h' m' ∧ News g env.locals h' nx ∧ (∀ p ∈ nx, p.1 ≠ I) ∧ J i m' nx ∧ i ≤ n ∧ k = n + 1 - i) ?_ (n + 1)
    ⟨s.heap, s.toks, g₀, m₀, news, 0, rfl, hst, KtsTurn.refl, F, N, hnI, h0, Nat.zero_le _, rfl⟩
  rintro k s' ⟨h', tk, g, m', nx, i, rfl, hst', T', F', N', hn', hJ, hi, rfl⟩
  have hgI : g.get? I = none := T'.none_ _ hI
  have next : ∀ h₁ : Heap, (∀ b o, b ∉ [I] → h'.get? b = some o → h₁.get? b = some o) → Fr g env.locals h₁ m' ∧ News g env.locals h₁ nx := fun h₁ hk₁ =>
    ⟨⟨F'.ns.at' fun o e => hk₁ _ o (by simp; exact fun z => hIL z.symm) e, fun b o e => hk₁ b o (by simp; exact fun z => by rw [z, hgI] at e; cases e) (F'.keep b o e), F'.above⟩, fun p hp => ⟨hk₁ _ _ (by simp; exact hn' p hp) (N' p hp).1, (N' p hp).2⟩⟩
  by_cases hlt : i < n
  · refine W.item i _ _ _ hlt hst' fun v h₁ tk₁ hP hst₁ hk₁ => ?_
    obtain ⟨F₁, N₁⟩ := next h₁ hk₁
    obtain ⟨t, rfl⟩ := hP
    refine wpAny_assign_Name (wpAny_storeName_local hx F₁.ns (fun h₂ hn₂ hs₂ => ?_) hp)
    have F₂ := F₁.set hn₂ hs₂
    have hst₂ : IsRangeIter h₂ I (a₀ + ((i + 1 : Nat) : Int) * 1) ((n : Int) - ((i + 1 : Nat) : Int)) 1 := W.frame _ _ _ hst₁ fun b hb o e => (hs₂.2 b fun q => hIL ((List.mem_singleton.mp hb) ▸ q)).trans e
    have e1 : a₀ + (i : Int) * 1 = a₀ + (i : Int) := by omega
    rw [e1] at F₂
    have N₂ := N₁.set hs₂
    refine wpAny_mono (step i t g m' nx h₂ _ _ hlt T' hJ hn' F₂ (fun p hp => by
      rcases List.mem_cons.mp hp with rfl | hp
      · exact ⟨hst₂, hIL, hgI⟩
      · exact N₂ p hp)) (fun f s₃ h₃ => ?_) fun _ _ e => e
    have fin : ∀ tk', TgEnd fs g₀ env.locals (J (i + 1)) I { cls := .type "range_iterator", dict := none, data := .fields #[rawInt (a₀ + ((i + 1 : Nat) : Int) * 1), rawInt ((n : Int) - ((i + 1 : Nat) : Int)), rawInt 1], slots := #[] } { s with heap := h₂, toks := tk' } s₃ → ∃ m, m < n + 1 - i ∧ ∃ h' tk g m' nx i, s₃ = { s with heap := h', toks := tk } ∧ IsRangeIter h' I (a₀ + (i : Nat) * 1) ((n : Int) - (i : Nat)) 1 ∧ KtsTurn fs g₀ g ∧ Fr g env.locals h' m' ∧ News g env.locals h' nx ∧ (∀ p ∈ nx, p.1 ≠ I) ∧ J i m' nx ∧ i ≤ n ∧ m = n + 1 - i := by
      rintro tk' ⟨h₃', tk₃, g₃, m₃, news₃, nx₃, rfl, T₃, F₃, N₃, hi₃, hs₃, ho₃, hJ₃⟩
      exact ⟨n + 1 - (i + 1), by omega, h₃', tk₃, g₃, m₃, nx₃, i + 1, rfl, (N₃ _ hi₃).1, T₃, F₃, fun p hp => N₃ p (hs₃ p hp), ho₃, hJ₃, hlt, rfl⟩
    cases f with
    | ret v => exact h₃
    | brk => exact h₃
    | cont => exact fin _ h₃
    | next => exact fin _ h₃
  · have hin : i = n := by omega
    subst hin
    refine W.done _ _ _ hst' fun h₁ tk₁ hk₁ => wpAny_execs_nil ?_
    obtain ⟨F₁, N₁⟩ := next h₁ hk₁
    exact hR g m' nx h₁ tk₁ T' hJ F₁ N₁
theorem For_G {E : Value → Shared → Prop} {Q : Flow → Shared → Prop} {x : Str} {px pos : Pos} {iter : Expr} {body : List Stmt} (hx : env.kindOf x = some .local)
    (hp : (env.scope.kind == .class || (env.scope.kind == .module && env.locals != env.globals)) = false)
    (h : wpAny (model prog w) A (eval iter env) (fun xv s₁ => LoopG prog w A env x body Q E xv s₁) E s)
    (hs : ∀ x, foldedSetIterable iter env x = pure x := by intro _; rfl)
    (hE : PassesOwn (model prog w) A env E := by passes_own) :
    wpAny (model prog w) A (exec (.For (.Name x px) iter body [] pos) env) Q E s := by
  refine wpAny_For (wpAny_mono h (fun xv s₁ h₁ => ?_) fun _ _ e => e) hs
  obtain ⟨r, a₀, b₀, t₀, u₀, v₀, n, fs, g₀, m₀, news, J, rfl, hr, hsmall, hn, hh, F, N, h0, turn, done⟩ := h₁
  refine wpAny_pyIter_range hr hsmall ?_
  refine loopG_go (a₀ := a₀) (n := n) (g₀ := g₀) (R := fun r s' => match r with | .ok f => Q f s' | .error e => cameBackBy (model prog w) A env E e s') J hh hx hp (next_is_new F) (fun z => absurd F.ns.lt (z ▸ Nat.lt_irrefl _)) (fun p hp z => absurd (Heap.lt_size (N p hp).1) (z ▸ Nat.lt_irrefl _))
    (by show IsRangeIter _ _ _ _ _; rw [hn]; simpa using Heap.get?_push_size _ rfl) (F.push _) (fun p hp => ⟨Heap.get?_push_of_some _ (N p hp).1, (N p hp).2⟩) h0 ?_ done
  intro i t g m₁ nx h tk oi a b c d e f
  exact wpAny_passesOwn hE (turn i t g m₁ nx h tk _ oi a b c d e f)
end
end
section
open PySem PySem.W PyProof.Rows PySem.Calls
section
abbrev faceO (u2 : Tok) (b : Array UInt8) (u3 : Tok) : Obj := { cls := .type "tuple", data := .seq #[.str (Str.ofString "face") u2, .ref 74, .bytes b u3] }
def Gd (X : Frag) (A₀ : Around) (base : Heap) (outer : List Env) (p : Program) (loose : List Str) (mean : ExcName → Option Value) (mg mb : Str → Option Value) (h₀ g' : Heap) : Prop :=
  KtsTurn (outer.filterMap (·.frame)) h₀ g' ∧ Below A₀ base outer g' ∧ X.In g' ∧ Top p loose mean mg mb g' ∧ KtsDicts (outer.filterMap (·.frame)) g'
theorem Gd.of {X : Frag} {A₀ : Around} {base : Heap} {outer : List Env} {p : Program} {loose : List Str} {mean : ExcName → Option Value} {mg mb : Str → Option Value} {h₀ g' : Heap} (B : Below A₀ base outer h₀) (XB : X.In base) (TB : Top p loose mean mg mb base) (D : KtsDicts (outer.filterMap (·.frame)) h₀)
    (T : KtsTurn (outer.filterMap (·.frame)) h₀ g') : Gd X A₀ base outer p loose mean mg mb h₀ g' :=
  have B' := turn_below B T
  ⟨T, B', XB.keeps B'.stays, TB.keeps B'.stays, D.turn T⟩
/-- what the call inside `_law_told` may raise, told at that frame -/
def ToldE (X : Frag) (A₀ : Around) (base : Heap) (outer : List Env) (p : Program) (loose : List Str) (mean : ExcName → Option Value) (mg mb : Str → Option Value) (h₀ : Heap) (L : Addr) (m : Str → Option Value) (lo : List Env) (g : Heap) (Lt : Addr) (mt : Str → Option Value) (s : Shared) (Q : Value → Shared → Prop) (ev : Value) (s' : Shared) : Prop :=
  ∃ x d es n keep G h' tk, ev = .ref x ∧ s' = { s with heap := h', toks := tk } ∧ Fr g Lt G mt ∧ G.UpToSlots h' ∧
    ((∃ D u2 b u3, getL (Str.ofString "value") es = some (some (.ref D)) ∧ RaisedG base G lo x 71 d ((d, dictOf es n) :: (D, faceO u2 b u3) :: keep) h' ∧
        ∀ g' h'' tk' u, Gd X A₀ base outer p loose mean mg mb h₀ g' → Fr g' L h'' m → News g' L h'' keep → Q (.bytes b u) { s with heap := h'', toks := tk' }) ∨
     (∃ k u3, getL (Str.ofString "kind") es = some (some (.str k u3)) ∧ RaisedG base G lo x 52 d ((d, dictOf es n) :: keep) h' ∧
        ∀ g' h'' tk' u, Gd X A₀ base outer p loose mean mg mb h₀ g' → Fr g' L h'' m → News g' L h'' keep → Q (.str k u) { s with heap := h'', toks := tk' }))
def Callable (M : Model) (c : Value) (h : Heap) : Prop := ∃ k, (k = Keeper.frame ∨ k = Keeper.machine ∨ k = Keeper.boundFrame) ∧ Looks M h (keeperOf c) k
theorem keeps_M2 {M : Model} {K : Frag} {h₀ h : Heap} {L q f : Addr} {self : Value} {news : List (Addr × Obj)} (N : News h₀ L h news) (X : K.In h) (n93 : (q, methodObj (.ref f) self) ∈ news) (n94 : fnIn K f = true) : Callable M (.ref q) h := keeps_M n94 h (methP N n93 X)
theorem keeps_F2 {M : Model} {h₀ h : Heap} {L q : Addr} {oc : Value} {od : Option Addr} {fd : FuncData} {sl : Array (Option Value)} {news : List (Addr × Obj)} (N : News h₀ L h news) (n95 : (q, (⟨oc, od, .func fd, sl⟩ : Obj)) ∈ news) : Callable M (.ref q) h := keeps_F h (FnAt.of N n95)
theorem isl9 {h₀ h : Heap} {L l : Addr} {zs : Array Value} {n : Nat} {news : List (Addr × Obj)} (n91 : News h₀ L h news) (n92 : (l, listOf zs n) ∈ news) : h.IsList l zs := isl n91 n92
theorem own_less9 {codes : List (Addr × Obj)} {as bs : List Addr} (n96 : OwnOff codes as) (n97 : ∀ b ∈ bs, b ∈ as) : OwnOff codes bs := fun p hp b hb => n96 p hp b (n97 b hb)
theorem callWith_C0 {M : Model} {A : Around} {E : Value → Shared → Prop} {s : Shared} {env : Env} {pos : Pos} {f : Value} {first : List Value} {Q : Value → Shared → Prop} (X : Callable M f s.heap) (h : wpAny M A (call f (first ++ [])) Q E s) : wpAny M A (callWith pos f first (backTo pos (starEach [] env)) []) Q E s :=
  callWith_of (P := Callable M f) rfl (fun _ x => x) (evalArgs_nil3 ⟨X, h⟩)
theorem RaisedG.sub {base G h : Heap} {l : List Env} {e C d : Addr} {news l' : List (Addr × Obj)} (R : RaisedG base G l e C d news h) (k : ∀ p ∈ l', p ∈ news) : RaisedG base G l e C d l' h :=
  let ⟨B, a, b, c, f⟩ := R
  ⟨B, a, b, fun q hq => c q (k q hq), f⟩
theorem RaisedG.keepP {base G h : Heap} {l : List Env} {e C d : Addr} {k1 k2 k3 k4 : Addr × Obj} {keep : List (Addr × Obj)} (R : RaisedG base G l e C d (k1 :: k2 :: k3 :: k4 :: keep) h) : RaisedG base G l e C d (k1 :: k4 :: keep) h :=
  R.sub fun _ hp => (List.mem_cons.mp hp).elim (fun q => q ▸ .head _) fun hp => .tail _ (.tail _ (.tail _ hp))
theorem RaisedG.keepF {base G h : Heap} {l : List Env} {e C d : Addr} {k1 k2 : Addr × Obj} {keep : List (Addr × Obj)} (R : RaisedG base G l e C d (k1 :: k2 :: keep) h) : RaisedG base G l e C d (k1 :: keep) h :=
  R.sub fun _ hp => (List.mem_cons.mp hp).elim (fun q => q ▸ .head _) fun hp => .tail _ (.tail _ hp)
theorem nrmS {M : Model} {A : Around} {t : Sem Flow} {Q : Flow → Shared → Prop} {E : Value → Shared → Prop} {h h₀ : Heap} {L : Addr} {m : Str → Option Value} {s₀ : Shared} {T : Nat} (_F : Fr h₀ L h m) (k : ∀ tk, wpAny M A t Q E ⟨h, s₀.gens, s₀.drawn, tk, s₀.os⟩) : wpAny M A t Q E ⟨h, s₀.gens, s₀.drawn, T, s₀.os⟩ := k T
theorem appendW {prog : Program} {w : World} {A : Around} {E : Value → Shared → Prop} {s : Shared} {h₀ : Heap} {L D : Addr} {m : Str → Option Value} {news news' : List (Addr × Obj)} {vs ws : List Value} {v : Value} {n : Nat} {Q : Value → Shared → Prop} (F : Fr h₀ L s.heap m) (N : News h₀ L s.heap news) (U : Upd D (listOf vs.toArray n) (listOf ws.toArray (n + 1)) news news') (e : vs ++ [v] = ws) (hz : vs.length ≤ 100)
    (h : ∀ h', Fr h₀ L h' m → News h₀ L h' news' → Q .none { s with heap := h' }) : wpAny (model prog w) A (call (.builtin "list.append") [.ref D, v]) Q E s := by
  subst e
  exact appendL F N U hz h
end
end
section
open PySem PySem.W PyProof.Rows PySem.Calls
section
abbrev lockD (w : World) (t1 t2 : Tok) (ov wl : Value) : Obj := dictOf [⟨PyData.keyHash w.params (Str.ofString "owner"), .str (Str.ofString "owner") t1, ov⟩, ⟨PyData.keyHash w.params (Str.ofString "waiting"), .str (Str.ofString "waiting") t2, wl⟩] 2
abbrev groupD (w : World) (t1 t2 : Tok) (cv wl : Value) : Obj := dictOf [⟨PyData.keyHash w.params (Str.ofString "count"), .str (Str.ofString "count") t1, cv⟩, ⟨PyData.keyHash w.params (Str.ofString "waiting"), .str (Str.ofString "waiting") t2, wl⟩] 2
theorem drop2x {h₀ h : Heap} {L d1 d2 x : Addr} {o1 o2 ox : Obj} {news k1 k2 : List (Addr × Obj)} (N : News h₀ L h news) (D1 : DropE d1 o1 news k1) (D2 : DropE d2 o2 k1 k2) (hx : (x, ox) ∈ k2) : News h₀ L h ((x, ox) :: (d1, o1) :: (d2, o2) :: k2) ∧ OwnOff k2 [d1, d2] ∧ d2 ≠ d1 ∧ x ≠ d1 ∧ x ≠ d2 := by
  obtain ⟨a, b⟩ := D1.facts
  obtain ⟨c, d⟩ := D2.facts
  refine ⟨fun p hp => ?_, fun p hp y hy => ?_, (b _ c).2, (b _ (d _ hx).1).2, (d _ hx).2⟩
  · rcases List.mem_cons.mp hp with rfl | hp
    · exact N _ (b _ (d _ hx).1).1
    · rcases List.mem_cons.mp hp with rfl | hp
      · exact N _ a
      · rcases List.mem_cons.mp hp with rfl | hp
        · exact N _ (b _ c).1
        · exact N _ (b _ (d _ hp).1).1
  · rcases List.mem_cons.mp hy with rfl | hy
    · exact (b _ (d _ hp).1).2
    · rw [List.mem_singleton.mp hy]
      exact (d _ hp).2
end
end
section
open PySem PySem.W PyProof.Rows PySem.Calls
section
abbrev lamQ : Str := Str.ofString "_law_lock_step.<locals>.<lambda>"
end
end
section
open PySem PySem.W PyProof.Rows
def LockJ (w : World) (x dx wl q src : Addr) (t1 t2 : Tok) (nS : Nat) (m₀ : Str → Option Value) (i : Nat) (m : Str → Option Value) (nx : List (Addr × Obj)) : Prop :=
  (∀ y, y ≠ Str.ofString "fine" → y ≠ Str.ofString "turn" → m y = m₀ y) ∧ ∃ a ta b tb ps codes, 0 ≤ b ∧ b < 2147483648 ∧ TabOk lamQ ps codes ∧ OwnOff codes [x, dx, wl, q, (197 : Nat), src, (218 : Nat)] ∧
   ((∃ nw nq, nx = (x, instObj 121 dx) :: (dx, lockD w t1 t2 .none (.ref wl)) :: (wl, listOf #[] nw) :: (q, listOf #[] nq) :: ((197 : Nat), tabObj ps) :: (src, listOf #[.int a ta, .int b tb] nS) :: ((218 : Nat), tabObj #[]) :: codes) ∨
    ∃ k to tq wv qv wi nw nq, IntsAre qv wi ∧ IntsAre wv wi ∧ wi.length ≤ i ∧
      nx = (x, instObj 121 dx) :: (dx, lockD w t1 t2 (.int k to) (.ref wl)) :: (wl, listOf wv.toArray nw) :: (q, listOf (.int k tq :: qv).toArray nq) :: ((197 : Nat), tabObj ps) :: (src, listOf #[.int a ta, .int b tb] nS) :: ((218 : Nat), tabObj #[]) :: codes)
theorem loop_map {m m₀ : Str → Option Value} (h : ∀ y, y ≠ Str.ofString "fine" → y ≠ Str.ofString "turn" → m y = m₀ y) : m = fun y => if y = Str.ofString "fine" then m (Str.ofString "fine") else if y = Str.ofString "turn" then m (Str.ofString "turn") else m₀ y := by
  funext y
  by_cases h1 : y = Str.ofString "fine"
  · rw [if_pos h1, h1]
  · rw [if_neg h1]
    by_cases h2 : y = Str.ofString "turn"
    · rw [if_pos h2, h2]
    · rw [if_neg h2, h y h1 h2]
theorem range_n {v : Int} (h0 : 0 ≤ v) (h1 : v < 8) : ∃ n : Nat, Builtin.Range.rangeSize 0 (3 + v) 1 = (n : Int) ∧ n ≤ 10 ∧ Builtin.Range.small 0 (3 + v) 1 = true := by
  have : v = 0 ∨ v = 1 ∨ v = 2 ∨ v = 3 ∨ v = 4 ∨ v = 5 ∨ v = 6 ∨ v = 7 := by omega
  rcases this with rfl | rfl | rfl | rfl | rfl | rfl | rfl | rfl
  · exact ⟨3, by decide +kernel, by omega, by decide +kernel⟩
  · exact ⟨4, by decide +kernel, by omega, by decide +kernel⟩
  · exact ⟨5, by decide +kernel, by omega, by decide +kernel⟩
  · exact ⟨6, by decide +kernel, by omega, by decide +kernel⟩
  · exact ⟨7, by decide +kernel, by omega, by decide +kernel⟩
  · exact ⟨8, by decide +kernel, by omega, by decide +kernel⟩
  · exact ⟨9, by decide +kernel, by omega, by decide +kernel⟩
  · exact ⟨10, by decide +kernel, by omega, by decide +kernel⟩
theorem off_list {c : Addr} {nx : List (Addr × Obj)} (h : ∀ p ∈ nx, p.1 ≠ c) : ∀ {as : List Addr}, HasAll nx as → OffAs c as
  | [], _ => trivial
  | _ :: _, k => ⟨fun e => (let ⟨_, m⟩ := k.1; h _ m e.symm), off_list h k.2⟩
theorem own_more {codes : List (Addr × Obj)} {as bs : List Addr} (h : OwnOff codes as) (k : OwnOff codes bs) : OwnOff codes (as ++ bs) := fun p hp b hb => (List.mem_append.mp hb).elim (h p hp b) (k p hp b)
theorem own_less {codes : List (Addr × Obj)} {as bs : List Addr} (h : OwnOff codes as) (k : ∀ b ∈ bs, b ∈ as) : OwnOff codes bs := fun p hp b hb => h p hp b (k b hb)
section
variable {X : Frag} {w : World} {A₀ A : Around} {base g₀ : Heap} {outs : List Env} {p : Program} {loose : List Str} {mean : ExcName → Option Value} {mg mb : Str → Option Value} {env : Env} {body : List Stmt} {Q : Flow → Shared → Prop} {E : Value → Shared → Prop} {s s₁ : Shared} {x dx wl q src r I : Addr} {oi : Obj} {t1 t2 t₀ u₀ v₀ : Tok} {nS : Nat} {m₀ : Str → Option Value} {v a b : Int} {ta tb : Tok} {L : Addr}
theorem lock_endA {g' h' : Heap} {tk : Nat} {m' : Str → Option Value} {nw nq i : Nat} {ps : Array Value} {codes : List (Addr × Obj)} {fs : List Addr} (T : KtsTurn fs g₀ g') (ht : TabOk lamQ ps codes) (hoff : OwnOff codes (x :: dx :: wl :: q :: (197 : Nat) :: [src, (218 : Nat), I])) (hI : OffAs I [x, dx, wl, q, (197 : Nat), src, (218 : Nat)])
    (F : Fr g' L h' m') (N : News g' L h' ((I, oi) :: (x, instObj 121 dx) :: (dx, lockD w t1 t2 .none (.ref wl)) :: (wl, listOf #[] nw) :: (q, listOf #[] nq) :: ((197 : Nat), tabObj ps) :: (src, listOf #[.int a ta, .int b tb] nS) :: ((218 : Nat), tabObj #[]) :: codes))
    (hb : 0 ≤ b) (hb2 : b < 2147483648) (hm : ∀ y, y ≠ Str.ofString "fine" → y ≠ Str.ofString "turn" → m' y = m₀ y) :
    TgPost fs g₀ L (LockJ w x dx wl q src t1 t2 nS m₀ (i + 1)) I oi s₁ Q .next { s₁ with heap := h', toks := tk } := by
  refine ⟨h', tk, g', m', _, _, rfl, T, F, N, .head _, fun p hp => .tail _ hp, ?_, hm, a, ta, b, tb, ps, codes, hb, hb2, ht, own_less hoff (by simp), .inl ⟨nw, nq, rfl⟩⟩
  obtain ⟨i1, i2, i3, i4, i5, i6, i7, _⟩ := hI
  intro p hp
  simp only [List.mem_cons] at hp
  rcases hp with rfl | rfl | rfl | rfl | rfl | rfl | rfl | hp
  · exact Ne.symm i1
  · exact Ne.symm i2
  · exact Ne.symm i3
  · exact Ne.symm i4
  · exact Ne.symm i5
  · exact Ne.symm i6
  · exact Ne.symm i7
  · exact hoff p hp I (by simp)
theorem lock_endB {g' h' : Heap} {tk : Nat} {m' : Str → Option Value} {nw nq i : Nat} {k : Int} {to tq : Tok} {wv qv : List Value} {wi : List Int} {ps : Array Value} {codes : List (Addr × Obj)} {fs : List Addr} (T : KtsTurn fs g₀ g') (ht : TabOk lamQ ps codes) (hoff : OwnOff codes (x :: dx :: wl :: q :: (197 : Nat) :: [src, (218 : Nat), I])) (hI : OffAs I [x, dx, wl, q, (197 : Nat), src, (218 : Nat)])
    (iq : IntsAre qv wi) (iw : IntsAre wv wi) (hl : wi.length ≤ i + 1)
    (F : Fr g' L h' m') (N : News g' L h' ((I, oi) :: (x, instObj 121 dx) :: (dx, lockD w t1 t2 (.int k to) (.ref wl)) :: (wl, listOf wv.toArray nw) :: (q, listOf (.int k tq :: qv).toArray nq) :: ((197 : Nat), tabObj ps) :: (src, listOf #[.int a ta, .int b tb] nS) :: ((218 : Nat), tabObj #[]) :: codes))
    (hb : 0 ≤ b) (hb2 : b < 2147483648) (hm : ∀ y, y ≠ Str.ofString "fine" → y ≠ Str.ofString "turn" → m' y = m₀ y) :
    TgPost fs g₀ L (LockJ w x dx wl q src t1 t2 nS m₀ (i + 1)) I oi s₁ Q .next { s₁ with heap := h', toks := tk } := by
  refine ⟨h', tk, g', m', _, _, rfl, T, F, N, .head _, fun p hp => .tail _ hp, ?_, hm, a, ta, b, tb, ps, codes, hb, hb2, ht, own_less hoff (by simp), .inr ⟨k, to, tq, wv, qv, wi, nw, nq, iq, iw, hl, rfl⟩⟩
  obtain ⟨i1, i2, i3, i4, i5, i6, i7, _⟩ := hI
  intro p hp
  simp only [List.mem_cons] at hp
  rcases hp with rfl | rfl | rfl | rfl | rfl | rfl | rfl | hp
  · exact Ne.symm i1
  · exact Ne.symm i2
  · exact Ne.symm i3
  · exact Ne.symm i4
  · exact Ne.symm i5
  · exact Ne.symm i6
  · exact Ne.symm i7
  · exact hoff p hp I (by simp)
theorem lock_loop {D' : Addr} {oD : Obj} (hh : A.handled = none) (B : Below A₀ base outs g₀) (XB : X.In base) (TB : Top p loose mean mg mb base) (D : KtsDicts (outs.filterMap (·.frame)) g₀)
    (hr : IsRange s.heap r 0 (3 + v) 1 t₀ u₀ v₀) (h0 : 0 ≤ v) (h1 : v < 8) (F : Fr g₀ env.locals s.heap m₀)
    (N : News g₀ env.locals s.heap ((D', oD) :: (q, listOf #[] 0) :: (wl, listOf #[] 0) :: (x, instObj 121 dx) :: (dx, lockD w t1 t2 .none (.ref wl)) :: (src, listOf #[.int a ta, .int b tb] nS) :: ((218 : Nat), tabObj #[]) :: ((197 : Nat), tabObj #[]) :: []))
    (hb : 0 ≤ b) (hb2 : b < 2147483648)
    (turnA : ∀ i t g h tk I oi fv tv nw nq a ta b tb ps codes, Gd X A₀ base outs p loose mean mg mb g₀ g → TabOk lamQ ps codes → OwnOff codes (x :: dx :: wl :: q :: (197 : Nat) :: [src, (218 : Nat), I]) → OffAs I [x, dx, wl, q, (197 : Nat), src, (218 : Nat)] → 0 ≤ b → b < 2147483648 → 
      Fr g env.locals h (fun y => if y = Str.ofString "turn" then some (.int (0 + ((i : Nat) : Int)) t) else if y = Str.ofString "fine" then fv else if y = Str.ofString "turn" then tv else m₀ y) →
      News g env.locals h ((x, instObj 121 dx) :: (dx, lockD w t1 t2 .none (.ref wl)) :: (wl, listOf #[] nw) :: (q, listOf #[] nq) :: ((197 : Nat), tabObj ps) :: (src, listOf #[.int a ta, .int b tb] nS) :: ((218 : Nat), tabObj #[]) :: (I, oi) :: codes) →
      wpAny (model PySem.Challenge.rw_on0004_01.row.prog w) A (execs body env) (TgPost (outs.filterMap (·.frame)) g₀ env.locals (LockJ w x dx wl q src t1 t2 nS m₀ (i + 1)) I oi { s with heap := h, toks := tk } Q) E { s with heap := h, toks := tk })
    (turnB : ∀ i t g h tk I oi fv tv k to tq wv qv wi nw nq a ta b tb ps codes, Gd X A₀ base outs p loose mean mg mb g₀ g → IntsAre qv wi → IntsAre wv wi → wi.length ≤ i → qv.length ≤ 80 → wv.length ≤ 80 → TabOk lamQ ps codes → OwnOff codes (x :: dx :: wl :: q :: (197 : Nat) :: [src, (218 : Nat), I]) → OffAs I [x, dx, wl, q, (197 : Nat), src, (218 : Nat)] → 0 ≤ b → b < 2147483648 → 
      Fr g env.locals h (fun y => if y = Str.ofString "turn" then some (.int (0 + ((i : Nat) : Int)) t) else if y = Str.ofString "fine" then fv else if y = Str.ofString "turn" then tv else m₀ y) →
      News g env.locals h ((x, instObj 121 dx) :: (dx, lockD w t1 t2 (.int k to) (.ref wl)) :: (wl, listOf wv.toArray nw) :: (q, listOf (.int k tq :: qv).toArray nq) :: ((197 : Nat), tabObj ps) :: (src, listOf #[.int a ta, .int b tb] nS) :: ((218 : Nat), tabObj #[]) :: (I, oi) :: codes) →
      wpAny (model PySem.Challenge.rw_on0004_01.row.prog w) A (execs body env) (TgPost (outs.filterMap (·.frame)) g₀ env.locals (LockJ w x dx wl q src t1 t2 nS m₀ (i + 1)) I oi { s with heap := h, toks := tk } Q) E { s with heap := h, toks := tk })
    (done : ∀ g h tk m' a ta b tb ps, Gd X A₀ base outs p loose mean mg mb g₀ g → 0 ≤ b → b < 2147483648 → Fr g env.locals h m' → News g env.locals h [(src, listOf #[.int a ta, .int b tb] nS), ((218 : Nat), tabObj #[]), ((197 : Nat), tabObj ps)] → Q .next { s with heap := h, toks := tk }) :
    LoopG PySem.Challenge.rw_on0004_01.row.prog w A env (Str.ofString "turn") body Q E (.ref r) s := by
  obtain ⟨n, hn, hn10, hsm⟩ := range_n h0 h1
  refine ⟨r, 0, 3 + v, t₀, u₀, v₀, n, outs.filterMap (·.frame), g₀, m₀, _, LockJ w x dx wl q src t1 t2 nS m₀, rfl, hr, hsm, hn, hh, F, news_sub N (l' := (x, instObj 121 dx) :: (dx, lockD w t1 t2 .none (.ref wl)) :: (wl, listOf #[] 0) :: (q, listOf #[] 0) :: ((197 : Nat), tabObj #[]) :: (src, listOf #[.int a ta, .int b tb] nS) :: ((218 : Nat), tabObj #[]) :: []) ?_,
    ⟨fun _ _ _ => rfl, a, ta, b, tb, #[], [], hb, hb2, .nil, fun _ h => (nomatch h), .inl ⟨0, 0, rfl⟩⟩, ?_, ?_⟩
  · (repeat refine List.forall_mem_cons.mpr ⟨by k_mem, ?_⟩)
    exact fun _ h => nomatch h
  · rintro i t g m₁ nx h tk I oi hi T ⟨hm, a, ta, b, tb, ps, codes, hb, hb2, ht, hoff, hst⟩ hnI F' N'
    have hG := Gd.of B XB TB D T
    rw [loop_map hm] at F'
    rcases hst with ⟨nw, nq, rfl⟩ | ⟨k, to, tq, wv, qv, wi, nw, nq, iq, iw, hl, rfl⟩
    · have hI : OffAs I [x, dx, wl, q, (197 : Nat), src, (218 : Nat)] := off_list hnI ⟨⟨_, by k_mem⟩, ⟨_, by k_mem⟩, ⟨_, by k_mem⟩, ⟨_, by k_mem⟩, ⟨_, by k_mem⟩, ⟨_, by k_mem⟩, ⟨_, by k_mem⟩, trivial⟩
      have hcI : OwnOff codes [I] := fun p hp b hb => by rw [List.mem_singleton.mp hb]; refine hnI p ?_; (repeat (first | exact hp | refine List.Mem.tail _ ?_))
      exact turnA i t g h tk I oi _ _ nw nq a ta b tb ps codes hG ht (own_more hoff hcI) hI hb hb2 F' (news_sub N' (by (repeat refine List.forall_mem_cons.mpr ⟨by k_mem, ?_⟩); intro p hp; repeat (first | exact hp | refine List.Mem.tail _ ?_)))
    · have hI : OffAs I [x, dx, wl, q, (197 : Nat), src, (218 : Nat)] := off_list hnI ⟨⟨_, by k_mem⟩, ⟨_, by k_mem⟩, ⟨_, by k_mem⟩, ⟨_, by k_mem⟩, ⟨_, by k_mem⟩, ⟨_, by k_mem⟩, ⟨_, by k_mem⟩, trivial⟩
      have hcI : OwnOff codes [I] := fun p hp b hb => by rw [List.mem_singleton.mp hb]; refine hnI p ?_; (repeat (first | exact hp | refine List.Mem.tail _ ?_))
      have l1 := iq.length
      have l2 := iw.length
      exact turnB i t g h tk I oi _ _ k to tq wv qv wi nw nq a ta b tb ps codes hG iq iw hl (by omega) (by omega) ht (own_more hoff hcI) hI hb hb2 F' (news_sub N' (by (repeat refine List.forall_mem_cons.mpr ⟨by k_mem, ?_⟩); intro p hp; repeat (first | exact hp | refine List.Mem.tail _ ?_)))
  · rintro g m₁ nx h tk T ⟨hm, a, ta, b, tb, ps, codes, hb, hb2, ht, hoff, hst⟩ F' N'
    refine done g h tk m₁ a ta b tb ps (Gd.of B XB TB D T) hb hb2 F' (news_sub N' ?_)
    rcases hst with ⟨nw, nq, rfl⟩ | ⟨k, to, tq, wv, qv, wi, nw, nq, iq, iw, hl, rfl⟩ <;> ((repeat refine List.forall_mem_cons.mpr ⟨by k_mem, ?_⟩); exact fun _ h => nomatch h)
end
end
section
open PySem PySem.W PyProof.Rows
abbrev lamG : Str := Str.ofString "_law_group_right.<locals>.<lambda>"
def Six (y : Str) : Prop := y ≠ Str.ofString "turn" ∧ y ≠ Str.ofString "way" ∧ y ≠ Str.ofString "told" ∧ y ≠ Str.ofString "due"
abbrev gMap (cv qv tv wv dv ov : Option Value) (m₀ : Str → Option Value) : Str → Option Value := fun y => if y = Str.ofString "count" then cv else if y = Str.ofString "queue" then qv else if y = Str.ofString "turn" then tv else if y = Str.ofString "way" then wv else if y = Str.ofString "told" then dv else if y = Str.ofString "due" then ov else m₀ y
def GroupJ (w : World) (x dx src c1 c2 c3 : Addr) (t1 t2 : Tok) (nS : Nat) (pl : Array Value) (m₀ : Str → Option Value) (i : Nat) (m : Str → Option Value) (nx : List (Addr × Obj)) : Prop :=
  ∃ c tc tcm qa wl qv wv qi nw nq o1 o2 o3 v2 v3 a ta b tb ps codes tv wy dv ov,
    (∀ y, m y = gMap (some (.int c tcm)) (some (.ref qa)) tv wy dv ov m₀ y) ∧ @LE.le Int _ 0 c ∧ IntsAre qv qi ∧ IntsAre wv qi ∧ qi.length ≤ i ∧ o1.data = .cell (some (.ref x)) ∧ o2.data = .cell v2 ∧ o3.data = .cell v3 ∧ 0 ≤ b ∧ b < 2147483648 ∧ TabOk lamG ps codes ∧
    OffAs wl [x, dx, src, (218 : Nat), (197 : Nat), c1, c2, c3] ∧ OffAs qa [dx, wl, src, (218 : Nat), c2, c3] ∧ OwnOff codes [dx, wl, src, (218 : Nat), c2, c3] ∧
    nx = (x, instObj 163 dx) :: (dx, groupD w t1 t2 (.int c tc) (.ref wl)) :: (wl, listOf wv.toArray nw) :: (qa, listOf qv.toArray nq) :: (c3, o3) :: (c2, o2) :: (c1, o1) :: (src, listOf #[.int a ta, .int b tb] nS) :: ((218 : Nat), tabObj ps) :: ((197 : Nat), tabObj pl) :: codes
theorem g_map {m m₀ : Str → Option Value} {cv qv : Option Value} (mc : m (Str.ofString "count") = cv) (mq : m (Str.ofString "queue") = qv) (hm : ∀ y, y ≠ Str.ofString "count" → y ≠ Str.ofString "queue" → y ≠ Str.ofString "turn" → y ≠ Str.ofString "way" → y ≠ Str.ofString "told" → y ≠ Str.ofString "due" → m y = m₀ y) :
    ∀ y, m y = gMap cv qv (m (Str.ofString "turn")) (m (Str.ofString "way")) (m (Str.ofString "told")) (m (Str.ofString "due")) m₀ y := by
  intro y
  dsimp only [gMap]
  by_cases e1 : y = Str.ofString "count"
  · rw [if_pos e1, e1, mc]
  rw [if_neg e1]
  by_cases e2 : y = Str.ofString "queue"
  · rw [if_pos e2, e2, mq]
  rw [if_neg e2]
  by_cases e3 : y = Str.ofString "turn"
  · rw [if_pos e3, e3]
  rw [if_neg e3]
  by_cases e4 : y = Str.ofString "way"
  · rw [if_pos e4, e4]
  rw [if_neg e4]
  by_cases e5 : y = Str.ofString "told"
  · rw [if_pos e5, e5]
  rw [if_neg e5]
  by_cases e6 : y = Str.ofString "due"
  · rw [if_pos e6, e6]
  rw [if_neg e6]
  exact hm y e1 e2 e3 e4 e5 e6
theorem own_one {d : Addr} {codes : List (Addr × Obj)} (h : ∀ p ∈ codes, p.1 ≠ d) : OwnOff codes [d] := fun p hp b hb => by
  rw [List.mem_singleton.mp hb]
  exact h p hp
theorem own_lt {d : Addr} {codes : List (Addr × Obj)} (h : AllLt d codes) : OwnOff codes [d] := fun p hp b hb => by
  rw [List.mem_singleton.mp hb]
  exact Nat.ne_of_lt (kst_ltOf h p hp)
section
variable {X : Frag} {w : World} {A₀ A : Around} {base g₀ : Heap} {outs : List Env} {p : Program} {loose : List Str} {mean : ExcName → Option Value} {mg mb : Str → Option Value} {env : Env} {body : List Stmt} {Q : Flow → Shared → Prop} {E : Value → Shared → Prop} {s s₁ : Shared} {x dx src r I c1 c2 c3 : Addr} {oi : Obj} {t1 t2 t₀ u₀ v₀ : Tok} {nS : Nat} {pl : Array Value} {m₀ : Str → Option Value} {v a b : Int} {ta tb : Tok} {L : Addr}
theorem group_end {g' h' : Heap} {tk : Nat} {m' : Str → Option Value} {c : Int} {tc tcm : Tok} {qa wl : Addr} {qv wv : List Value} {qi : List Int} {nw nq i : Nat} {o1 o2 o3 : Obj} {v2 v3 : Option Value} {ps : Array Value} {codes : List (Addr × Obj)} {fs : List Addr}
    (F : Fr g' L h' m') (T : KtsTurn fs g₀ g') (ht : TabOk lamG ps codes)
    (N : News g' L h' ((I, oi) :: (x, instObj 163 dx) :: (dx, groupD w t1 t2 (.int c tc) (.ref wl)) :: (wl, listOf wv.toArray nw) :: (qa, listOf qv.toArray nq) :: (c3, o3) :: (c2, o2) :: (c1, o1) :: (src, listOf #[.int a ta, .int b tb] nS) :: ((218 : Nat), tabObj ps) :: ((197 : Nat), tabObj pl) :: codes))
    (mc : m' (Str.ofString "count") = some (.int c tcm)) (mq : m' (Str.ofString "queue") = some (.ref qa)) (hm : ∀ y, y ≠ Str.ofString "count" → y ≠ Str.ofString "queue" → y ≠ Str.ofString "turn" → y ≠ Str.ofString "way" → y ≠ Str.ofString "told" → y ≠ Str.ofString "due" → m' y = m₀ y) (hc : 0 ≤ c) (iq : IntsAre qv qi) (iw : IntsAre wv qi) (hl : qi.length ≤ i + 1) (d1 : o1.data = .cell (some (.ref x))) (d2 : o2.data = .cell v2) (d3 : o3.data = .cell v3)
    (hb : 0 ≤ b) (hb2 : b < 2147483648)
    (h1 : OffAs wl [x, dx, src, (218 : Nat), (197 : Nat), c1, c2, c3]) (h2 : OffAs qa [dx, wl, src, (218 : Nat), c2, c3]) (h3 : OwnOff codes [dx, src, (218 : Nat), c2, c3, I]) (h4 : OwnOff codes [wl])
    (hI : OffAs I [x, dx, wl, qa, c3, c2, c1, src, (218 : Nat), (197 : Nat)]) :
    TgPost fs g₀ L (GroupJ w x dx src c1 c2 c3 t1 t2 nS pl m₀ (i + 1)) I oi s₁ Q .next { s₁ with heap := h', toks := tk } := by
  refine ⟨h', tk, g', m', _, _, rfl, T, F, N, .head _, fun p hp => .tail _ hp, ?_, c, tc, tcm, qa, wl, qv, wv, qi, nw, nq, o1, o2, o3, v2, v3, a, ta, b, tb, ps, codes, _, _, _, _, g_map mc mq hm, hc, iq, iw, hl, d1, d2, d3, hb, hb2, ht, h1, h2, own_less (own_more h4 h3) (by simp), rfl⟩
  obtain ⟨i1, i2, i3, i4, i5, i6, i7, i8, i9, i10, _⟩ := hI
  intro p hp
  simp only [List.mem_cons] at hp
  rcases hp with rfl | rfl | rfl | rfl | rfl | rfl | rfl | rfl | rfl | rfl | hp
  · exact Ne.symm i1
  · exact Ne.symm i2
  · exact Ne.symm i3
  · exact Ne.symm i4
  · exact Ne.symm i5
  · exact Ne.symm i6
  · exact Ne.symm i7
  · exact Ne.symm i8
  · exact Ne.symm i9
  · exact Ne.symm i10
  · exact h3 p hp I (by simp)
abbrev Ord7 (src c1 c2 c3 dx x : Addr) : Prop := @LT.lt Nat _ (218 : Nat) src ∧ @LT.lt Nat _ (197 : Nat) src ∧ @LT.lt Nat _ src c1 ∧ @LT.lt Nat _ c1 c2 ∧ @LT.lt Nat _ c2 c3 ∧ @LT.lt Nat _ c3 dx ∧ @LT.lt Nat _ dx x
theorem group_loop {D' wl qa : Addr} {oD o1 o2 o3 : Obj} {v2 v3 : Option Value} {tc tcm : Tok} (hh : A.handled = none) (B : Below A₀ base outs g₀) (XB : X.In base) (TB : Top p loose mean mg mb base) (D : KtsDicts (outs.filterMap (·.frame)) g₀)
    (hr : IsRange s.heap r 0 (3 + v) 1 t₀ u₀ v₀) (h0 : 0 ≤ v) (h1 : v < 8) (F : Fr g₀ env.locals s.heap m₀)
    (N : News g₀ env.locals s.heap ((D', oD) :: (qa, listOf #[] 0) :: (wl, listOf #[] 0) :: (x, instObj 163 dx) :: (dx, groupD w t1 t2 (.int 0 tc) (.ref wl)) :: (c3, o3) :: (c2, o2) :: (c1, o1) :: (src, listOf #[.int a ta, .int b tb] nS) :: ((218 : Nat), tabObj #[]) :: ((197 : Nat), tabObj pl) :: []))
    (d1 : o1.data = .cell (some (.ref x))) (d2 : o2.data = .cell v2) (d3 : o3.data = .cell v3) (mc : m₀ (Str.ofString "count") = some (.int 0 tcm)) (mq : m₀ (Str.ofString "queue") = some (.ref qa)) (hb : 0 ≤ b) (hb2 : b < 2147483648)
    (f1 : OffAs wl [x, dx, src, (218 : Nat), (197 : Nat), c1, c2, c3]) (f2 : OffAs qa [dx, wl, src, (218 : Nat), c2, c3])
    (ms : m₀ (Str.ofString "source") = some (.ref src)) (ord : Ord7 src c1 c2 c3 dx x)
    (turn : ∀ mz : Str → Option Value, mz (Str.ofString "source") = some (.ref src) → Ord7 src c1 c2 c3 dx x → ∀ i t g h tk I oi c tc tcm qa wl qv wv qi nw nq o1 o2 o3 v2 v3 a ta b tb ps codes tv wy dv ov, Gd X A₀ base outs p loose mean mg mb g₀ g → 0 ≤ c → IntsAre qv qi → IntsAre wv qi → qi.length ≤ i → i < 10 → o1.data = .cell (some (.ref x)) → o2.data = .cell v2 → o3.data = .cell v3 → 0 ≤ b → b < 2147483648 → TabOk lamG ps codes →
      OffAs wl [x, dx, src, (218 : Nat), (197 : Nat), c1, c2, c3] → OffAs qa [dx, wl, src, (218 : Nat), c2, c3] → OwnOff codes [dx, wl, src, (218 : Nat), c2, c3, I] → OffAs I [x, dx, wl, qa, c3, c2, c1, src, (218 : Nat), (197 : Nat)] →
      Fr g env.locals h (fun y => if y = Str.ofString "turn" then some (.int (0 + ((i : Nat) : Int)) t) else if y = Str.ofString "source" then some (.ref src) else gMap (some (.int c tcm)) (some (.ref qa)) tv wy dv ov mz y) →
      News g env.locals h ((x, instObj 163 dx) :: (dx, groupD w t1 t2 (.int c tc) (.ref wl)) :: (wl, listOf wv.toArray nw) :: (qa, listOf qv.toArray nq) :: (c3, o3) :: (c2, o2) :: (c1, o1) :: (src, listOf #[.int a ta, .int b tb] nS) :: ((218 : Nat), tabObj ps) :: ((197 : Nat), tabObj pl) :: (I, oi) :: codes) →
      wpAny (model PySem.Challenge.rw_on0004_01.row.prog w) A (execs body env) (TgPost (outs.filterMap (·.frame)) g₀ env.locals (GroupJ w x dx src c1 c2 c3 t1 t2 nS pl mz (i + 1)) I oi { s with heap := h, toks := tk } fun _ _ => False) (fun _ _ => False) { s with heap := h, toks := tk })
    (done : ∀ g h tk m' a ta b tb ps, Gd X A₀ base outs p loose mean mg mb g₀ g → 0 ≤ b → b < 2147483648 → Fr g env.locals h m' → News g env.locals h [(src, listOf #[.int a ta, .int b tb] nS), ((218 : Nat), tabObj ps), ((197 : Nat), tabObj pl)] → Q .next { s with heap := h, toks := tk }) :
    LoopG PySem.Challenge.rw_on0004_01.row.prog w A env (Str.ofString "turn") body Q E (.ref r) s := by
  obtain ⟨n, hn, hn10, hsm⟩ := range_n h0 h1
  refine ⟨r, 0, 3 + v, t₀, u₀, v₀, n, outs.filterMap (·.frame), g₀, m₀, _, GroupJ w x dx src c1 c2 c3 t1 t2 nS pl m₀, rfl, hr, hsm, hn, hh, F, news_sub N (l' := (x, instObj 163 dx) :: (dx, groupD w t1 t2 (.int 0 tc) (.ref wl)) :: (wl, listOf #[] 0) :: (qa, listOf #[] 0) :: (c3, o3) :: (c2, o2) :: (c1, o1) :: (src, listOf #[.int a ta, .int b tb] nS) :: ((218 : Nat), tabObj #[]) :: ((197 : Nat), tabObj pl) :: []) ?_,
    ⟨0, tc, tcm, qa, wl, [], [], [], 0, 0, o1, o2, o3, v2, v3, a, ta, b, tb, #[], [], m₀ (Str.ofString "turn"), m₀ (Str.ofString "way"), m₀ (Str.ofString "told"), m₀ (Str.ofString "due"), ?_, by omega, .nil, .nil, Nat.zero_le _, d1, d2, d3, hb, hb2, .nil, f1, f2, fun _ h => (nomatch h), rfl⟩, ?_, ?_⟩
  · (repeat refine List.forall_mem_cons.mpr ⟨by k_mem, ?_⟩)
    exact fun _ h => nomatch h
  · intro y
    dsimp only [gMap]
    by_cases e1 : y = Str.ofString "count"
    · rw [if_pos e1, e1, mc]
    rw [if_neg e1]
    by_cases e2 : y = Str.ofString "queue"
    · rw [if_pos e2, e2, mq]
    rw [if_neg e2]
    by_cases e3 : y = Str.ofString "turn"
    · rw [if_pos e3, e3]
    rw [if_neg e3]
    by_cases e4 : y = Str.ofString "way"
    · rw [if_pos e4, e4]
    rw [if_neg e4]
    by_cases e5 : y = Str.ofString "told"
    · rw [if_pos e5, e5]
    rw [if_neg e5]
    by_cases e6 : y = Str.ofString "due"
    · rw [if_pos e6, e6]
    rw [if_neg e6]
  · rintro i t g m₁ nx h tk I oi hi T ⟨c, tc, tcm, qa, wl, qv, wv, qi, nw, nq, o1, o2, o3, v2, v3, a, ta, b, tb, ps, codes, tv, wy, dv, ov, hm, hc, iq, iw, hl, d1, d2, d3, hb, hb2, ht, f1, f2, f3, rfl⟩ hnI F' N'
    have hG := Gd.of B XB TB D T
    rw [funext hm] at F'
    have hI : OffAs I [x, dx, wl, qa, c3, c2, c1, src, (218 : Nat), (197 : Nat)] := off_list hnI ⟨⟨_, by k_mem⟩, ⟨_, by k_mem⟩, ⟨_, by k_mem⟩, ⟨_, by k_mem⟩, ⟨_, by k_mem⟩, ⟨_, by k_mem⟩, ⟨_, by k_mem⟩, ⟨_, by k_mem⟩, ⟨_, by k_mem⟩, ⟨_, by k_mem⟩, trivial⟩
    have hcI : OwnOff codes [I] := fun p hp b hb => by rw [List.mem_singleton.mp hb]; refine hnI p ?_; (repeat (first | exact hp | refine List.Mem.tail _ ?_))
    have em : (fun y => if y = Str.ofString "turn" then some (.int (0 + ((i : Nat) : Int)) t) else gMap (some (.int c tcm)) (some (.ref qa)) tv wy dv ov m₀ y) = fun y => if y = Str.ofString "turn" then some (.int (0 + ((i : Nat) : Int)) t) else if y = Str.ofString "source" then some (.ref src) else gMap (some (.int c tcm)) (some (.ref qa)) tv wy dv ov m₀ y := by
      funext y
      by_cases e1 : y = Str.ofString "turn"
      · rw [if_pos e1, if_pos e1]
      rw [if_neg e1, if_neg e1]
      by_cases e2 : y = Str.ofString "source"
      · rw [if_pos e2, e2]
        dsimp only [gMap]
        rw [if_neg (by decide), if_neg (by decide), if_neg (by decide), if_neg (by decide), if_neg (by decide), if_neg (by decide), ms]
      · rw [if_neg e2]
    rw [em] at F'
    refine wpAny_mono (turn m₀ ms ord i t g h tk I oi c tc tcm qa wl qv wv qi nw nq o1 o2 o3 v2 v3 a ta b tb ps codes tv wy dv ov hG hc iq iw hl (by omega) d1 d2 d3 hb hb2 ht f1 f2 (own_more f3 hcI) hI F' ?_) (fun f s2 z => by cases f <;> first | exact z | exact z.elim) (fun _ _ z => z.elim)
    exact (news_sub N' (by (repeat refine List.forall_mem_cons.mpr ⟨by k_mem, ?_⟩); intro p hp; repeat (first | exact hp | refine List.Mem.tail _ ?_)))
  · rintro g m₁ nx h tk T ⟨c, tc, tcm, qa, wl, qv, wv, qi, nw, nq, o1, o2, o3, v2, v3, a, ta, b, tb, ps, codes, tv, wy, dv, ov, hm, hc, iq, iw, hl, d1, d2, d3, hb, hb2, ht, f1, f2, f3, rfl⟩ F' N'
    exact done g h tk m₁ a ta b tb ps (Gd.of B XB TB D T) hb hb2 F' (news_sub N' (by (repeat refine List.forall_mem_cons.mpr ⟨by k_mem, ?_⟩); exact fun _ h => nomatch h))
end
end
section
open PySem PySem.W PyProof.Rows PySem.Calls
local macro_rules | `(tactic| k_all) => `(tactic| ((repeat (refine List.forall_mem_cons.mpr ⟨?_, ?_⟩; k_ne)); first | kst_allNe | exact List.forall_mem_nil _ | assumption))
local macro_rules | `(tactic| k_ne) => `(tactic| (refine neN ?_; (try dsimp only); first | with_reducible assumption | (refine Ne.symm ?_; with_reducible assumption) | omega))
local macro_rules | `(tactic| k_in) => `(tactic| exact Frag.In.keeps (by with_reducible assumption) (Fr.keep (by with_reducible assumption)))
local macro_rules | `(tactic| k_lt $h:ident) => `(tactic| (replace $h := allLt_of $h; dsimp only [AllLt] at $h:ident))
local macro_rules | `(tactic| ke_read) => `(tactic| exact reads_tuple_at (Fr.keep (by k_asm) _ _ ((by k_asm : Frag.In _ _) _ _ (by k_is))) rfl rfl (by ke_reads))
local macro_rules | `(tactic| ke_read) => `(tactic| first
  | with_reducible exact Reads.int _ _
  | with_reducible exact Reads.none
  | with_reducible exact Reads.str _ _
  | (refine' reads_tuple_at (Fr.keep ?F _ _ (?X _ _ ?l)) rfl rfl ?r; (case F => with_reducible assumption); (case X => with_reducible assumption); (case l => k_is); (case r => ke_reads))
  | (refine' reads_list_at (News.get ?N ?m) rfl rfl ?r; (case N => with_reducible assumption); (case m => k_mem); (case r => ke_reads))
  | (refine' reads_tuple_at (News.get ?N ?m) rfl rfl ?r; (case N => with_reducible assumption); (case m => k_mem); (case r => ke_reads)))
set_option maxRecDepth 100000 in
set_option maxHeartbeats 8000000 in
theorem take_spec {w : World} {p : Program} {loose : List Str} {mean : ExcName → Option Value} {mg mb : Str → Option Value} {src : Addr} {a b : Int} {ta tb : Tok} {n : Nat} {rest : List (Addr × Obj)} {top : Int} {tt : Tok}
    {dp un : Nat} {gd : Option (List Code)} {cn : Str} {cs : Scope} {ca : Addr} {ccd : Value} {cl : List (Str × Addr)} {outer : List Env} {A₀ : Around} {base h₀ : Heap} {L : Addr} {m : Str → Option Value} {s : Shared} {Q E : Value → Shared → Prop}
    (B : Below A₀ base outer h₀) (F : Fr h₀ L s.heap m)
    (N : News h₀ L s.heap ((src, listOf #[.int a ta, .int b tb] n) :: rest)) (l1 : ∀ q ∈ rest, q.1 ≠ src) (T : Top p loose mean mg mb h₀) (hk : cs.kind = .function)
    (ht : 0 < top) (ht2 : top < 64) (hb : 0 ≤ b) (hb2 : b < 2147483648) (hdp : dp + 1 < recursionLimit) (hun : un + 8 < cLine)
    (hret : ∀ r t a' ta' b' tb' h' tk', 0 ≤ r → r < top → 0 ≤ b' → b' < 2147483648 → Fr h₀ L h' m → News h₀ L h' ((src, listOf #[.int a' ta', .int b' tb'] n) :: rest) → Q (.int r t) { s with heap := h', toks := tk' }) :
    (Mine.pre.heap_1_39 w.params).In h₀ → wpAny (model PySem.Challenge.rw_on0004_01.row.prog w) (ktrTop dp un gd cn cs L ca ccd cl outer) (call (.ref 181) [.ref src, .int top tt]) Q E s := by
  w_top off
  k_fill
  intro X
  refine wpAny_call ?_
  k_dflt cell_enter
  repeat' (first
    | (k_unfold; (try dsimp only))
    | ((with_reducible show wpAny _ _ (binaryOp Operator.Mult (Value.int _ _) (Value.int _ _)) _ _ _); k_here; refine PyProof.Rows.mul_int ?_ (mul_ok_small ?_ ?_); rotate_left; (exact fm_lo (by decide)); (exact fm_hi' (by decide) (by decide)))
    | (k_end; wrow_close)
    | walk1
    | (dsimp only; walk1)
    | (leave1; (try dsimp only))
    | fail "no step")
  all_goals first
    | exact hret _ _ _ _ _ _ _ _ (fm_lo ht) (fm_hi ht) hb hb2 (by k_asm) (by k_asm)
    | (refine hret _ _ _ _ _ _ _ _ (fm_lo ht) (fm_hi ht) ?_ ?_ (by k_asm) (by k_asm); exact fm_lo (by decide); exact fm_hi' (by decide) (by decide))
set_option maxRecDepth 100000 in
set_option maxHeartbeats 8000000 in
theorem pool_spec {w : World} {p : Program} {loose : List Str} {mean : ExcName → Option Value} {mg mb : Str → Option Value} {sl : Addr} {vs : List Value} {ns : List Int} {news : List (Addr × Obj)} {tt : Tok}
    {dp un : Nat} {gd : Option (List Code)} {cn : Str} {cs : Scope} {ca : Addr} {ccd : Value} {cl : List (Str × Addr)} {outer : List Env} {A₀ : Around} {base h₀ : Heap} {L : Addr} {m : Str → Option Value} {s : Shared} {Q E : Value → Shared → Prop}
    (B : Below A₀ base outer h₀) (F : Fr h₀ L s.heap m)
    (N : News h₀ L s.heap news) (T : Top p loose mean mg mb h₀) (hk : cs.kind = .function)
    (hl : base.IsList sl vs.toArray) (hi : IntsAre vs ns) (hn : ns.length < 2 ^ 62) (hdp : dp + 1 < recursionLimit) (hun : un + 8 < cLine)
    (hret : ∀ l a ta b tb n h' tk', 0 ≤ b → b < 2147483648 → Fr h₀ L h' m → News h₀ L h' ((l, listOf #[.int a ta, .int b tb] n) :: news) → (∀ q ∈ news, q.1 < l) → Q (.ref l) { s with heap := h', toks := tk' }) :
    (Mine.pre.heap_1_39 w.params).In h₀ → wpAny (model PySem.Challenge.rw_on0004_01.row.prog w) (ktrTop dp un gd cn cs L ca ccd cl outer) (call (.ref 174) [.ref sl, .int 0 tt]) Q E s := by
  k_fill
  intro X
  refine wpAny_call ?_
  k_dflt cell_enter
  k_steps
  all_goals (refine hret _ _ _ _ _ _ _ _ ?_ ?_ (by k_asm) (by k_asm) (by first | assumption | exact kst_ltOf (by assumption)); exact fm_lo (by decide); exact fm_hi' (by decide) (by decide))
set_option maxRecDepth 100000 in
set_option maxHeartbeats 8000000 in
theorem take_at {w : World} {p : Program} {loose : List Str} {mean : ExcName → Option Value} {mg mb : Str → Option Value} {src : Addr} {a b : Int} {ta tb : Tok} {n : Nat} {news : List (Addr × Obj)} {g : Obj → List (Addr × Obj)} {top : Int} {tt : Tok}
    {dp un : Nat} {gd : Option (List Code)} {cn : Str} {cs : Scope} {ca : Addr} {ccd : Value} {cl : List (Str × Addr)} {outer : List Env} {A₀ : Around} {base h₀ : Heap} {L : Addr} {m : Str → Option Value} {s : Shared} {Q E : Value → Shared → Prop}
    (B : Below A₀ base outer h₀) (F : Fr h₀ L s.heap m) (X : (Mine.pre.heap_1_39 w.params).In h₀)
    (N : News h₀ L s.heap news) (U : UpdF src (listOf #[.int a ta, .int b tb] n) news g) (T : Top p loose mean mg mb h₀) (hk : cs.kind = .function)
    (ht : 0 < top) (ht2 : top < 64) (hb : 0 ≤ b) (hb2 : b < 2147483648) (hdp : dp + 1 < recursionLimit) (hun : un + 8 < cLine)
    (hret : ∀ r t a' ta' b' tb' h' tk', 0 ≤ r → r < top → 0 ≤ b' → b' < 2147483648 → Fr h₀ L h' m → News h₀ L h' (g (listOf #[.int a' ta', .int b' tb'] n)) → Q (.int r t) { s with heap := h', toks := tk' }) :
    wpAny (model PySem.Challenge.rw_on0004_01.row.prog w) (ktrTop dp un gd cn cs L ca ccd cl outer) (call (.ref 181) [.ref src, .int top tt]) Q E s := by
  obtain ⟨pre, post, rfl, hg, h1, h2⟩ := U.split
  have N' : News h₀ L s.heap ((src, listOf #[.int a ta, .int b tb] n) :: (pre ++ post)) := fun p hp => N p (by
    simp only [List.mem_cons, List.mem_append] at hp ⊢
    rcases hp with h | h | h <;> simp [h])
  refine take_spec B F N' (fun q hq => (List.mem_append.mp hq).elim (h1 q) (h2 q)) T hk ht ht2 hb hb2 hdp hun (fun r t a' ta' b' tb' h' tk' r0 r1 b0 b1 F' N'' => ?_) X
  refine hret r t a' ta' b' tb' h' tk' r0 r1 b0 b1 F' (fun q hq => N'' q ?_)
  rw [hg] at hq
  simp only [List.mem_cons, List.mem_append] at hq ⊢
  rcases hq with h | h | h <;> simp [h]
set_option maxRecDepth 100000 in
set_option maxHeartbeats 8000000 in
theorem panic_spec {w : World} {p : Program} {loose : List Str} {mean : ExcName → Option Value} {mg mb : Str → Option Value} {gd : Option (List Code)} {cn : Str} {cs : Scope} {ca : Addr} {ccd : Value} {cl : List (Str × Addr)} {outer : List Env} {A₀ : Around} {base h₀ : Heap} {L : Addr} {m : Str → Option Value} {s : Shared} {Q E : Value → Shared → Prop} {news : List (Addr × Obj)} {x : Str} {b : Array UInt8} {tt : Tok}
    (B : Below A₀ base outer h₀) (F : Fr h₀ L s.heap m) (N : News h₀ L s.heap news) (T : Top p loose mean mg mb h₀) (hk : cs.kind = .function)
    (he : ∀ t u, Builtin.«str.encode» ⟨[.str x t, .str (Str.ofString "ascii") u], []⟩ = (mkBytes b >>= fun v => ret v)) (hb : b.size ≤ sizeLine)
    (hret : ∀ e t d t2 D h' tk ta tb tc td te u1 u2 u3, Fr h₀ L h' m → News h₀ L h' ((d, dictOf [⟨PyData.keyHash w.params (Str.ofString "message"), .str (Str.ofString "message") ta, .str (Str.ofString "panic") u1⟩, ⟨PyData.keyHash w.params (Str.ofString "spot"), .str (Str.ofString "spot") tb, .int 0 te⟩, ⟨PyData.keyHash w.params (Str.ofString "value"), .str (Str.ofString "value") tc, .ref D⟩] 3) :: (t, tupO [.str (Str.ofString "panic") td]) :: (e, excObj 71 t (some d)) :: (t2, tupO [.ref D]) :: (D, { cls := .type "tuple", data := .seq #[.str (Str.ofString "face") u2, .ref 74, .bytes b u3] }) :: news) →
      OffAs e [d, t, t2, D] → (∀ q ∈ news, q.1 < D) → @LT.lt Nat _ D e → Q (.ref e) { s with heap := h', toks := tk }) :
    (Mine.pre.heap_1_39 w.params).In h₀ → wpAny (model PySem.Challenge.rw_on0004_01.row.prog w) (ktrTop 306 19 gd cn cs L ca ccd cl outer) (call (.ref 81) [.str x tt]) Q E s := by
  k_fill
  intro X
  refine wpAny_call ?_
  k_dflt cell_enter
  repeat' (first
    | (k_unfold; (try dsimp only))
    | ((with_reducible show wpAny _ _ (getMethod (Value.str _ _) _ _) _ _ _); with_reducible refine enc_method ?_)
    | ((with_reducible show wpAny _ _ (call (Value.builtin "str.encode") _ _) _ _ _); (refine enc_call (he _ _) hb ?_))
    | ((k_here; (first | ((with_reducible show wpAny _ _ (callWith _ (Value.ref _) _ (backTo _ (starEach [] _)) []) _ _ _); k_dflt (refine' callWith_K0 ?k1_z9 ?k2_z9 ?_; (case k1_z9 => exact Frag.In.keeps (by with_reducible assumption) (Fr.keep (by with_reducible assumption))); (case k2_z9 => k_is); k_whole)) | ((with_reducible show wpAny _ _ (callWith _ (Value.ref _) _ (backTo _ (starEach (_ :: _) _)) []) _ _ _); k_dflt (refine' callWith_K ?k1_z9 ?k2_z9 ?_; (case k1_z9 => with_reducible assumption); (case k2_z9 => k_is); k_whole)))))
    | ((k_here; first | ((with_reducible show wpAny _ _ (callWith _ (Value.ref _) _ (backTo _ (starEach [] _)) []) _ _ _); k_dflt (first | (refine' callWith_M0 ?k1_z9 ?k2_z9 ?_; (case k1_z9 => k_meth); (case k2_z9 => k_is); k_whole; try dsimp only [List.nil_append, List.cons_append]) | (refine' callWith_F0 ?k1_z9 ?_; (case k1_z9 => exact FnAt.of (by k_asm) (by k_mem)); k_whole; try dsimp only [List.nil_append, List.cons_append]) | (refine' callWith_K0 ?k1_z9 ?k2_z9 ?_; (case k1_z9 => k_in); (case k2_z9 => k_is); k_whole))) | ((with_reducible show wpAny _ _ (callWith _ (Value.ref _) _ (backTo _ (starEach (_ :: _) _)) []) _ _ _); k_dflt (first | (refine' callWith_M ?k1_z9 ?k2_z9 ?k3_z9 ?k4_z9 ?_; (case k1_z9 => k_asm); (case k2_z9 => k_asm); (case k3_z9 => k_mem); (case k4_z9 => k_is); k_whole) | (refine' callWith_F ?k1_z9 ?_; (case k1_z9 => exact FnAt.of (by k_asm) (by k_mem)); k_whole) | (refine' callWith_K ?k1_z9 ?k2_z9 ?_; (case k1_z9 => k_asm); (case k2_z9 => k_is); k_whole)))))
    | ((with_reducible show wpAny _ _ (call (Value.builtin "Exception.__init__") _ _) _ _ _); (k_here; k_dflt (refine' exc_init ?k1_z9 ?k2_z9 ?k3_z9 ?k4_z9 ?k5_z9 ?k6_z9 ?k7_z9 ?_; (case k1_z9 => k_asm); (case k2_z9 => k_asm); (case k3_z9 => k_asm); (case k4_z9 => k_updF); (case k5_z9 => k_is); (case k6_z9 => rfl); (case k7_z9 => size_fits); k_whole); intro t' h' F' N' l1; (try dsimp only at N'); (try k_lt l1); (try k_sweep)))
    | ((with_reducible show wpAny _ _ (getMethod (Value.type "Exception") _ _) _ _ _); (k_here; k_dflt (refine' method_type ?k1_z9 ?k2_z9 ?k3_z9 ?k4_z9 ?k5_z9 ?k6_z9 ?_; (case k1_z9 => k_asm); (case k2_z9 => k_asm); (case k3_z9 => kernel_rfl); (case k4_z9 => decide +kernel); (case k5_z9 => k_is); (case k6_z9 => k_handed); k_whole)))
    | ((with_reducible show wpAny _ _ (setAttr (Value.ref _) _ _) _ _ _); (k_here; k_dflt (first | (refine' set_exc0 (pre := [_, .ref 32]) ?k1_z9 ?k2_z9 ?k3_z9 ?k4_z9 ?k5_z9 ?k6_z9 ?k7_z9 ?k8_z9 ?k9_z9 ?k10_z9 ?_; (case k1_z9 => k_asm); (case k2_z9 => k_asm); (case k3_z9 => k_asm); (case k4_z9 => k_updF); (case k5_z9 => k_is); (case k6_z9 => k_is); (case k7_z9 => rfl); (case k8_z9 => rfl); (case k9_z9 => k_is); (case k10_z9 => rfl); k_whole; intro d' h' F' N' l1; (try dsimp only at N'); (try k_lt l1); (try k_sweep)) | (refine' set_excN (pre := [_, .ref 32]) ?k1_z9 ?k2_z9 ?k3_z9 ?k4_z9 ?k4d_z9 ?k5_z9 ?k6_z9 ?k7_z9 ?k8_z9 ?k9_z9 ?k10_z9 ?k11_z9 ?k12_z9 ?k13_z9 ?k14_z9 ?_; (case k1_z9 => k_asm); (case k2_z9 => k_asm); (case k3_z9 => k_asm); (case k4_z9 => k_mem); (case k4d_z9 => k_mem); (case k6_z9 => k_is); (case k7_z9 => k_is); (case k8_z9 => rfl); (case k9_z9 => rfl); (case k10_z9 => k_is); (case k11_z9 => rfl); (case k12_z9 => k_get); (case k13_z9 => k_put); (case k5_z9 => k_upd); (case k14_z9 => exact Nat.le_of_ble_eq_true rfl); k_whole; intro h' F' N'; (try k_sweep)))))
    | ((k_here; (first | (with_reducible show wpAny _ _ (call (Value.ref 71) _) _ _ _) | (with_reducible show wpAny _ _ (call (Value.ref 52) _) _ _ _)); k_dflt (refine' exc_call ?k1_z9 ?k2_z9 ?k3_z9 ?k4_z9 ?k5_z9 ?k6_z9 PySem.F.excBase_Exception ?k7_z9 ?k8_z9 ?k9_z9 ?k10_z9 ?_; (case k1_z9 => k_asm); (case k2_z9 => k_asm); (case k3_z9 => k_asm); (case k4_z9 => k_is); (case k5_z9 => k_is); (case k6_z9 => k_is); (case k7_z9 => rfl); (case k8_z9 => rfl); (case k9_z9 => rfl); (case k10_z9 => size_fits); k_whole); intro t' e' h' F' N' l1 l2; (try k_lt l1); (try k_lt l2); (try k_sweep)))
    | (k_end; kc_close)
    | walk1
    | (dsimp only; walk1)
    | (leave1; (try dsimp only))
    | fail "no step")
  all_goals (refine' hret _ _ _ _ _ _ _ ?ta ?tb ?tc ?td ?te ?u1 ?u2 ?u3 (by assumption) ?N ?off ?lt ?le; (case N => assumption); (case off => exact ⟨by k_ne, by k_ne, by k_ne, by k_ne, trivial⟩); (case lt => first | assumption | exact fun q hq => kst_ltOf (by assumption) q hq); (case le => omega))
set_option maxRecDepth 100000 in
set_option maxHeartbeats 8000000 in
theorem told_spec {w : World} {p : Program} {loose : List Str} {mean : ExcName → Option Value} {mg mb : Str → Option Value} {gd : Option (List Code)} {cn : Str} {cs : Scope} {ca : Addr} {ccd : Value} {cl : List (Str × Addr)} {outer : List Env} {A₀ : Around} {base h₀ : Heap} {L : Addr} {m : Str → Option Value} {s : Shared} {Q E : Value → Shared → Prop} {news : List (Addr × Obj)} {c : Value}
    (B : Below A₀ base outer h₀) (F : Fr h₀ L s.heap m) (N : News h₀ L s.heap news) (T : Top p loose mean mg mb h₀) (XB : (Mine.pre.heap_1_39 w.params).In base) (TB : Top p loose mean mg mb base) (D : KtsDicts (outer.filterMap (·.frame)) h₀) (hk : cs.kind = .function)
    (hdp : dp < recursionLimit) (hun : un + 3 + 64 < cLine) (hcb : ∀ g L' h', News g L' h' news → (Mine.pre.heap_1_39 w.params).In h' → Callable (model PySem.Challenge.rw_on0004_01.row.prog w) c h')
    (inner : ∀ cn' ns' ca' ccd' g L' h' tk' m', (∀ q ∈ news, q.1 < L') → Fr g L' h' m' → News g L' h' news → Below (ktrTop dp un gd cn cs L ca ccd cl outer) base (envX cn cs L ca ccd cl :: outer) g → (Mine.pre.heap_1_39 w.params).In g → Top p loose mean mg mb g → KtsDicts ((envX cn cs L ca ccd cl :: outer).filterMap (·.frame)) g →
      wpAny (model PySem.Challenge.rw_on0004_01.row.prog w) (ktrTop (dp + 1) (un + 3) gd cn' { kind := .function, names := ns', isGenerator := false, isCoroutine := false } L' ca' ccd' [] (envX cn cs L ca ccd cl :: outer)) (call c [])
        (fun v s' => LeaveG ((envX cn cs L ca ccd cl :: outer).filterMap (·.frame)) A₀ base outer (Mine.pre.heap_1_39 w.params) p loose mean mg mb h₀ L m g (fun r s' => match r with | .ok (.ret v) => Q v s' | .ok _ => False | .error e => E e s') v s')
        (ToldE (Mine.pre.heap_1_39 w.params) A₀ base outer p loose mean mg mb h₀ L m (envX cn' { kind := .function, names := ns', isGenerator := false, isCoroutine := false } L' ca' ccd' [] :: envX cn cs L ca ccd cl :: outer) g L' m' s Q) { s with heap := h', toks := tk' }) :
    (Mine.pre.heap_1_39 w.params).In h₀ → wpAny (model PySem.Challenge.rw_on0004_01.row.prog w) (ktrTop dp un gd cn cs L ca ccd cl outer) (call (.ref 195) [c]) Q E s := by
  k_fill
  intro X
  repeat' (first
    | (k_unfold; (try dsimp only))
    | ((with_reducible show wpAny _ _ (execs (_ :: _) _) _ _ _); (refine nrmS (by with_reducible assumption) ?_); intro tk'; refine wpAny_execs_cons ?_)
    | ((with_reducible show wpAny _ _ (callWith _ c _ _ _) _ _ _); (refine callWith_C0 (hcb _ _ _ (by assumption) (by k_in)) ?_); (try dsimp only [List.nil_append]))
    | ((with_reducible show wpAny _ _ (call c _) _ _ _); refine wpAny_mono (inner _ _ _ _ _ _ _ _ _ (by assumption) (by assumption) (by assumption) (by assumption) (by assumption) (by assumption) (by assumption)) (fun v s' z => ?_) (fun e s' z => ?_); (exact z); (obtain ⟨x, d, es, n, keep, G, h', tk, rfl, rfl, FG, U, z⟩ := z; rcases z with ⟨Dv, u2, b, u3, hg, R, aft⟩ | ⟨k, u3, hg, R, aft⟩))
    | ((with_reducible show wpAny _ _ (compareOp CmpOp.NotEq (Value.ref _) (Value.ref _)) _ _ _); (k_here; k_dflt (refine ne_dataH (by ke_read) (by ke_read) (by ke_shaped) (by ke_shaped) (by exact hun) ?_); ke_norm))
    | ((with_reducible show wpAny _ _ (noteFrame (Value.ref _) _) _ _ _); (k_here; (rename RaisedG _ _ _ _ _ _ _ _ => rkX); (refine caughtG (by assumption) (by assumption) (by assumption) ?_; intro h' Y'; first | (refine' matchG Y' ?F_z9 ?K_z9 ?XB_z9 ?TB_z9 ?D_z9 ?T0_z9 ?ex_z9 ?hC_z9 ?hb_z9 ?_ ?h1_z9 ?h2_z9 ?h3_z9 ?h4_z9; (case F_z9 => assumption); (case K_z9 => assumption); (case XB_z9 => assumption); (case TB_z9 => assumption); (case D_z9 => assumption); (case T0_z9 => first | assumption | exact KtsTurn.refl); (case ex_z9 => k_dflt k_is); (case hC_z9 => k_dflt k_is); (case hb_z9 => rfl); (case h1_z9 => rfl); (case h2_z9 => rfl); (case h3_z9 => rfl); (case h4_z9 => decide); k_whole; intro h' g' vs' sl' tk' T' F' N' K' X' P' D'; (try k_lift K'); (try k_sweep)) | (refine' passG Y' ?F_z9 ?K_z9 ?XB_z9 ?TB_z9 ?ex_z9 ?hC_z9 ?hC'_z9 ?hb_z9 ?hn_z9 ?_ ?h1_z9 ?h3_z9 ?h4_z9; (case F_z9 => assumption); (case K_z9 => assumption); (case XB_z9 => assumption); (case TB_z9 => assumption); (case ex_z9 => k_dflt k_is); (case hC_z9 => k_dflt k_is); (case hC'_z9 => k_dflt k_is); (case hb_z9 => rfl); (case hn_z9 => rfl); (case h1_z9 => rfl); (case h3_z9 => rfl); (case h4_z9 => decide); refine' matchG Y' ?F_z9 ?K_z9 ?XB_z9 ?TB_z9 ?D_z9 ?T0_z9 ?ex_z9 ?hC_z9 ?hb_z9 ?_ ?h1_z9 ?h2_z9 ?h3_z9 ?h4_z9; (case F_z9 => assumption); (case K_z9 => assumption); (case XB_z9 => assumption); (case TB_z9 => assumption); (case D_z9 => assumption); (case T0_z9 => first | assumption | exact KtsTurn.refl); (case ex_z9 => k_dflt k_is); (case hC_z9 => k_dflt k_is); (case hb_z9 => rfl); (case h1_z9 => rfl); (case h2_z9 => rfl); (case h3_z9 => rfl); (case h4_z9 => decide); k_whole; intro h' g' vs' sl' tk' T' F' N' K' X' P' D'; (try k_lift K'); (try k_sweep)))))
    | ((with_reducible show wpAny _ _ (subscriptTail (Expr.Name ..) (Expr.Slice ..) (Value.ref _) (Value.ref _)) _ _ _); (k_here; (k_dflt (refine' slice_two ?F_z9 ?N_z9 ?l_z9 ?_ ?s_z9 ?t_z9; (case F_z9 => k_asm); (case N_z9 => k_asm); (case l_z9 => k_mem); (case s_z9 => with_unfolding_all rfl); (case t_z9 => intro _; with_unfolding_all rfl); k_whole); intro D' h' F' N' l1; (try k_lt l1); (try k_sweep))))
    | ((with_reducible show wpAny _ _ (getAttr (Value.ref _) _ _) _ _ _); (k_here; k_dflt (refine' get_excN ?k1_z9 ?k2_z9 ?k3_z9 ?k4_z9 ?k5_z9 ?k6_z9 ?k7_z9 ?k8_z9 ?k9_z9 ?k10_z9 ?k11_z9 ?k12_z9 ?k13_z9 ?_; (case k1_z9 => k_asm); (case k2_z9 => k_asm); (case k3_z9 => k_asm); (case k4_z9 => k_mem); (case k5_z9 => k_mem); (case k6_z9 => k_is); (case k7_z9 => k_is); (case k8_z9 => first | k_is | kernel_rfl); (case k9_z9 => k_is); (case k10_z9 => k_is); (case k11_z9 => k_is); (case k12_z9 => first | assumption | k_get); (case k13_z9 => k_handed); k_whole)))
    | ((with_reducible show LeaveG _ _ _ _ _ _ _ _ _ _ _ _ _ _ _ _ _); ((k_dflt (refine' leaveG_ ?F_z9 ?N_z9 ?T_z9 ?_; (case F_z9 => k_asm); (case N_z9 => k_asm); (case T_z9 => first | assumption | exact KtsTurn.refl); k_whole)); intro kg kT kF kN kB kX₀ kP kD; (have kX := kFor kF kX₀); (try k_lift kB); kts_tail))
    | ((k_here; (first | (with_reducible show wpAny _ _ (call (Value.ref 195) _) _ _ _) | (with_reducible show wpAny _ _ (call (Value.ref 209) _) _ _ _)); k_dflt (refine wpAny_call ?_; refine' code_plainG ?k1_z9 ?k2_z9 ?k3_z9 ?k4_z9 ?k5_z9 ?XB_z9 ?TB_z9 ?D_z9 ?T0_z9 ?kA_z9 ?kF_z9 ?kK_z9 ?k6_z9 ?k7_z9 ?k8_z9 ?k9_z9 ?kB_z9 ?_ ?c2_z9 ?c3_z9 ?c4_z9 ?c5_z9; (case kA_z9 => exact rfl); (case kF_z9 => exact rfl); (case kK_z9 => first | assumption | exact rfl); (case k2_z9 => k_asm); (case k1_z9 => k_asm); (case XB_z9 => assumption); (case TB_z9 => assumption); (case D_z9 => assumption); (case T0_z9 => first | assumption | exact KtsTurn.refl); (case k3_z9 => k_asm); (case k4_z9 => k_asm); (case k5_z9 => k_asm); (case k6_z9 => k_is); (case k7_z9 => k_is); (case k8_z9 => exact hdp); (case k9_z9 => exact BindsTo.of_eq rfl); (case kB_z9 => exact locs rfl); (case c2_z9 => exact rfl); (case c3_z9 => exact rfl); (case c4_z9 => exact rfl); (case c5_z9 => decide); k_whole; intro g' L' h' FG' F' N' B' X' T' D' l1; (try k_lt l1); (try dsimp only); (try k_lift B'); (try k_fold))))
    | (k_end; kc_close)
    | walk1
    | (dsimp only; walk1)
    | (leave1; (try dsimp only))
    | fail "no step")
  all_goals (refine' aft _ _ _ _ (Gd.of B XB TB D (by assumption)) ?F (news_sub ?N ?sub); (case F => assumption); (case N => assumption); (case sub => (intro p hp; repeat (first | exact hp | refine' List.Mem.tail _ ?_))))
set_option maxRecDepth 100000 in
set_option maxHeartbeats 8000000 in
theorem m_lock_free {w : World} {p : Program} {loose : List Str} {mean : ExcName → Option Value} {mg mb : Str → Option Value} {gd : Option (List Code)} {cn : Str} {cs : Scope} {ca : Addr} {ccd : Value} {cl : List (Str × Addr)} {outer : List Env} {A₀ : Around} {base h₀ : Heap} {L : Addr} {m : Str → Option Value} {s : Shared} {Q E : Value → Shared → Prop} {news n1 n2 : List (Addr × Obj)} {x dx wl : Addr} {t1 t2 : Tok} {dp un : Nat} {k : Int} {tk0 : Tok} {o2 : Obj}
    (B : Below A₀ base outer h₀) (F : Fr h₀ L s.heap m) (N : News h₀ L s.heap news) (T : Top p loose mean mg mb h₀) (hk : cs.kind = .function) (hdp : dp < recursionLimit) (hun : un + 3 + 64 < cLine) (_x0 : (x, instObj 121 dx) ∈ news) (_x1 : (dx, lockD w t1 t2 .none (.ref wl)) ∈ news) (_x2 : (wl, o2) ∈ news)
    (D1 : DropE dx (lockD w t1 t2 .none (.ref wl)) news n1) (D2 : DropE wl (o2) n1 n2) (D3 : (x, instObj 121 dx) ∈ n2) 
    (hret : ∀ h' tk, Fr h₀ L h' m → News h₀ L h' ((dx, lockD w t1 t2 (.int k tk0) (.ref wl)) :: (wl, o2) :: n2) → Q (.ref 82) { s with heap := h', toks := tk }) :
    (Mine.pre.heap_1_39 w.params).In h₀ → wpAny (model PySem.Challenge.rw_on0004_01.row.prog w) (ktrTop dp un gd cn cs L ca ccd cl outer) (call (.ref 111) [.ref x, .int k tk0]) Q E s := by
  k_fill
  intro X
  obtain ⟨N, hn, ne1, ne2, ne3⟩ := drop2x N D1 D2 D3
  refine wpAny_call ?_
  k_dflt cell_enter
  repeat' (first
    | (k_unfold; (try dsimp only))
    | ((with_reducible show wpAny _ _ (execs (_ :: _) _) _ _ _); (refine nrmS (by with_reducible assumption) ?_); intro tk'; refine wpAny_execs_cons ?_)
    | ((with_reducible show wpAny _ _ (compareOp CmpOp.NotEq (Value.ref _) (Value.ref _)) _ _ _); (refine' neI ?k1_z9 ?k2_z9 ?k3_z9 ?k4_z9 ?k5_z9 ?k6_z9 ?_; (case k1_z9 => (apply isl9 <;> first | with_reducible assumption | k_mem)); (case k2_z9 => (apply isl9 <;> first | with_reducible assumption | k_mem)); (case k3_z9 => first | with_reducible assumption | exact IntsAre.nil | exact IntsAre.cons _ _ IntsAre.nil | exact IntsAre.cons _ _ (by assumption)); (case k4_z9 => exact IntsAre.nil); (case k5_z9 => exact hun); (case k6_z9 => (first | exact congrArg not (decide_eq_true rfl) | (refine congrArg not (decide_eq_false ?_); (simp; done)))); k_whole))
    | ((with_reducible show wpAny _ _ (compareOp CmpOp.In (Value.int _ _) (Value.ref _)) _ _ _); (refine' inI ?k1_z9 ?k2_z9 hin ?_; (case k1_z9 => (apply isl9 <;> first | with_reducible assumption | k_mem)); (case k2_z9 => assumption); k_whole))
    | ((with_reducible show wpAny _ _ (call (Value.builtin "list.append") _ _) _ _ _); (refine' appendW ?k1_z9 ?k2_z9 ?k3_z9 ?e_z9 ?z_z9 ?_; (case k1_z9 => k_asm); (case k2_z9 => k_asm); (case k3_z9 => k_upd); (case e_z9 => ((try simp only [List.nil_append, List.cons_append]); exact rfl)); (case z_z9 => first | omega | (simp only [List.length_nil, List.length_cons]; omega)); k_whole); intro h' F' N'; (try k_sweep))
    | ((k_here; (first | ((with_reducible show wpAny _ _ (callWith _ (Value.ref _) _ (backTo _ (starEach [] _)) []) _ _ _); k_dflt (refine' callWith_K0 ?k1_z9 ?k2_z9 ?_; (case k1_z9 => exact Frag.In.keeps (by with_reducible assumption) (Fr.keep (by with_reducible assumption))); (case k2_z9 => k_is); k_whole)) | ((with_reducible show wpAny _ _ (callWith _ (Value.ref _) _ (backTo _ (starEach (_ :: _) _)) []) _ _ _); k_dflt (refine' callWith_K ?k1_z9 ?k2_z9 ?_; (case k1_z9 => with_reducible assumption); (case k2_z9 => k_is); k_whole)))))
    | ((with_reducible show wpAny _ _ (compareOp CmpOp.Gt (Value.int _ _) (Value.int _ _)) _ _ _); (k_here; first | (with_reducible refine' gtT ?h_z9 ?_; (case h_z9 => omega)) | (with_reducible refine' gtF ?h_z9 ?_; (case h_z9 => omega)) | (with_reducible refine' gtS ?_ ?_ <;> intro hq9)))
    | ((with_reducible show wpAny _ _ (compareOp CmpOp.Lt (Value.int _ _) (Value.int _ _)) _ _ _); (k_here; first | (with_reducible refine' ltT ?h_z9 ?_; (case h_z9 => omega)) | (with_reducible refine' ltF ?h_z9 ?_; (case h_z9 => omega)) | (with_reducible refine' ltS ?_ ?_ <;> intro hq9)))
    | ((with_reducible show wpAny _ _ (compareOp CmpOp.Eq (Value.int _ _) (Value.int _ _)) _ _ _); (k_here; first | (with_reducible refine' eqT ?h_z9 ?_; (case h_z9 => omega)) | (with_reducible refine' eqF ?h_z9 ?_; (case h_z9 => omega)) | (with_reducible refine' eqS ?_ ?_ <;> intro hq9)))
    | ((with_reducible show wpAny _ _ (call (Value.builtin "list.pop") _ _) _ _ _); (k_here; k_dflt (refine' pop0 ?F_z9 ?N_z9 ?U_z9 ?z_z9 ?_; (case F_z9 => k_asm); (case N_z9 => k_asm); (case U_z9 => k_upd); (case z_z9 => (try simp only [List.length_nil, List.length_cons]); omega); k_whole); intro h' F' N'))
    | (k_end; kc_close)
    | walk1
    | (dsimp only; walk1)
    | (leave1; (try dsimp only))
    | fail "no step")
  all_goals (refine' hret _ _ ?F (news_sub ?N ?sub); (case F => assumption); (case N => assumption); (case sub => ((repeat (refine' List.forall_mem_cons.mpr ⟨?_, ?_⟩; k_mem)); intro p hp; repeat (first | exact hp | refine' List.Mem.tail _ ?_))))
set_option maxRecDepth 100000 in
set_option maxHeartbeats 8000000 in
theorem m_lock_wait {w : World} {p : Program} {loose : List Str} {mean : ExcName → Option Value} {mg mb : Str → Option Value} {gd : Option (List Code)} {cn : Str} {cs : Scope} {ca : Addr} {ccd : Value} {cl : List (Str × Addr)} {outer : List Env} {A₀ : Around} {base h₀ : Heap} {L : Addr} {m : Str → Option Value} {s : Shared} {Q E : Value → Shared → Prop} {news n1 n2 : List (Addr × Obj)} {x dx wl : Addr} {t1 t2 : Tok} {dp un : Nat} {k k0 : Int} {tk0 to : Tok} {wv : List Value} {wi : List Int} {nw : Nat}
    (B : Below A₀ base outer h₀) (F : Fr h₀ L s.heap m) (N : News h₀ L s.heap news) (T : Top p loose mean mg mb h₀) (hk : cs.kind = .function) (hdp : dp < recursionLimit) (hun : un + 3 + 64 < cLine) (_x0 : (x, instObj 121 dx) ∈ news) (_x1 : (dx, lockD w t1 t2 (.int k0 to) (.ref wl)) ∈ news) (_x2 : (wl, listOf wv.toArray nw) ∈ news)
    (D1 : DropE dx (lockD w t1 t2 (.int k0 to) (.ref wl)) news n1) (D2 : DropE wl (listOf wv.toArray nw) n1 n2) (D3 : (x, instObj 121 dx) ∈ n2) (iw : IntsAre wv wi) (lw : wv.length ≤ 90) (hin : (wi.any fun x => x == k) = false)
    (hret : ∀ h' tk, Fr h₀ L h' m → News h₀ L h' ((dx, lockD w t1 t2 (.int k0 to) (.ref wl)) :: (wl, listOf (wv ++ [Value.int k tk0]).toArray (nw + 1)) :: n2) → Q (.ref 83) { s with heap := h', toks := tk }) :
    (Mine.pre.heap_1_39 w.params).In h₀ → wpAny (model PySem.Challenge.rw_on0004_01.row.prog w) (ktrTop dp un gd cn cs L ca ccd cl outer) (call (.ref 111) [.ref x, .int k tk0]) Q E s := by
  k_fill
  intro X
  obtain ⟨N, hn, ne1, ne2, ne3⟩ := drop2x N D1 D2 D3
  refine wpAny_call ?_
  k_dflt cell_enter
  repeat' (first
    | (k_unfold; (try dsimp only))
    | ((with_reducible show wpAny _ _ (execs (_ :: _) _) _ _ _); (refine nrmS (by with_reducible assumption) ?_); intro tk'; refine wpAny_execs_cons ?_)
    | ((with_reducible show wpAny _ _ (compareOp CmpOp.NotEq (Value.ref _) (Value.ref _)) _ _ _); (refine' neI ?k1_z9 ?k2_z9 ?k3_z9 ?k4_z9 ?k5_z9 ?k6_z9 ?_; (case k1_z9 => (apply isl9 <;> first | with_reducible assumption | k_mem)); (case k2_z9 => (apply isl9 <;> first | with_reducible assumption | k_mem)); (case k3_z9 => first | with_reducible assumption | exact IntsAre.nil | exact IntsAre.cons _ _ IntsAre.nil | exact IntsAre.cons _ _ (by assumption)); (case k4_z9 => exact IntsAre.nil); (case k5_z9 => exact hun); (case k6_z9 => (first | exact congrArg not (decide_eq_true rfl) | (refine congrArg not (decide_eq_false ?_); (simp; done)))); k_whole))
    | ((with_reducible show wpAny _ _ (compareOp CmpOp.In (Value.int _ _) (Value.ref _)) _ _ _); (refine' inI ?k1_z9 ?k2_z9 hin ?_; (case k1_z9 => (apply isl9 <;> first | with_reducible assumption | k_mem)); (case k2_z9 => assumption); k_whole))
    | ((with_reducible show wpAny _ _ (call (Value.builtin "list.append") _ _) _ _ _); (refine' appendW ?k1_z9 ?k2_z9 ?k3_z9 ?e_z9 ?z_z9 ?_; (case k1_z9 => k_asm); (case k2_z9 => k_asm); (case k3_z9 => k_upd); (case e_z9 => ((try simp only [List.nil_append, List.cons_append]); exact rfl)); (case z_z9 => first | omega | (simp only [List.length_nil, List.length_cons]; omega)); k_whole); intro h' F' N'; (try k_sweep))
    | ((k_here; (first | ((with_reducible show wpAny _ _ (callWith _ (Value.ref _) _ (backTo _ (starEach [] _)) []) _ _ _); k_dflt (refine' callWith_K0 ?k1_z9 ?k2_z9 ?_; (case k1_z9 => exact Frag.In.keeps (by with_reducible assumption) (Fr.keep (by with_reducible assumption))); (case k2_z9 => k_is); k_whole)) | ((with_reducible show wpAny _ _ (callWith _ (Value.ref _) _ (backTo _ (starEach (_ :: _) _)) []) _ _ _); k_dflt (refine' callWith_K ?k1_z9 ?k2_z9 ?_; (case k1_z9 => with_reducible assumption); (case k2_z9 => k_is); k_whole)))))
    | ((with_reducible show wpAny _ _ (compareOp CmpOp.Gt (Value.int _ _) (Value.int _ _)) _ _ _); (k_here; first | (with_reducible refine' gtT ?h_z9 ?_; (case h_z9 => omega)) | (with_reducible refine' gtF ?h_z9 ?_; (case h_z9 => omega)) | (with_reducible refine' gtS ?_ ?_ <;> intro hq9)))
    | ((with_reducible show wpAny _ _ (compareOp CmpOp.Lt (Value.int _ _) (Value.int _ _)) _ _ _); (k_here; first | (with_reducible refine' ltT ?h_z9 ?_; (case h_z9 => omega)) | (with_reducible refine' ltF ?h_z9 ?_; (case h_z9 => omega)) | (with_reducible refine' ltS ?_ ?_ <;> intro hq9)))
    | ((with_reducible show wpAny _ _ (compareOp CmpOp.Eq (Value.int _ _) (Value.int _ _)) _ _ _); (k_here; first | (with_reducible refine' eqT ?h_z9 ?_; (case h_z9 => omega)) | (with_reducible refine' eqF ?h_z9 ?_; (case h_z9 => omega)) | (with_reducible refine' eqS ?_ ?_ <;> intro hq9)))
    | ((with_reducible show wpAny _ _ (call (Value.builtin "list.pop") _ _) _ _ _); (k_here; k_dflt (refine' pop0 ?F_z9 ?N_z9 ?U_z9 ?z_z9 ?_; (case F_z9 => k_asm); (case N_z9 => k_asm); (case U_z9 => k_upd); (case z_z9 => (try simp only [List.length_nil, List.length_cons]); omega); k_whole); intro h' F' N'))
    | (k_end; kc_close)
    | walk1
    | (dsimp only; walk1)
    | (leave1; (try dsimp only))
    | fail "no step")
  all_goals (refine' hret _ _ ?F (news_sub ?N ?sub); (case F => assumption); (case N => assumption); (case sub => ((repeat (refine' List.forall_mem_cons.mpr ⟨?_, ?_⟩; k_mem)); intro p hp; repeat (first | exact hp | refine' List.Mem.tail _ ?_))))
set_option maxRecDepth 100000 in
set_option maxHeartbeats 8000000 in
theorem m_unlock_one {w : World} {p : Program} {loose : List Str} {mean : ExcName → Option Value} {mg mb : Str → Option Value} {gd : Option (List Code)} {cn : Str} {cs : Scope} {ca : Addr} {ccd : Value} {cl : List (Str × Addr)} {outer : List Env} {A₀ : Around} {base h₀ : Heap} {L : Addr} {m : Str → Option Value} {s : Shared} {Q E : Value → Shared → Prop} {news n1 n2 : List (Addr × Obj)} {x dx wl : Addr} {t1 t2 : Tok} {dp un : Nat} {k0 : Int} {to : Tok} {nw : Nat}
    (B : Below A₀ base outer h₀) (F : Fr h₀ L s.heap m) (N : News h₀ L s.heap news) (T : Top p loose mean mg mb h₀) (hk : cs.kind = .function) (hdp : dp < recursionLimit) (hun : un + 3 + 64 < cLine) (_x0 : (x, instObj 121 dx) ∈ news) (_x1 : (dx, lockD w t1 t2 (.int k0 to) (.ref wl)) ∈ news) (_x2 : (wl, listOf #[] nw) ∈ news)
    (D1 : DropE dx (lockD w t1 t2 (.int k0 to) (.ref wl)) news n1) (D2 : DropE wl (listOf #[] nw) n1 n2) (D3 : (x, instObj 121 dx) ∈ n2) 
    (hret : ∀ h' tk, Fr h₀ L h' m → News h₀ L h' ((dx, lockD w t1 t2 .none (.ref wl)) :: (wl, listOf #[] nw) :: n2) → Q (.none) { s with heap := h', toks := tk }) :
    (Mine.pre.heap_1_39 w.params).In h₀ → wpAny (model PySem.Challenge.rw_on0004_01.row.prog w) (ktrTop dp un gd cn cs L ca ccd cl outer) (call (.ref 118) [.ref x]) Q E s := by
  k_fill
  intro X
  obtain ⟨N, hn, ne1, ne2, ne3⟩ := drop2x N D1 D2 D3
  refine wpAny_call ?_
  k_dflt cell_enter
  repeat' (first
    | (k_unfold; (try dsimp only))
    | ((with_reducible show wpAny _ _ (execs (_ :: _) _) _ _ _); (refine nrmS (by with_reducible assumption) ?_); intro tk'; refine wpAny_execs_cons ?_)
    | ((with_reducible show wpAny _ _ (compareOp CmpOp.NotEq (Value.ref _) (Value.ref _)) _ _ _); (refine' neI ?k1_z9 ?k2_z9 ?k3_z9 ?k4_z9 ?k5_z9 ?k6_z9 ?_; (case k1_z9 => (apply isl9 <;> first | with_reducible assumption | k_mem)); (case k2_z9 => (apply isl9 <;> first | with_reducible assumption | k_mem)); (case k3_z9 => first | with_reducible assumption | exact IntsAre.nil | exact IntsAre.cons _ _ IntsAre.nil | exact IntsAre.cons _ _ (by assumption)); (case k4_z9 => exact IntsAre.nil); (case k5_z9 => exact hun); (case k6_z9 => (first | exact congrArg not (decide_eq_true rfl) | (refine congrArg not (decide_eq_false ?_); (simp; done)))); k_whole))
    | ((with_reducible show wpAny _ _ (compareOp CmpOp.In (Value.int _ _) (Value.ref _)) _ _ _); (refine' inI ?k1_z9 ?k2_z9 hin ?_; (case k1_z9 => (apply isl9 <;> first | with_reducible assumption | k_mem)); (case k2_z9 => assumption); k_whole))
    | ((with_reducible show wpAny _ _ (call (Value.builtin "list.append") _ _) _ _ _); (refine' appendW ?k1_z9 ?k2_z9 ?k3_z9 ?e_z9 ?z_z9 ?_; (case k1_z9 => k_asm); (case k2_z9 => k_asm); (case k3_z9 => k_upd); (case e_z9 => ((try simp only [List.nil_append, List.cons_append]); exact rfl)); (case z_z9 => first | omega | (simp only [List.length_nil, List.length_cons]; omega)); k_whole); intro h' F' N'; (try k_sweep))
    | ((k_here; (first | ((with_reducible show wpAny _ _ (callWith _ (Value.ref _) _ (backTo _ (starEach [] _)) []) _ _ _); k_dflt (refine' callWith_K0 ?k1_z9 ?k2_z9 ?_; (case k1_z9 => exact Frag.In.keeps (by with_reducible assumption) (Fr.keep (by with_reducible assumption))); (case k2_z9 => k_is); k_whole)) | ((with_reducible show wpAny _ _ (callWith _ (Value.ref _) _ (backTo _ (starEach (_ :: _) _)) []) _ _ _); k_dflt (refine' callWith_K ?k1_z9 ?k2_z9 ?_; (case k1_z9 => with_reducible assumption); (case k2_z9 => k_is); k_whole)))))
    | ((with_reducible show wpAny _ _ (compareOp CmpOp.Gt (Value.int _ _) (Value.int _ _)) _ _ _); (k_here; first | (with_reducible refine' gtT ?h_z9 ?_; (case h_z9 => omega)) | (with_reducible refine' gtF ?h_z9 ?_; (case h_z9 => omega)) | (with_reducible refine' gtS ?_ ?_ <;> intro hq9)))
    | ((with_reducible show wpAny _ _ (compareOp CmpOp.Lt (Value.int _ _) (Value.int _ _)) _ _ _); (k_here; first | (with_reducible refine' ltT ?h_z9 ?_; (case h_z9 => omega)) | (with_reducible refine' ltF ?h_z9 ?_; (case h_z9 => omega)) | (with_reducible refine' ltS ?_ ?_ <;> intro hq9)))
    | ((with_reducible show wpAny _ _ (compareOp CmpOp.Eq (Value.int _ _) (Value.int _ _)) _ _ _); (k_here; first | (with_reducible refine' eqT ?h_z9 ?_; (case h_z9 => omega)) | (with_reducible refine' eqF ?h_z9 ?_; (case h_z9 => omega)) | (with_reducible refine' eqS ?_ ?_ <;> intro hq9)))
    | ((with_reducible show wpAny _ _ (call (Value.builtin "list.pop") _ _) _ _ _); (k_here; k_dflt (refine' pop0 ?F_z9 ?N_z9 ?U_z9 ?z_z9 ?_; (case F_z9 => k_asm); (case N_z9 => k_asm); (case U_z9 => k_upd); (case z_z9 => (try simp only [List.length_nil, List.length_cons]); omega); k_whole); intro h' F' N'))
    | (k_end; kc_close)
    | walk1
    | (dsimp only; walk1)
    | (leave1; (try dsimp only))
    | fail "no step")
  all_goals (refine' hret _ _ ?F (news_sub ?N ?sub); (case F => assumption); (case N => assumption); (case sub => ((repeat (refine' List.forall_mem_cons.mpr ⟨?_, ?_⟩; k_mem)); intro p hp; repeat (first | exact hp | refine' List.Mem.tail _ ?_))))
set_option maxRecDepth 100000 in
set_option maxHeartbeats 8000000 in
theorem m_unlock_more {w : World} {p : Program} {loose : List Str} {mean : ExcName → Option Value} {mg mb : Str → Option Value} {gd : Option (List Code)} {cn : Str} {cs : Scope} {ca : Addr} {ccd : Value} {cl : List (Str × Addr)} {outer : List Env} {A₀ : Around} {base h₀ : Heap} {L : Addr} {m : Str → Option Value} {s : Shared} {Q E : Value → Shared → Prop} {news n1 n2 : List (Addr × Obj)} {x dx wl : Addr} {t1 t2 : Tok} {dp un : Nat} {k0 kj : Int} {to tw : Tok} {wv : List Value} {wi : List Int} {nw : Nat}
    (B : Below A₀ base outer h₀) (F : Fr h₀ L s.heap m) (N : News h₀ L s.heap news) (T : Top p loose mean mg mb h₀) (hk : cs.kind = .function) (hdp : dp < recursionLimit) (hun : un + 3 + 64 < cLine) (_x0 : (x, instObj 121 dx) ∈ news) (_x1 : (dx, lockD w t1 t2 (.int k0 to) (.ref wl)) ∈ news) (_x2 : (wl, listOf (Value.int kj tw :: wv).toArray nw) ∈ news)
    (D1 : DropE dx (lockD w t1 t2 (.int k0 to) (.ref wl)) news n1) (D2 : DropE wl (listOf (Value.int kj tw :: wv).toArray nw) n1 n2) (D3 : (x, instObj 121 dx) ∈ n2) (iw : IntsAre wv wi) (lw : wv.length ≤ 90)
    (hret : ∀ h' tk, Fr h₀ L h' m → News h₀ L h' ((dx, lockD w t1 t2 (Value.int kj tw) (.ref wl)) :: (wl, listOf wv.toArray (nw + 1)) :: n2) → Q (Value.int kj tw) { s with heap := h', toks := tk }) :
    (Mine.pre.heap_1_39 w.params).In h₀ → wpAny (model PySem.Challenge.rw_on0004_01.row.prog w) (ktrTop dp un gd cn cs L ca ccd cl outer) (call (.ref 118) [.ref x]) Q E s := by
  k_fill
  intro X
  obtain ⟨N, hn, ne1, ne2, ne3⟩ := drop2x N D1 D2 D3
  refine wpAny_call ?_
  k_dflt cell_enter
  repeat' (first
    | (k_unfold; (try dsimp only))
    | ((with_reducible show wpAny _ _ (execs (_ :: _) _) _ _ _); (refine nrmS (by with_reducible assumption) ?_); intro tk'; refine wpAny_execs_cons ?_)
    | ((with_reducible show wpAny _ _ (compareOp CmpOp.NotEq (Value.ref _) (Value.ref _)) _ _ _); (refine' neI ?k1_z9 ?k2_z9 ?k3_z9 ?k4_z9 ?k5_z9 ?k6_z9 ?_; (case k1_z9 => (apply isl9 <;> first | with_reducible assumption | k_mem)); (case k2_z9 => (apply isl9 <;> first | with_reducible assumption | k_mem)); (case k3_z9 => first | with_reducible assumption | exact IntsAre.nil | exact IntsAre.cons _ _ IntsAre.nil | exact IntsAre.cons _ _ (by assumption)); (case k4_z9 => exact IntsAre.nil); (case k5_z9 => exact hun); (case k6_z9 => (first | exact congrArg not (decide_eq_true rfl) | (refine congrArg not (decide_eq_false ?_); (simp; done)))); k_whole))
    | ((with_reducible show wpAny _ _ (compareOp CmpOp.In (Value.int _ _) (Value.ref _)) _ _ _); (refine' inI ?k1_z9 ?k2_z9 hin ?_; (case k1_z9 => (apply isl9 <;> first | with_reducible assumption | k_mem)); (case k2_z9 => assumption); k_whole))
    | ((with_reducible show wpAny _ _ (call (Value.builtin "list.append") _ _) _ _ _); (refine' appendW ?k1_z9 ?k2_z9 ?k3_z9 ?e_z9 ?z_z9 ?_; (case k1_z9 => k_asm); (case k2_z9 => k_asm); (case k3_z9 => k_upd); (case e_z9 => ((try simp only [List.nil_append, List.cons_append]); exact rfl)); (case z_z9 => first | omega | (simp only [List.length_nil, List.length_cons]; omega)); k_whole); intro h' F' N'; (try k_sweep))
    | ((k_here; (first | ((with_reducible show wpAny _ _ (callWith _ (Value.ref _) _ (backTo _ (starEach [] _)) []) _ _ _); k_dflt (refine' callWith_K0 ?k1_z9 ?k2_z9 ?_; (case k1_z9 => exact Frag.In.keeps (by with_reducible assumption) (Fr.keep (by with_reducible assumption))); (case k2_z9 => k_is); k_whole)) | ((with_reducible show wpAny _ _ (callWith _ (Value.ref _) _ (backTo _ (starEach (_ :: _) _)) []) _ _ _); k_dflt (refine' callWith_K ?k1_z9 ?k2_z9 ?_; (case k1_z9 => with_reducible assumption); (case k2_z9 => k_is); k_whole)))))
    | ((with_reducible show wpAny _ _ (compareOp CmpOp.Gt (Value.int _ _) (Value.int _ _)) _ _ _); (k_here; first | (with_reducible refine' gtT ?h_z9 ?_; (case h_z9 => omega)) | (with_reducible refine' gtF ?h_z9 ?_; (case h_z9 => omega)) | (with_reducible refine' gtS ?_ ?_ <;> intro hq9)))
    | ((with_reducible show wpAny _ _ (compareOp CmpOp.Lt (Value.int _ _) (Value.int _ _)) _ _ _); (k_here; first | (with_reducible refine' ltT ?h_z9 ?_; (case h_z9 => omega)) | (with_reducible refine' ltF ?h_z9 ?_; (case h_z9 => omega)) | (with_reducible refine' ltS ?_ ?_ <;> intro hq9)))
    | ((with_reducible show wpAny _ _ (compareOp CmpOp.Eq (Value.int _ _) (Value.int _ _)) _ _ _); (k_here; first | (with_reducible refine' eqT ?h_z9 ?_; (case h_z9 => omega)) | (with_reducible refine' eqF ?h_z9 ?_; (case h_z9 => omega)) | (with_reducible refine' eqS ?_ ?_ <;> intro hq9)))
    | ((with_reducible show wpAny _ _ (call (Value.builtin "list.pop") _ _) _ _ _); (k_here; k_dflt (refine' pop0 ?F_z9 ?N_z9 ?U_z9 ?z_z9 ?_; (case F_z9 => k_asm); (case N_z9 => k_asm); (case U_z9 => k_upd); (case z_z9 => (try simp only [List.length_nil, List.length_cons]); omega); k_whole); intro h' F' N'))
    | (k_end; kc_close)
    | walk1
    | (dsimp only; walk1)
    | (leave1; (try dsimp only))
    | fail "no step")
  all_goals (refine' hret _ _ ?F (news_sub ?N ?sub); (case F => assumption); (case N => assumption); (case sub => ((repeat (refine' List.forall_mem_cons.mpr ⟨?_, ?_⟩; k_mem)); intro p hp; repeat (first | exact hp | refine' List.Mem.tail _ ?_))))
set_option maxRecDepth 100000 in
set_option maxHeartbeats 8000000 in
theorem m_add_pos {w : World} {p : Program} {loose : List Str} {mean : ExcName → Option Value} {mg mb : Str → Option Value} {gd : Option (List Code)} {cn : Str} {cs : Scope} {ca : Addr} {ccd : Value} {cl : List (Str × Addr)} {outer : List Env} {A₀ : Around} {base h₀ : Heap} {L : Addr} {m : Str → Option Value} {s : Shared} {Q E : Value → Shared → Prop} {news n1 n2 : List (Addr × Obj)} {x dx wl : Addr} {t1 t2 : Tok} {dp un : Nat} {c k : Int} {tc tk0 : Tok} {o2 : Obj}
    (B : Below A₀ base outer h₀) (F : Fr h₀ L s.heap m) (N : News h₀ L s.heap news) (T : Top p loose mean mg mb h₀) (hk : cs.kind = .function) (hdp : dp < recursionLimit) (_x0 : (x, instObj 163 dx) ∈ news) (_x1 : (dx, groupD w t1 t2 (.int c tc) (.ref wl)) ∈ news) (_x2 : (wl, o2) ∈ news)
    (D1 : DropE dx (groupD w t1 t2 (.int c tc) (.ref wl)) news n1) (D2 : DropE wl (o2) n1 n2) (D3 : (x, instObj 163 dx) ∈ n2) (hp : 0 < c + k)
    (hret : ∀ l tc' h' tk, Fr h₀ L h' m → News h₀ L h' ((l, listOf #[] 0) :: (dx, groupD w t1 t2 (.int (c + k) tc') (.ref wl)) :: (wl, o2) :: n2) → (∀ q ∈ n2, @LT.lt Nat _ q.1 l) → OffAs l [dx, wl] → Q (.ref l) { s with heap := h', toks := tk }) :
    (Mine.pre.heap_1_39 w.params).In h₀ → wpAny (model PySem.Challenge.rw_on0004_01.row.prog w) (ktrTop dp un gd cn cs L ca ccd cl outer) (call (.ref 146) [.ref x, .int k tk0]) Q E s := by
  k_fill
  intro X
  obtain ⟨N, hn, ne1, ne2, ne3⟩ := drop2x N D1 D2 D3
  refine wpAny_call ?_
  k_dflt cell_enter
  repeat' (first
    | (k_unfold; (try dsimp only))
    | ((with_reducible show wpAny _ _ (execs (_ :: _) _) _ _ _); (refine nrmS (by with_reducible assumption) ?_); intro tk'; refine wpAny_execs_cons ?_)
    | ((with_reducible show wpAny _ _ (call (Value.builtin "list.append") _ _) _ _ _); (refine' appendW ?k1_z9 ?k2_z9 ?k3_z9 ?e_z9 ?z_z9 ?_; (case k1_z9 => k_asm); (case k2_z9 => k_asm); (case k3_z9 => k_upd); (case e_z9 => ((try simp only [List.nil_append, List.cons_append]); exact rfl)); (case z_z9 => first | omega | (simp only [List.length_nil, List.length_cons]; omega)); k_whole); intro h' F' N'; (try k_sweep))
    | ((k_here; (first | ((with_reducible show wpAny _ _ (callWith _ (Value.ref _) _ (backTo _ (starEach [] _)) []) _ _ _); k_dflt (refine' callWith_K0 ?k1_z9 ?k2_z9 ?_; (case k1_z9 => exact Frag.In.keeps (by with_reducible assumption) (Fr.keep (by with_reducible assumption))); (case k2_z9 => k_is); k_whole)) | ((with_reducible show wpAny _ _ (callWith _ (Value.ref _) _ (backTo _ (starEach (_ :: _) _)) []) _ _ _); k_dflt (refine' callWith_K ?k1_z9 ?k2_z9 ?_; (case k1_z9 => with_reducible assumption); (case k2_z9 => k_is); k_whole)))))
    | ((with_reducible show wpAny _ _ (compareOp CmpOp.Gt (Value.int _ _) (Value.int _ _)) _ _ _); (k_here; first | (with_reducible refine' gtT ?h_z9 ?_; (case h_z9 => omega)) | (with_reducible refine' gtF ?h_z9 ?_; (case h_z9 => omega)) | (with_reducible refine' gtS ?_ ?_ <;> intro hq9)))
    | ((with_reducible show wpAny _ _ (compareOp CmpOp.Lt (Value.int _ _) (Value.int _ _)) _ _ _); (k_here; first | (with_reducible refine' ltT ?h_z9 ?_; (case h_z9 => omega)) | (with_reducible refine' ltF ?h_z9 ?_; (case h_z9 => omega)) | (with_reducible refine' ltS ?_ ?_ <;> intro hq9)))
    | ((with_reducible show wpAny _ _ (compareOp CmpOp.Eq (Value.int _ _) (Value.int _ _)) _ _ _); (k_here; first | (with_reducible refine' eqT ?h_z9 ?_; (case h_z9 => omega)) | (with_reducible refine' eqF ?h_z9 ?_; (case h_z9 => omega)) | (with_reducible refine' eqS ?_ ?_ <;> intro hq9)))
    | ((with_reducible show wpAny _ _ (call (Value.builtin "list.pop") _ _) _ _ _); (k_here; k_dflt (refine' pop0 ?F_z9 ?N_z9 ?U_z9 ?z_z9 ?_; (case F_z9 => k_asm); (case N_z9 => k_asm); (case U_z9 => k_upd); (case z_z9 => (try simp only [List.length_nil, List.length_cons]); omega); k_whole); intro h' F' N'))
    | (k_end; kc_close)
    | walk1
    | (dsimp only; walk1)
    | (leave1; (try dsimp only))
    | fail "no step")
  all_goals (refine' hret _ _ _ _ ?F (news_sub ?N ?sub) ?fr ?of; (case F => assumption); (case N => assumption); (case sub => ((repeat (refine' List.forall_mem_cons.mpr ⟨?_, ?_⟩; k_mem)); intro p hp; repeat (first | exact hp | refine' List.Mem.tail _ ?_))); (case fr => (rename _ ∧ _ ∧ _ ∧ AllLt _ n2 => l9; exact fun q hq => kst_ltOf l9.2.2.2 q hq)); (case of => exact ⟨by k_ne, by k_ne, trivial⟩))
set_option maxRecDepth 100000 in
set_option maxHeartbeats 8000000 in
theorem m_add_zero {w : World} {p : Program} {loose : List Str} {mean : ExcName → Option Value} {mg mb : Str → Option Value} {gd : Option (List Code)} {cn : Str} {cs : Scope} {ca : Addr} {ccd : Value} {cl : List (Str × Addr)} {outer : List Env} {A₀ : Around} {base h₀ : Heap} {L : Addr} {m : Str → Option Value} {s : Shared} {Q E : Value → Shared → Prop} {news n1 n2 : List (Addr × Obj)} {x dx wl : Addr} {t1 t2 : Tok} {dp un : Nat} {c k : Int} {tc tk0 : Tok} {o2 : Obj}
    (B : Below A₀ base outer h₀) (F : Fr h₀ L s.heap m) (N : News h₀ L s.heap news) (T : Top p loose mean mg mb h₀) (hk : cs.kind = .function) (hdp : dp < recursionLimit) (_x0 : (x, instObj 163 dx) ∈ news) (_x1 : (dx, groupD w t1 t2 (.int c tc) (.ref wl)) ∈ news) (_x2 : (wl, o2) ∈ news)
    (D1 : DropE dx (groupD w t1 t2 (.int c tc) (.ref wl)) news n1) (D2 : DropE wl (o2) n1 n2) (D3 : (x, instObj 163 dx) ∈ n2) (hp : c + k = 0)
    (hret : ∀ l tc' h' tk, Fr h₀ L h' m → News h₀ L h' ((l, listOf #[] 0) :: (dx, groupD w t1 t2 (.int (c + k) tc') (.ref l)) :: (wl, o2) :: n2) → (∀ q ∈ n2, @LT.lt Nat _ q.1 l) → OffAs l [dx, wl] → Q (.ref wl) { s with heap := h', toks := tk }) :
    (Mine.pre.heap_1_39 w.params).In h₀ → wpAny (model PySem.Challenge.rw_on0004_01.row.prog w) (ktrTop dp un gd cn cs L ca ccd cl outer) (call (.ref 146) [.ref x, .int k tk0]) Q E s := by
  k_fill
  intro X
  obtain ⟨N, hn, ne1, ne2, ne3⟩ := drop2x N D1 D2 D3
  refine wpAny_call ?_
  k_dflt cell_enter
  repeat' (first
    | (k_unfold; (try dsimp only))
    | ((with_reducible show wpAny _ _ (execs (_ :: _) _) _ _ _); (refine nrmS (by with_reducible assumption) ?_); intro tk'; refine wpAny_execs_cons ?_)
    | ((with_reducible show wpAny _ _ (call (Value.builtin "list.append") _ _) _ _ _); (refine' appendW ?k1_z9 ?k2_z9 ?k3_z9 ?e_z9 ?z_z9 ?_; (case k1_z9 => k_asm); (case k2_z9 => k_asm); (case k3_z9 => k_upd); (case e_z9 => ((try simp only [List.nil_append, List.cons_append]); exact rfl)); (case z_z9 => first | omega | (simp only [List.length_nil, List.length_cons]; omega)); k_whole); intro h' F' N'; (try k_sweep))
    | ((k_here; (first | ((with_reducible show wpAny _ _ (callWith _ (Value.ref _) _ (backTo _ (starEach [] _)) []) _ _ _); k_dflt (refine' callWith_K0 ?k1_z9 ?k2_z9 ?_; (case k1_z9 => exact Frag.In.keeps (by with_reducible assumption) (Fr.keep (by with_reducible assumption))); (case k2_z9 => k_is); k_whole)) | ((with_reducible show wpAny _ _ (callWith _ (Value.ref _) _ (backTo _ (starEach (_ :: _) _)) []) _ _ _); k_dflt (refine' callWith_K ?k1_z9 ?k2_z9 ?_; (case k1_z9 => with_reducible assumption); (case k2_z9 => k_is); k_whole)))))
    | ((with_reducible show wpAny _ _ (compareOp CmpOp.Gt (Value.int _ _) (Value.int _ _)) _ _ _); (k_here; first | (with_reducible refine' gtT ?h_z9 ?_; (case h_z9 => omega)) | (with_reducible refine' gtF ?h_z9 ?_; (case h_z9 => omega)) | (with_reducible refine' gtS ?_ ?_ <;> intro hq9)))
    | ((with_reducible show wpAny _ _ (compareOp CmpOp.Lt (Value.int _ _) (Value.int _ _)) _ _ _); (k_here; first | (with_reducible refine' ltT ?h_z9 ?_; (case h_z9 => omega)) | (with_reducible refine' ltF ?h_z9 ?_; (case h_z9 => omega)) | (with_reducible refine' ltS ?_ ?_ <;> intro hq9)))
    | ((with_reducible show wpAny _ _ (compareOp CmpOp.Eq (Value.int _ _) (Value.int _ _)) _ _ _); (k_here; first | (with_reducible refine' eqT ?h_z9 ?_; (case h_z9 => omega)) | (with_reducible refine' eqF ?h_z9 ?_; (case h_z9 => omega)) | (with_reducible refine' eqS ?_ ?_ <;> intro hq9)))
    | ((with_reducible show wpAny _ _ (call (Value.builtin "list.pop") _ _) _ _ _); (k_here; k_dflt (refine' pop0 ?F_z9 ?N_z9 ?U_z9 ?z_z9 ?_; (case F_z9 => k_asm); (case N_z9 => k_asm); (case U_z9 => k_upd); (case z_z9 => (try simp only [List.length_nil, List.length_cons]); omega); k_whole); intro h' F' N'))
    | (k_end; kc_close)
    | walk1
    | (dsimp only; walk1)
    | (leave1; (try dsimp only))
    | fail "no step")
  all_goals (refine' hret _ _ _ _ ?F (news_sub ?N ?sub) ?fr ?of; (case F => assumption); (case N => assumption); (case sub => ((repeat (refine' List.forall_mem_cons.mpr ⟨?_, ?_⟩; k_mem)); intro p hp; repeat (first | exact hp | refine' List.Mem.tail _ ?_))); (case fr => (rename _ ∧ _ ∧ _ ∧ AllLt _ n2 => l9; exact fun q hq => kst_ltOf l9.2.2.2 q hq)); (case of => exact ⟨by k_ne, by k_ne, trivial⟩))
set_option maxRecDepth 100000 in
set_option maxHeartbeats 8000000 in
theorem m_wait_free {w : World} {p : Program} {loose : List Str} {mean : ExcName → Option Value} {mg mb : Str → Option Value} {gd : Option (List Code)} {cn : Str} {cs : Scope} {ca : Addr} {ccd : Value} {cl : List (Str × Addr)} {outer : List Env} {A₀ : Around} {base h₀ : Heap} {L : Addr} {m : Str → Option Value} {s : Shared} {Q E : Value → Shared → Prop} {news n1 n2 : List (Addr × Obj)} {x dx wl : Addr} {t1 t2 : Tok} {dp un : Nat} {k c : Int} {tc tk0 : Tok} {o2 : Obj}
    (B : Below A₀ base outer h₀) (F : Fr h₀ L s.heap m) (N : News h₀ L s.heap news) (T : Top p loose mean mg mb h₀) (hk : cs.kind = .function) (hdp : dp < recursionLimit) (_x0 : (x, instObj 163 dx) ∈ news) (_x1 : (dx, groupD w t1 t2 (.int c tc) (.ref wl)) ∈ news) (_x2 : (wl, o2) ∈ news)
    (D1 : DropE dx (groupD w t1 t2 (.int c tc) (.ref wl)) news n1) (D2 : DropE wl (o2) n1 n2) (D3 : (x, instObj 163 dx) ∈ n2) (hc : c = 0)
    (hret : ∀ h' tk, Fr h₀ L h' m → News h₀ L h' ((dx, groupD w t1 t2 (.int c tc) (.ref wl)) :: (wl, o2) :: n2) → Q (.ref 82) { s with heap := h', toks := tk }) :
    (Mine.pre.heap_1_39 w.params).In h₀ → wpAny (model PySem.Challenge.rw_on0004_01.row.prog w) (ktrTop dp un gd cn cs L ca ccd cl outer) (call (.ref 160) [.ref x, .int k tk0]) Q E s := by
  k_fill
  intro X
  obtain ⟨N, hn, ne1, ne2, ne3⟩ := drop2x N D1 D2 D3
  refine wpAny_call ?_
  k_dflt cell_enter
  repeat' (first
    | (k_unfold; (try dsimp only))
    | ((with_reducible show wpAny _ _ (execs (_ :: _) _) _ _ _); (refine nrmS (by with_reducible assumption) ?_); intro tk'; refine wpAny_execs_cons ?_)
    | ((with_reducible show wpAny _ _ (call (Value.builtin "list.append") _ _) _ _ _); (refine' appendW ?k1_z9 ?k2_z9 ?k3_z9 ?e_z9 ?z_z9 ?_; (case k1_z9 => k_asm); (case k2_z9 => k_asm); (case k3_z9 => k_upd); (case e_z9 => ((try simp only [List.nil_append, List.cons_append]); exact rfl)); (case z_z9 => first | omega | (simp only [List.length_nil, List.length_cons]; omega)); k_whole); intro h' F' N'; (try k_sweep))
    | ((k_here; (first | ((with_reducible show wpAny _ _ (callWith _ (Value.ref _) _ (backTo _ (starEach [] _)) []) _ _ _); k_dflt (refine' callWith_K0 ?k1_z9 ?k2_z9 ?_; (case k1_z9 => exact Frag.In.keeps (by with_reducible assumption) (Fr.keep (by with_reducible assumption))); (case k2_z9 => k_is); k_whole)) | ((with_reducible show wpAny _ _ (callWith _ (Value.ref _) _ (backTo _ (starEach (_ :: _) _)) []) _ _ _); k_dflt (refine' callWith_K ?k1_z9 ?k2_z9 ?_; (case k1_z9 => with_reducible assumption); (case k2_z9 => k_is); k_whole)))))
    | ((with_reducible show wpAny _ _ (compareOp CmpOp.Gt (Value.int _ _) (Value.int _ _)) _ _ _); (k_here; first | (with_reducible refine' gtT ?h_z9 ?_; (case h_z9 => omega)) | (with_reducible refine' gtF ?h_z9 ?_; (case h_z9 => omega)) | (with_reducible refine' gtS ?_ ?_ <;> intro hq9)))
    | ((with_reducible show wpAny _ _ (compareOp CmpOp.Lt (Value.int _ _) (Value.int _ _)) _ _ _); (k_here; first | (with_reducible refine' ltT ?h_z9 ?_; (case h_z9 => omega)) | (with_reducible refine' ltF ?h_z9 ?_; (case h_z9 => omega)) | (with_reducible refine' ltS ?_ ?_ <;> intro hq9)))
    | ((with_reducible show wpAny _ _ (compareOp CmpOp.Eq (Value.int _ _) (Value.int _ _)) _ _ _); (k_here; first | (with_reducible refine' eqT ?h_z9 ?_; (case h_z9 => omega)) | (with_reducible refine' eqF ?h_z9 ?_; (case h_z9 => omega)) | (with_reducible refine' eqS ?_ ?_ <;> intro hq9)))
    | ((with_reducible show wpAny _ _ (call (Value.builtin "list.pop") _ _) _ _ _); (k_here; k_dflt (refine' pop0 ?F_z9 ?N_z9 ?U_z9 ?z_z9 ?_; (case F_z9 => k_asm); (case N_z9 => k_asm); (case U_z9 => k_upd); (case z_z9 => (try simp only [List.length_nil, List.length_cons]); omega); k_whole); intro h' F' N'))
    | (k_end; kc_close)
    | walk1
    | (dsimp only; walk1)
    | (leave1; (try dsimp only))
    | fail "no step")
  all_goals (refine' hret  _ _ ?F (news_sub ?N ?sub); (case F => assumption); (case N => assumption); (case sub => ((repeat (refine' List.forall_mem_cons.mpr ⟨?_, ?_⟩; k_mem)); intro p hp; repeat (first | exact hp | refine' List.Mem.tail _ ?_))))
set_option maxRecDepth 100000 in
set_option maxHeartbeats 8000000 in
theorem m_wait_block {w : World} {p : Program} {loose : List Str} {mean : ExcName → Option Value} {mg mb : Str → Option Value} {gd : Option (List Code)} {cn : Str} {cs : Scope} {ca : Addr} {ccd : Value} {cl : List (Str × Addr)} {outer : List Env} {A₀ : Around} {base h₀ : Heap} {L : Addr} {m : Str → Option Value} {s : Shared} {Q E : Value → Shared → Prop} {news n1 n2 : List (Addr × Obj)} {x dx wl : Addr} {t1 t2 : Tok} {dp un : Nat} {k c : Int} {tc tk0 : Tok} {wv : List Value} {nw : Nat}
    (B : Below A₀ base outer h₀) (F : Fr h₀ L s.heap m) (N : News h₀ L s.heap news) (T : Top p loose mean mg mb h₀) (hk : cs.kind = .function) (hdp : dp < recursionLimit) (_x0 : (x, instObj 163 dx) ∈ news) (_x1 : (dx, groupD w t1 t2 (.int c tc) (.ref wl)) ∈ news) (_x2 : (wl, listOf wv.toArray nw) ∈ news)
    (D1 : DropE dx (groupD w t1 t2 (.int c tc) (.ref wl)) news n1) (D2 : DropE wl (listOf wv.toArray nw) n1 n2) (D3 : (x, instObj 163 dx) ∈ n2) (hc : c ≠ 0) (lw : wv.length ≤ 100)
    (hret : ∀ h' tk, Fr h₀ L h' m → News h₀ L h' ((dx, groupD w t1 t2 (.int c tc) (.ref wl)) :: (wl, listOf (wv ++ [Value.int k tk0]).toArray (nw + 1)) :: n2) → Q (.ref 83) { s with heap := h', toks := tk }) :
    (Mine.pre.heap_1_39 w.params).In h₀ → wpAny (model PySem.Challenge.rw_on0004_01.row.prog w) (ktrTop dp un gd cn cs L ca ccd cl outer) (call (.ref 160) [.ref x, .int k tk0]) Q E s := by
  k_fill
  intro X
  obtain ⟨N, hn, ne1, ne2, ne3⟩ := drop2x N D1 D2 D3
  refine wpAny_call ?_
  k_dflt cell_enter
  repeat' (first
    | (k_unfold; (try dsimp only))
    | ((with_reducible show wpAny _ _ (execs (_ :: _) _) _ _ _); (refine nrmS (by with_reducible assumption) ?_); intro tk'; refine wpAny_execs_cons ?_)
    | ((with_reducible show wpAny _ _ (call (Value.builtin "list.append") _ _) _ _ _); (refine' appendW ?k1_z9 ?k2_z9 ?k3_z9 ?e_z9 ?z_z9 ?_; (case k1_z9 => k_asm); (case k2_z9 => k_asm); (case k3_z9 => k_upd); (case e_z9 => ((try simp only [List.nil_append, List.cons_append]); exact rfl)); (case z_z9 => first | omega | (simp only [List.length_nil, List.length_cons]; omega)); k_whole); intro h' F' N'; (try k_sweep))
    | ((k_here; (first | ((with_reducible show wpAny _ _ (callWith _ (Value.ref _) _ (backTo _ (starEach [] _)) []) _ _ _); k_dflt (refine' callWith_K0 ?k1_z9 ?k2_z9 ?_; (case k1_z9 => exact Frag.In.keeps (by with_reducible assumption) (Fr.keep (by with_reducible assumption))); (case k2_z9 => k_is); k_whole)) | ((with_reducible show wpAny _ _ (callWith _ (Value.ref _) _ (backTo _ (starEach (_ :: _) _)) []) _ _ _); k_dflt (refine' callWith_K ?k1_z9 ?k2_z9 ?_; (case k1_z9 => with_reducible assumption); (case k2_z9 => k_is); k_whole)))))
    | ((with_reducible show wpAny _ _ (compareOp CmpOp.Gt (Value.int _ _) (Value.int _ _)) _ _ _); (k_here; first | (with_reducible refine' gtT ?h_z9 ?_; (case h_z9 => omega)) | (with_reducible refine' gtF ?h_z9 ?_; (case h_z9 => omega)) | (with_reducible refine' gtS ?_ ?_ <;> intro hq9)))
    | ((with_reducible show wpAny _ _ (compareOp CmpOp.Lt (Value.int _ _) (Value.int _ _)) _ _ _); (k_here; first | (with_reducible refine' ltT ?h_z9 ?_; (case h_z9 => omega)) | (with_reducible refine' ltF ?h_z9 ?_; (case h_z9 => omega)) | (with_reducible refine' ltS ?_ ?_ <;> intro hq9)))
    | ((with_reducible show wpAny _ _ (compareOp CmpOp.Eq (Value.int _ _) (Value.int _ _)) _ _ _); (k_here; first | (with_reducible refine' eqT ?h_z9 ?_; (case h_z9 => omega)) | (with_reducible refine' eqF ?h_z9 ?_; (case h_z9 => omega)) | (with_reducible refine' eqS ?_ ?_ <;> intro hq9)))
    | ((with_reducible show wpAny _ _ (call (Value.builtin "list.pop") _ _) _ _ _); (k_here; k_dflt (refine' pop0 ?F_z9 ?N_z9 ?U_z9 ?z_z9 ?_; (case F_z9 => k_asm); (case N_z9 => k_asm); (case U_z9 => k_upd); (case z_z9 => (try simp only [List.length_nil, List.length_cons]); omega); k_whole); intro h' F' N'))
    | (k_end; kc_close)
    | walk1
    | (dsimp only; walk1)
    | (leave1; (try dsimp only))
    | fail "no step")
  all_goals (refine' hret  _ _ ?F (news_sub ?N ?sub); (case F => assumption); (case N => assumption); (case sub => ((repeat (refine' List.forall_mem_cons.mpr ⟨?_, ?_⟩; k_mem)); intro p hp; repeat (first | exact hp | refine' List.Mem.tail _ ?_))))
set_option maxRecDepth 100000 in
set_option maxHeartbeats 8000000 in
theorem unlock_free {w : World} {p : Program} {loose : List Str} {mean : ExcName → Option Value} {mg mb : Str → Option Value} {gd : Option (List Code)} {cn : Str} {cs : Scope} {ca : Addr} {ccd : Value} {cl : List (Str × Addr)} {outer : List Env} {A₀ : Around} {base h₀ : Heap} {L : Addr} {m : Str → Option Value} {s : Shared} {Q E : Value → Shared → Prop} {news : List (Addr × Obj)} {q x dx wl : Addr} {t1 t2 : Tok} {nw nq : Nat}
    (B : Below A₀ base outer h₀) (F : Fr h₀ L s.heap m) 
    (N : News h₀ L s.heap ((x, instObj 121 dx) :: (dx, lockD w t1 t2 .none (.ref wl)) :: (wl, listOf #[] nw) :: (q, listOf #[] nq) :: news)) (T : Top p loose mean mg mb h₀) (XB : (Mine.pre.heap_1_39 w.params).In base) (TB : Top p loose mean mg mb base) (D : KtsDicts (outer.filterMap (·.frame)) h₀) (hk : cs.kind = .function)
    (ho : @LT.lt Nat _ dx x ∧ @LT.lt Nat _ x wl ∧ @LT.lt Nat _ wl q) (hn : OwnOff news [x, dx, wl, q])
    (hret : ∀ g' h' tk nw' nq', Gd (Mine.pre.heap_1_39 w.params) A₀ base outer p loose mean mg mb h₀ g' → Fr g' L h' m → News g' L h' ((x, instObj 121 dx) :: (dx, lockD w t1 t2 .none (.ref wl)) :: (wl, listOf #[] nw') :: (q, listOf #[] nq') :: news) → Q (.bool true) { s with heap := h', toks := tk }) :
    (Mine.pre.heap_1_39 w.params).In h₀ → wpAny (model PySem.Challenge.rw_on0004_01.row.prog w) (ktrTop 303 10 gd cn cs L ca ccd cl outer) (call (.ref 209) [.ref x, .ref q]) Q E s := by
  k_fill
  intro X
  repeat' (first
    | (k_unfold; (try dsimp only))
    | ((with_reducible show wpAny _ _ (execs (_ :: _) _) _ _ _); (refine nrmS (by with_reducible assumption) ?_); intro tk'; refine wpAny_execs_cons ?_)
    | ((with_reducible show wpAny _ _ (call (Value.ref 195) _) _ _ _); (refine' told_spec ?B_z9 ?F_z9 ?N_z9 ?T_z9 ?XB_z9 ?TB_z9 ?D_z9 ?hk_z9 ?hdp_z9 ?hun_z9 ?hcb_z9 ?_ ?X_z9; (case B_z9 => k_asm); (case F_z9 => k_asm); (case N_z9 => k_asm); (case T_z9 => k_asm); (case X_z9 => k_asm); (case XB_z9 => assumption); (case TB_z9 => assumption); (case D_z9 => assumption); (case hk_z9 => first | exact rfl | assumption); (case hdp_z9 => exact Nat.le_of_ble_eq_true rfl); (case hun_z9 => exact Nat.le_of_ble_eq_true rfl); (case hcb_z9 => (intro g9 L9 h9 N9 X9; first | (apply keeps_M2 N9 X9 <;> first | k_mem | k_is) | (apply keeps_F2 N9; k_mem))); intro cn9 ns9 ca9 ccd9 g' L' h' tk' m' l1 F' N' B' X' T' D'; (k_lt l1); (try k_lift B'); (try k_fold)))
    | ((with_reducible show ToldE _ _ _ _ _ _ _ _ _ _ _ _ _ _ _ _ _ _ _ _); (refine' ⟨_, _, _, _, _, _, _, _, rfl, rfl, ?FG_z9, ?U_z9, Or.inl ⟨_, _, _, _, ?gv_z9, RaisedG.keepP ?R_z9, ?aft_z9⟩⟩; (case R_z9 => assumption); (case U_z9 => assumption); (case FG_z9 => assumption); (case gv_z9 => first | k_get | exact rfl); (intro g' h' tk' u G' F' N'; obtain ⟨T', B', X', P', D'⟩ := G')))
    | ((with_reducible show wpAny _ _ (call (Value.ref 81) _) _ _ _); (refine' panic_spec ?B_z9 ?F_z9 ?N_z9 ?T_z9 ?hk_z9 ?he_z9 ?hb_z9 ?_ ?X_z9; (case B_z9 => k_asm); (case F_z9 => k_asm); (case N_z9 => k_asm); (case T_z9 => k_asm); (case X_z9 => k_asm); (case hk_z9 => first | exact rfl | assumption); (case he_z9 => first | exact enc1 | exact enc2); (case hb_z9 => decide); k_whole; intro e' t' d' t2' D' h' tk' ta' tb' tc' td' te' u1' u2' u3' F' N' lo' l1 l2; (dsimp only [OffAs] at lo'); (have l3 := fun q hq => Nat.lt_trans (l1 q hq) l2); (k_lt l1); (k_lt l3); (try k_sweep)))
    | ((with_reducible show wpAny _ _ (compareOp CmpOp.Eq (Value.ref _) (Value.ref _)) _ _ _); (refine' eqI ?k1_z9 ?k2_z9 ?k3_z9 ?k4_z9 ?k5_z9 ?k6_z9 ?_; (case k1_z9 => (apply isl9 <;> first | with_reducible assumption | k_mem)); (case k2_z9 => (apply isl9 <;> first | with_reducible assumption | k_mem)); (case k3_z9 => first | with_reducible assumption | exact IntsAre.nil | exact IntsAre.cons _ _ IntsAre.nil | exact IntsAre.cons _ _ (by assumption)); (case k4_z9 => exact IntsAre.nil); (case k5_z9 => ke_room); (case k6_z9 => (first | exact decide_eq_true rfl | (refine decide_eq_false ?_; (simp; done)))); k_whole))
    | ((k_here; (first | ((with_reducible show wpAny _ _ (callWith _ (Value.ref _) _ (backTo _ (starEach [] _)) []) _ _ _); k_dflt (refine' callWith_K0 ?k1_z9 ?k2_z9 ?_; (case k1_z9 => exact Frag.In.keeps (by with_reducible assumption) (Fr.keep (by with_reducible assumption))); (case k2_z9 => k_is); k_whole)) | ((with_reducible show wpAny _ _ (callWith _ (Value.ref _) _ (backTo _ (starEach (_ :: _) _)) []) _ _ _); k_dflt (refine' callWith_K ?k1_z9 ?k2_z9 ?_; (case k1_z9 => with_reducible assumption); (case k2_z9 => k_is); k_whole)))))
    | ((with_reducible show wpAny _ _ (compareOp CmpOp.Eq (Value.ref _) (Value.ref _)) _ _ _); (k_here; k_dflt (refine' eqI ?k1_z9 ?k2_z9 ?k3_z9 ?k4_z9 ?k5_z9 ?k6_z9 ?_; (case k1_z9 => is_list); (case k2_z9 => is_list); (case k3_z9 => l_ints); (case k4_z9 => l_ints); (case k5_z9 => ke_room); (case k6_z9 => first | exact decide_eq_true rfl | (refine decide_eq_false ?_; (simp; done))))))
    | ((with_reducible show wpAny _ _ (leaving _ (Value.ref _)) _ _ _); (k_here; first | (refine' leave_firstG ?k1_z9 ?k2_z9 ?k3_z9 ?k4_z9 ?_ ?kf_z9 ?kk_z9; (case kf_z9 => exact rfl); (case kk_z9 => exact rfl); (case k1_z9 => k_asm); (case k2_z9 => k_asm); (case k3_z9 => k_asm); (case k4_z9 => (repeat' (first | with_reducible refine' DropE.head ?_ | refine' DropE.tail ?_ ?_)) <;> (first | k_ne | k_all)); k_whole; intro h' R' U'; (try dsimp only at R' U' ⊢)) | (refine' leave_onG ?k1_z9 ?k2_z9 ?k3_z9 ?k4_z9 ?_ ?kf_z9; (case kf_z9 => exact rfl); (case k3_z9 => assumption); (case k1_z9 => assumption); (case k4_z9 => assumption); (case k2_z9 => assumption); k_whole; intro h' R' U'; (try dsimp only at R' U' ⊢))))
    | ((with_reducible show RaisD _ _ _ _); (k_dflt (refine' RaisD.intro ?kX_z9 ?kN_z9 ?kM_z9 ?kC_z9 ?kB_z9 ?_; (case kX_z9 => k_in); (case kN_z9 => k_asm); (case kM_z9 => k_mem); (case kC_z9 => k_is); (case kB_z9 => rfl); k_whole)))
    | ((with_reducible show wpAny _ _ (exec (Stmt.Raise (some _) none _) _) _ _ _); (k_here; (k_dflt (refine' raise_exc (K := Mine.pre.heap_1_39 _) ?k1_z9 ?k2_z9 ?_; (case k1_z9 => k_in); (case k2_z9 => first | rfl | assumption)))))
    | ((with_reducible show LeaveG _ _ _ _ _ _ _ _ _ _ _ _ _ _ _ _ _); ((k_dflt (refine' leaveG_ ?F_z9 ?N_z9 ?T_z9 ?_; (case F_z9 => k_asm); (case N_z9 => k_asm); (case T_z9 => first | assumption | exact KtsTurn.refl); k_whole)); intro kg kT kF kN kB kX₀ kP kD; (have kX := kFor kF kX₀); (try k_lift kB); kts_tail))
    | ((k_here; (first | (with_reducible show wpAny _ _ (call (Value.ref 209) _) _ _ _) | (with_reducible show wpAny _ _ (call (Value.ref 209) _) _ _ _)); k_dflt (refine wpAny_call ?_; refine' code_plainG ?k1_z9 ?k2_z9 ?k3_z9 ?k4_z9 ?k5_z9 ?XB_z9 ?TB_z9 ?D_z9 ?T0_z9 ?kA_z9 ?kF_z9 ?kK_z9 ?k6_z9 ?k7_z9 ?k8_z9 ?k9_z9 ?kB_z9 ?_ ?c2_z9 ?c3_z9 ?c4_z9 ?c5_z9; (case kA_z9 => exact rfl); (case kF_z9 => exact rfl); (case kK_z9 => first | assumption | exact rfl); (case k2_z9 => k_asm); (case k1_z9 => k_asm); (case XB_z9 => assumption); (case TB_z9 => assumption); (case D_z9 => assumption); (case T0_z9 => first | assumption | exact KtsTurn.refl); (case k3_z9 => k_asm); (case k4_z9 => k_asm); (case k5_z9 => k_asm); (case k6_z9 => k_is); (case k7_z9 => k_is); (case k8_z9 => ktr_room); (case k9_z9 => exact BindsTo.of_eq rfl); (case kB_z9 => exact locs rfl); (case c2_z9 => exact rfl); (case c3_z9 => exact rfl); (case c4_z9 => exact rfl); (case c5_z9 => decide); k_whole; intro g' L' h' FG' F' N' B' X' T' D' l1; (try k_lt l1); (try dsimp only); (try k_lift B'); (try k_fold))))
    | (k_end; kc_close)
    | walk1
    | (dsimp only; walk1)
    | (leave1; (try dsimp only))
    | fail "no step")
  all_goals (refine' hret _ _ _ ?nw ?nq (Gd.of B XB TB D (by assumption)) ?F (news_sub ?N ?sub); (case F => assumption); (case N => assumption); (case sub => ((repeat (refine' List.forall_mem_cons.mpr ⟨?_, ?_⟩; k_mem)); intro p hp; repeat (first | exact hp | refine' List.Mem.tail _ ?_))))
set_option maxRecDepth 100000 in
set_option maxHeartbeats 8000000 in
theorem unlock_one {w : World} {p : Program} {loose : List Str} {mean : ExcName → Option Value} {mg mb : Str → Option Value} {gd : Option (List Code)} {cn : Str} {cs : Scope} {ca : Addr} {ccd : Value} {cl : List (Str × Addr)} {outer : List Env} {A₀ : Around} {base h₀ : Heap} {L : Addr} {m : Str → Option Value} {s : Shared} {Q E : Value → Shared → Prop} {news : List (Addr × Obj)} {q x dx wl : Addr} {t1 t2 : Tok} {nw nq : Nat} {to tq : Tok} {k : Int}
    (B : Below A₀ base outer h₀) (F : Fr h₀ L s.heap m) 
    (N : News h₀ L s.heap ((x, instObj 121 dx) :: (dx, lockD w t1 t2 (.int k to) (.ref wl)) :: (wl, listOf #[] nw) :: (q, listOf #[.int k tq] nq) :: news)) (T : Top p loose mean mg mb h₀) (XB : (Mine.pre.heap_1_39 w.params).In base) (TB : Top p loose mean mg mb base) (D : KtsDicts (outer.filterMap (·.frame)) h₀) (hk : cs.kind = .function)
    (ho : @LT.lt Nat _ dx x ∧ @LT.lt Nat _ x wl ∧ @LT.lt Nat _ wl q) (hn : OwnOff news [x, dx, wl, q])
    (hret : ∀ g' h' tk nw' nq', Gd (Mine.pre.heap_1_39 w.params) A₀ base outer p loose mean mg mb h₀ g' → Fr g' L h' m → News g' L h' ((x, instObj 121 dx) :: (dx, lockD w t1 t2 .none (.ref wl)) :: (wl, listOf #[] nw') :: (q, listOf #[] nq') :: news) → Q (.bool true) { s with heap := h', toks := tk }) :
    (Mine.pre.heap_1_39 w.params).In h₀ → wpAny (model PySem.Challenge.rw_on0004_01.row.prog w) (ktrTop 303 10 gd cn cs L ca ccd cl outer) (call (.ref 209) [.ref x, .ref q]) Q E s := by
  k_fill
  intro X
  repeat' (first
    | (k_unfold; (try dsimp only))
    | ((with_reducible show wpAny _ _ (execs (_ :: _) _) _ _ _); (refine nrmS (by with_reducible assumption) ?_); intro tk'; refine wpAny_execs_cons ?_)
    | ((with_reducible show wpAny _ _ (call (Value.ref 195) _) _ _ _); (refine' told_spec ?B_z9 ?F_z9 ?N_z9 ?T_z9 ?XB_z9 ?TB_z9 ?D_z9 ?hk_z9 ?hdp_z9 ?hun_z9 ?hcb_z9 ?_ ?X_z9; (case B_z9 => k_asm); (case F_z9 => k_asm); (case N_z9 => k_asm); (case T_z9 => k_asm); (case X_z9 => k_asm); (case XB_z9 => assumption); (case TB_z9 => assumption); (case D_z9 => assumption); (case hk_z9 => first | exact rfl | assumption); (case hdp_z9 => exact Nat.le_of_ble_eq_true rfl); (case hun_z9 => exact Nat.le_of_ble_eq_true rfl); (case hcb_z9 => (intro g9 L9 h9 N9 X9; first | (apply keeps_M2 N9 X9 <;> first | k_mem | k_is) | (apply keeps_F2 N9; k_mem))); intro cn9 ns9 ca9 ccd9 g' L' h' tk' m' l1 F' N' B' X' T' D'; (k_lt l1); (try k_lift B'); (try k_fold)))
    | ((with_reducible show wpAny _ _ (call (Value.ref 118) _) _ _ _); first | (refine' m_unlock_one ?B_z9 ?F_z9 ?N_z9 ?T_z9 ?hk_z9 ?hdp_z9 ?hun_z9 ?x0_z9 ?x1_z9 ?x2_z9 ?D1_z9 ?D2_z9 ?D3_z9  ?_ ?X_z9; (case B_z9 => k_asm); (case F_z9 => k_asm); (case N_z9 => k_asm); (case T_z9 => k_asm); (case X_z9 => k_asm); (case hk_z9 => first | exact rfl | assumption); (case hdp_z9 => exact Nat.le_of_ble_eq_true rfl); (case hun_z9 => exact Nat.le_of_ble_eq_true rfl); (case x0_z9 => k_mem); (case x1_z9 => k_mem); (case x2_z9 => k_mem); (case D1_z9 => ((repeat' ((with_reducible show DropE _ _ _ _); first | with_reducible refine' DropE.head ?_ | with_reducible refine' DropE.tail ?_ ?_)); all_goals (first | ((with_reducible show @Ne _ _ _); k_ne) | k_all))); (case D2_z9 => ((repeat' ((with_reducible show DropE _ _ _ _); first | with_reducible refine' DropE.head ?_ | with_reducible refine' DropE.tail ?_ ?_)); all_goals (first | ((with_reducible show @Ne _ _ _); k_ne) | k_all))); (case D3_z9 => k_mem);  k_whole; intro h' tk' F' N'; (try simp only [List.nil_append, List.cons_append] at N'); (try k_sweep)) | (refine' m_unlock_more ?B_z9 ?F_z9 ?N_z9 ?T_z9 ?hk_z9 ?hdp_z9 ?hun_z9 ?x0_z9 ?x1_z9 ?x2_z9 ?D1_z9 ?D2_z9 ?D3_z9 ?iw_z9 ?lw_z9 ?_ ?X_z9; (case B_z9 => k_asm); (case F_z9 => k_asm); (case N_z9 => k_asm); (case T_z9 => k_asm); (case X_z9 => k_asm); (case hk_z9 => first | exact rfl | assumption); (case hdp_z9 => exact Nat.le_of_ble_eq_true rfl); (case hun_z9 => exact Nat.le_of_ble_eq_true rfl); (case x0_z9 => k_mem); (case x1_z9 => k_mem); (case x2_z9 => k_mem); (case D1_z9 => ((repeat' ((with_reducible show DropE _ _ _ _); first | with_reducible refine' DropE.head ?_ | with_reducible refine' DropE.tail ?_ ?_)); all_goals (first | ((with_reducible show @Ne _ _ _); k_ne) | k_all))); (case D2_z9 => ((repeat' ((with_reducible show DropE _ _ _ _); first | with_reducible refine' DropE.head ?_ | with_reducible refine' DropE.tail ?_ ?_)); all_goals (first | ((with_reducible show @Ne _ _ _); k_ne) | k_all))); (case D3_z9 => k_mem); (case iw_z9 => first | with_reducible assumption | exact IntsAre.nil | exact IntsAre.cons _ _ IntsAre.nil | exact IntsAre.cons _ _ (IntsAre.cons _ _ IntsAre.nil) | exact IntsAre.cons _ _ (IntsAre.cons _ _ (IntsAre.cons _ _ IntsAre.nil))); (case lw_z9 => first | omega | (simp only [List.length_nil, List.length_cons, List.length_append]; omega)); k_whole; intro h' tk' F' N'; (try simp only [List.nil_append, List.cons_append] at N'); (try k_sweep)))
    | ((with_reducible show wpAny _ _ (compareOp CmpOp.NotEq (Value.ref _) (Value.ref _)) _ _ _); (refine' neI ?k1_z9 ?k2_z9 ?k3_z9 ?k4_z9 ?k5_z9 ?k6_z9 ?_; (case k1_z9 => (apply isl9 <;> first | with_reducible assumption | k_mem)); (case k2_z9 => (apply isl9 <;> first | with_reducible assumption | k_mem)); (case k3_z9 => first | with_reducible assumption | exact IntsAre.nil | exact IntsAre.cons _ _ IntsAre.nil | exact IntsAre.cons _ _ (by assumption)); (case k4_z9 => exact IntsAre.nil); (case k5_z9 => ke_room); (case k6_z9 => (first | exact congrArg not (decide_eq_true rfl) | (refine congrArg not (decide_eq_false ?_); (simp; done)))); k_whole))
    | ((with_reducible show wpAny _ _ (compareOp CmpOp.Eq (Value.ref _) (Value.ref _)) _ _ _); (refine' eqI ?k1_z9 ?k2_z9 ?k3_z9 ?k4_z9 ?k5_z9 ?k6_z9 ?_; (case k1_z9 => (apply isl9 <;> first | with_reducible assumption | k_mem)); (case k2_z9 => (apply isl9 <;> first | with_reducible assumption | k_mem)); (case k3_z9 => first | with_reducible assumption | exact IntsAre.nil | exact IntsAre.cons _ _ IntsAre.nil | exact IntsAre.cons _ _ (by assumption)); (case k4_z9 => exact IntsAre.nil); (case k5_z9 => ke_room); (case k6_z9 => (first | exact decide_eq_true rfl | (refine decide_eq_false ?_; (simp; done)))); k_whole))
    | ((k_here; (first | ((with_reducible show wpAny _ _ (callWith _ (Value.ref _) _ (backTo _ (starEach [] _)) []) _ _ _); k_dflt (refine' callWith_K0 ?k1_z9 ?k2_z9 ?_; (case k1_z9 => exact Frag.In.keeps (by with_reducible assumption) (Fr.keep (by with_reducible assumption))); (case k2_z9 => k_is); k_whole)) | ((with_reducible show wpAny _ _ (callWith _ (Value.ref _) _ (backTo _ (starEach (_ :: _) _)) []) _ _ _); k_dflt (refine' callWith_K ?k1_z9 ?k2_z9 ?_; (case k1_z9 => with_reducible assumption); (case k2_z9 => k_is); k_whole)))))
    | ((with_reducible show wpAny _ _ (call (Value.builtin "list.pop") _ _) _ _ _); (k_here; k_dflt (refine' pop0 ?F_z9 ?N_z9 ?U_z9 ?z_z9 ?_; (case F_z9 => k_asm); (case N_z9 => k_asm); (case U_z9 => k_upd); (case z_z9 => (try simp only [List.length_nil, List.length_cons]); omega); k_whole); intro h' F' N'))
    | ((with_reducible show wpAny _ _ (compareOp CmpOp.Eq (Value.ref _) (Value.ref _)) _ _ _); (k_here; k_dflt (refine' eqI ?k1_z9 ?k2_z9 ?k3_z9 ?k4_z9 ?k5_z9 ?k6_z9 ?_; (case k1_z9 => is_list); (case k2_z9 => is_list); (case k3_z9 => l_ints); (case k4_z9 => l_ints); (case k5_z9 => ke_room); (case k6_z9 => first | exact decide_eq_true rfl | (refine decide_eq_false ?_; (simp; done))))))
    | ((with_reducible show LeaveG _ _ _ _ _ _ _ _ _ _ _ _ _ _ _ _ _); ((k_dflt (refine' leaveG_ ?F_z9 ?N_z9 ?T_z9 ?_; (case F_z9 => k_asm); (case N_z9 => k_asm); (case T_z9 => first | assumption | exact KtsTurn.refl); k_whole)); intro kg kT kF kN kB kX₀ kP kD; (have kX := kFor kF kX₀); (try k_lift kB); kts_tail))
    | ((k_here; (first | (with_reducible show wpAny _ _ (call (Value.ref 209) _) _ _ _) | (with_reducible show wpAny _ _ (call (Value.ref 209) _) _ _ _)); k_dflt (refine wpAny_call ?_; refine' code_plainG ?k1_z9 ?k2_z9 ?k3_z9 ?k4_z9 ?k5_z9 ?XB_z9 ?TB_z9 ?D_z9 ?T0_z9 ?kA_z9 ?kF_z9 ?kK_z9 ?k6_z9 ?k7_z9 ?k8_z9 ?k9_z9 ?kB_z9 ?_ ?c2_z9 ?c3_z9 ?c4_z9 ?c5_z9; (case kA_z9 => exact rfl); (case kF_z9 => exact rfl); (case kK_z9 => first | assumption | exact rfl); (case k2_z9 => k_asm); (case k1_z9 => k_asm); (case XB_z9 => assumption); (case TB_z9 => assumption); (case D_z9 => assumption); (case T0_z9 => first | assumption | exact KtsTurn.refl); (case k3_z9 => k_asm); (case k4_z9 => k_asm); (case k5_z9 => k_asm); (case k6_z9 => k_is); (case k7_z9 => k_is); (case k8_z9 => ktr_room); (case k9_z9 => exact BindsTo.of_eq rfl); (case kB_z9 => exact locs rfl); (case c2_z9 => exact rfl); (case c3_z9 => exact rfl); (case c4_z9 => exact rfl); (case c5_z9 => decide); k_whole; intro g' L' h' FG' F' N' B' X' T' D' l1; (try k_lt l1); (try dsimp only); (try k_lift B'); (try k_fold))))
    | (k_end; kc_close)
    | walk1
    | (dsimp only; walk1)
    | (leave1; (try dsimp only))
    | fail "no step")
  all_goals (refine' hret _ _ _ ?nw ?nq (Gd.of B XB TB D (by assumption)) ?F (news_sub ?N ?sub); (case F => assumption); (case N => assumption); (case sub => ((repeat (refine' List.forall_mem_cons.mpr ⟨?_, ?_⟩; k_mem)); intro p hp; repeat (first | exact hp | refine' List.Mem.tail _ ?_))))
set_option maxRecDepth 100000 in
set_option maxHeartbeats 8000000 in
theorem unlock_more {w : World} {p : Program} {loose : List Str} {mean : ExcName → Option Value} {mg mb : Str → Option Value} {gd : Option (List Code)} {cn : Str} {cs : Scope} {ca : Addr} {ccd : Value} {cl : List (Str × Addr)} {outer : List Env} {A₀ : Around} {base h₀ : Heap} {L : Addr} {m : Str → Option Value} {s : Shared} {Q E : Value → Shared → Prop} {news : List (Addr × Obj)} {q x dx wl : Addr} {t1 t2 : Tok} {nw nq : Nat} {to tq tq2 tw : Tok} {k k2 : Int} {qv wv : List Value} {wi : List Int}
    (B : Below A₀ base outer h₀) (F : Fr h₀ L s.heap m) (iq : IntsAre qv wi) (iw : IntsAre wv wi) (lq : qv.length ≤ 90) (lw : wv.length ≤ 90)
    (N : News h₀ L s.heap ((x, instObj 121 dx) :: (dx, lockD w t1 t2 (.int k to) (.ref wl)) :: (wl, listOf (.int k2 tw :: wv).toArray nw) :: (q, listOf (.int k tq :: .int k2 tq2 :: qv).toArray nq) :: news)) (T : Top p loose mean mg mb h₀) (XB : (Mine.pre.heap_1_39 w.params).In base) (TB : Top p loose mean mg mb base) (D : KtsDicts (outer.filterMap (·.frame)) h₀) (hk : cs.kind = .function)
    (ho : @LT.lt Nat _ dx x ∧ @LT.lt Nat _ x wl ∧ @LT.lt Nat _ wl q) (hn : OwnOff news [x, dx, wl, q])
    (hret : ∀ g' h' tk to' nw' nq', Gd (Mine.pre.heap_1_39 w.params) A₀ base outer p loose mean mg mb h₀ g' → Fr g' L h' m → News g' L h' ((x, instObj 121 dx) :: (dx, lockD w t1 t2 (.int k2 to') (.ref wl)) :: (wl, listOf wv.toArray nw') :: (q, listOf (.int k2 tq2 :: qv).toArray nq') :: news) → Q (.bool true) { s with heap := h', toks := tk }) :
    (Mine.pre.heap_1_39 w.params).In h₀ → wpAny (model PySem.Challenge.rw_on0004_01.row.prog w) (ktrTop 303 10 gd cn cs L ca ccd cl outer) (call (.ref 209) [.ref x, .ref q]) Q E s := by
  k_fill
  intro X
  repeat' (first
    | (k_unfold; (try dsimp only))
    | ((with_reducible show wpAny _ _ (execs (_ :: _) _) _ _ _); (refine nrmS (by with_reducible assumption) ?_); intro tk'; refine wpAny_execs_cons ?_)
    | ((with_reducible show wpAny _ _ (call (Value.ref 195) _) _ _ _); (refine' told_spec ?B_z9 ?F_z9 ?N_z9 ?T_z9 ?XB_z9 ?TB_z9 ?D_z9 ?hk_z9 ?hdp_z9 ?hun_z9 ?hcb_z9 ?_ ?X_z9; (case B_z9 => k_asm); (case F_z9 => k_asm); (case N_z9 => k_asm); (case T_z9 => k_asm); (case X_z9 => k_asm); (case XB_z9 => assumption); (case TB_z9 => assumption); (case D_z9 => assumption); (case hk_z9 => first | exact rfl | assumption); (case hdp_z9 => exact Nat.le_of_ble_eq_true rfl); (case hun_z9 => exact Nat.le_of_ble_eq_true rfl); (case hcb_z9 => (intro g9 L9 h9 N9 X9; first | (apply keeps_M2 N9 X9 <;> first | k_mem | k_is) | (apply keeps_F2 N9; k_mem))); intro cn9 ns9 ca9 ccd9 g' L' h' tk' m' l1 F' N' B' X' T' D'; (k_lt l1); (try k_lift B'); (try k_fold)))
    | ((with_reducible show wpAny _ _ (call (Value.ref 118) _) _ _ _); first | (refine' m_unlock_one ?B_z9 ?F_z9 ?N_z9 ?T_z9 ?hk_z9 ?hdp_z9 ?hun_z9 ?x0_z9 ?x1_z9 ?x2_z9 ?D1_z9 ?D2_z9 ?D3_z9  ?_ ?X_z9; (case B_z9 => k_asm); (case F_z9 => k_asm); (case N_z9 => k_asm); (case T_z9 => k_asm); (case X_z9 => k_asm); (case hk_z9 => first | exact rfl | assumption); (case hdp_z9 => exact Nat.le_of_ble_eq_true rfl); (case hun_z9 => exact Nat.le_of_ble_eq_true rfl); (case x0_z9 => k_mem); (case x1_z9 => k_mem); (case x2_z9 => k_mem); (case D1_z9 => ((repeat' ((with_reducible show DropE _ _ _ _); first | with_reducible refine' DropE.head ?_ | with_reducible refine' DropE.tail ?_ ?_)); all_goals (first | ((with_reducible show @Ne _ _ _); k_ne) | k_all))); (case D2_z9 => ((repeat' ((with_reducible show DropE _ _ _ _); first | with_reducible refine' DropE.head ?_ | with_reducible refine' DropE.tail ?_ ?_)); all_goals (first | ((with_reducible show @Ne _ _ _); k_ne) | k_all))); (case D3_z9 => k_mem);  k_whole; intro h' tk' F' N'; (try simp only [List.nil_append, List.cons_append] at N'); (try k_sweep)) | (refine' m_unlock_more ?B_z9 ?F_z9 ?N_z9 ?T_z9 ?hk_z9 ?hdp_z9 ?hun_z9 ?x0_z9 ?x1_z9 ?x2_z9 ?D1_z9 ?D2_z9 ?D3_z9 ?iw_z9 ?lw_z9 ?_ ?X_z9; (case B_z9 => k_asm); (case F_z9 => k_asm); (case N_z9 => k_asm); (case T_z9 => k_asm); (case X_z9 => k_asm); (case hk_z9 => first | exact rfl | assumption); (case hdp_z9 => exact Nat.le_of_ble_eq_true rfl); (case hun_z9 => exact Nat.le_of_ble_eq_true rfl); (case x0_z9 => k_mem); (case x1_z9 => k_mem); (case x2_z9 => k_mem); (case D1_z9 => ((repeat' ((with_reducible show DropE _ _ _ _); first | with_reducible refine' DropE.head ?_ | with_reducible refine' DropE.tail ?_ ?_)); all_goals (first | ((with_reducible show @Ne _ _ _); k_ne) | k_all))); (case D2_z9 => ((repeat' ((with_reducible show DropE _ _ _ _); first | with_reducible refine' DropE.head ?_ | with_reducible refine' DropE.tail ?_ ?_)); all_goals (first | ((with_reducible show @Ne _ _ _); k_ne) | k_all))); (case D3_z9 => k_mem); (case iw_z9 => first | with_reducible assumption | exact IntsAre.nil | exact IntsAre.cons _ _ IntsAre.nil | exact IntsAre.cons _ _ (IntsAre.cons _ _ IntsAre.nil) | exact IntsAre.cons _ _ (IntsAre.cons _ _ (IntsAre.cons _ _ IntsAre.nil))); (case lw_z9 => first | omega | (simp only [List.length_nil, List.length_cons, List.length_append]; omega)); k_whole; intro h' tk' F' N'; (try simp only [List.nil_append, List.cons_append] at N'); (try k_sweep)))
    | ((with_reducible show wpAny _ _ (compareOp CmpOp.NotEq (Value.ref _) (Value.ref _)) _ _ _); (refine' neI ?k1_z9 ?k2_z9 ?k3_z9 ?k4_z9 ?k5_z9 ?k6_z9 ?_; (case k1_z9 => (apply isl9 <;> first | with_reducible assumption | k_mem)); (case k2_z9 => (apply isl9 <;> first | with_reducible assumption | k_mem)); (case k3_z9 => first | with_reducible assumption | exact IntsAre.nil | exact IntsAre.cons _ _ IntsAre.nil | exact IntsAre.cons _ _ (by assumption)); (case k4_z9 => exact IntsAre.nil); (case k5_z9 => ke_room); (case k6_z9 => (first | exact congrArg not (decide_eq_true rfl) | (refine congrArg not (decide_eq_false ?_); (simp; done)))); k_whole))
    | ((with_reducible show wpAny _ _ (compareOp CmpOp.Eq (Value.ref _) (Value.ref _)) _ _ _); (refine' eqI ?k1_z9 ?k2_z9 ?k3_z9 ?k4_z9 ?k5_z9 ?k6_z9 ?_; (case k1_z9 => (apply isl9 <;> first | with_reducible assumption | k_mem)); (case k2_z9 => (apply isl9 <;> first | with_reducible assumption | k_mem)); (case k3_z9 => first | with_reducible assumption | exact IntsAre.nil | exact IntsAre.cons _ _ IntsAre.nil | exact IntsAre.cons _ _ (by assumption)); (case k4_z9 => exact IntsAre.nil); (case k5_z9 => ke_room); (case k6_z9 => (first | exact decide_eq_true rfl | (refine decide_eq_false ?_; (simp; done)))); k_whole))
    | ((k_here; (first | ((with_reducible show wpAny _ _ (callWith _ (Value.ref _) _ (backTo _ (starEach [] _)) []) _ _ _); k_dflt (refine' callWith_K0 ?k1_z9 ?k2_z9 ?_; (case k1_z9 => exact Frag.In.keeps (by with_reducible assumption) (Fr.keep (by with_reducible assumption))); (case k2_z9 => k_is); k_whole)) | ((with_reducible show wpAny _ _ (callWith _ (Value.ref _) _ (backTo _ (starEach (_ :: _) _)) []) _ _ _); k_dflt (refine' callWith_K ?k1_z9 ?k2_z9 ?_; (case k1_z9 => with_reducible assumption); (case k2_z9 => k_is); k_whole)))))
    | ((with_reducible show wpAny _ _ (call (Value.builtin "list.pop") _ _) _ _ _); (k_here; k_dflt (refine' pop0 ?F_z9 ?N_z9 ?U_z9 ?z_z9 ?_; (case F_z9 => k_asm); (case N_z9 => k_asm); (case U_z9 => k_upd); (case z_z9 => (try simp only [List.length_nil, List.length_cons]); omega); k_whole); intro h' F' N'))
    | ((with_reducible show wpAny _ _ (compareOp CmpOp.Eq (Value.ref _) (Value.ref _)) _ _ _); (k_here; k_dflt (refine' eqI ?k1_z9 ?k2_z9 ?k3_z9 ?k4_z9 ?k5_z9 ?k6_z9 ?_; (case k1_z9 => is_list); (case k2_z9 => is_list); (case k3_z9 => l_ints); (case k4_z9 => l_ints); (case k5_z9 => ke_room); (case k6_z9 => first | exact decide_eq_true rfl | (refine decide_eq_false ?_; (simp; done))))))
    | ((with_reducible show LeaveG _ _ _ _ _ _ _ _ _ _ _ _ _ _ _ _ _); ((k_dflt (refine' leaveG_ ?F_z9 ?N_z9 ?T_z9 ?_; (case F_z9 => k_asm); (case N_z9 => k_asm); (case T_z9 => first | assumption | exact KtsTurn.refl); k_whole)); intro kg kT kF kN kB kX₀ kP kD; (have kX := kFor kF kX₀); (try k_lift kB); kts_tail))
    | ((k_here; (first | (with_reducible show wpAny _ _ (call (Value.ref 209) _) _ _ _) | (with_reducible show wpAny _ _ (call (Value.ref 209) _) _ _ _)); k_dflt (refine wpAny_call ?_; refine' code_plainG ?k1_z9 ?k2_z9 ?k3_z9 ?k4_z9 ?k5_z9 ?XB_z9 ?TB_z9 ?D_z9 ?T0_z9 ?kA_z9 ?kF_z9 ?kK_z9 ?k6_z9 ?k7_z9 ?k8_z9 ?k9_z9 ?kB_z9 ?_ ?c2_z9 ?c3_z9 ?c4_z9 ?c5_z9; (case kA_z9 => exact rfl); (case kF_z9 => exact rfl); (case kK_z9 => first | assumption | exact rfl); (case k2_z9 => k_asm); (case k1_z9 => k_asm); (case XB_z9 => assumption); (case TB_z9 => assumption); (case D_z9 => assumption); (case T0_z9 => first | assumption | exact KtsTurn.refl); (case k3_z9 => k_asm); (case k4_z9 => k_asm); (case k5_z9 => k_asm); (case k6_z9 => k_is); (case k7_z9 => k_is); (case k8_z9 => ktr_room); (case k9_z9 => exact BindsTo.of_eq rfl); (case kB_z9 => exact locs rfl); (case c2_z9 => exact rfl); (case c3_z9 => exact rfl); (case c4_z9 => exact rfl); (case c5_z9 => decide); k_whole; intro g' L' h' FG' F' N' B' X' T' D' l1; (try k_lt l1); (try dsimp only); (try k_lift B'); (try k_fold))))
    | (k_end; kc_close)
    | walk1
    | (dsimp only; walk1)
    | (leave1; (try dsimp only))
    | fail "no step")
  all_goals (try rw [show (k2 == (k2 :: wi).getD (Int.toNat 0) 0) = true from by simp])
  all_goals (refine' hret _ _ _ ?to ?nw ?nq (Gd.of B XB TB D (by assumption)) ?F (news_sub ?N ?sub); (case F => assumption); (case N => assumption); (case sub => ((repeat (refine' List.forall_mem_cons.mpr ⟨?_, ?_⟩; k_mem)); intro p hp; repeat (first | exact hp | refine' List.Mem.tail _ ?_))))
set_option maxRecDepth 100000 in
set_option maxHeartbeats 8000000 in
theorem lock_free {w : World} {p : Program} {loose : List Str} {mean : ExcName → Option Value} {mg mb : Str → Option Value} {gd : Option (List Code)} {cn : Str} {cs : Scope} {ca : Addr} {ccd : Value} {cl : List (Str × Addr)} {outer : List Env} {A₀ : Around} {base h₀ : Heap} {L : Addr} {m : Str → Option Value} {s : Shared} {Q E : Value → Shared → Prop} {news codes : List (Addr × Obj)} {more : List Addr} {ps : Array Value} {q x dx wl : Addr} {t1 t2 tk0 : Tok} {k : Int} {nw nq : Nat}
    (B : Below A₀ base outer h₀) (F : Fr h₀ L s.heap m) 
    (N : News h₀ L s.heap ((x, instObj 121 dx) :: (dx, lockD w t1 t2 .none (.ref wl)) :: (wl, listOf #[] nw) :: (q, listOf #[] nq) :: ((197 : Nat), tabObj ps) :: news)) (T : Top p loose mean mg mb h₀) (XB : (Mine.pre.heap_1_39 w.params).In base) (TB : Top p loose mean mg mb base) (D : KtsDicts (outer.filterMap (·.frame)) h₀) (hk : cs.kind = .function)
    (C1 : CodeHd base 201 197) (ht : TabOk lamQ ps codes) (hsub : SubC codes news) (hoff : OwnOff codes (x :: dx :: wl :: q :: (197 : Nat) :: more)) (hmore : HasAll news more)
    (ho : @LT.lt Nat _ (197 : Nat) dx ∧ @LT.lt Nat _ dx x ∧ @LT.lt Nat _ x wl ∧ @LT.lt Nat _ wl q) (hn : OwnOff news [x, dx, wl, q, (197 : Nat)])
    (hret : ∀ g' h' tk to tq ps' nw' nq' c' oc, Gd (Mine.pre.heap_1_39 w.params) A₀ base outer p loose mean mg mb h₀ g' → TabOk lamQ ps' ((c', oc) :: codes) → OwnOff ((c', oc) :: codes) (x :: dx :: wl :: q :: (197 : Nat) :: more) → Fr g' L h' m → News g' L h' ((x, instObj 121 dx) :: (dx, lockD w t1 t2 (.int k to) (.ref wl)) :: (wl, listOf #[] nw') :: (q, listOf #[.int k tq] nq') :: ((197 : Nat), tabObj ps') :: (c', oc) :: news) → Q (.bool true) { s with heap := h', toks := tk }) :
    (Mine.pre.heap_1_39 w.params).In h₀ → wpAny (model PySem.Challenge.rw_on0004_01.row.prog w) (ktrTop 303 10 gd cn cs L ca ccd cl outer) (call (.ref 202) [.ref x, .ref q, .int k tk0]) Q E s := by
  k_fill
  intro X
  repeat' (first
    | (k_unfold; (try dsimp only))
    | ((with_reducible show wpAny _ _ (execs (_ :: _) _) _ _ _); (refine nrmS (by with_reducible assumption) ?_); intro tk'; refine wpAny_execs_cons ?_)
    | ((with_reducible show wpAny _ _ (call (Value.ref 195) _) _ _ _); (refine' told_spec ?B_z9 ?F_z9 ?N_z9 ?T_z9 ?XB_z9 ?TB_z9 ?D_z9 ?hk_z9 ?hdp_z9 ?hun_z9 ?hcb_z9 ?_ ?X_z9; (case B_z9 => k_asm); (case F_z9 => k_asm); (case N_z9 => k_asm); (case T_z9 => k_asm); (case X_z9 => k_asm); (case XB_z9 => assumption); (case TB_z9 => assumption); (case D_z9 => assumption); (case hk_z9 => first | exact rfl | assumption); (case hdp_z9 => exact Nat.le_of_ble_eq_true rfl); (case hun_z9 => exact Nat.le_of_ble_eq_true rfl); (case hcb_z9 => (intro g9 L9 h9 N9 X9; first | (apply keeps_M2 N9 X9 <;> first | k_mem | k_is) | (apply keeps_F2 N9; k_mem))); intro cn9 ns9 ca9 ccd9 g' L' h' tk' m' l1 F' N' B' X' T' D'; (k_lt l1); (try k_lift B'); (try k_fold)))
    | ((with_reducible show wpAny _ _ (call (Value.ref 111) _) _ _ _); first | (refine' m_lock_free ?B_z9 ?F_z9 ?N_z9 ?T_z9 ?hk_z9 ?hdp_z9 ?hun_z9 ?x0_z9 ?x1_z9 ?x2_z9 ?D1_z9 ?D2_z9 ?D3_z9  ?_ ?X_z9; (case B_z9 => k_asm); (case F_z9 => k_asm); (case N_z9 => k_asm); (case T_z9 => k_asm); (case X_z9 => k_asm); (case hk_z9 => first | exact rfl | assumption); (case hdp_z9 => exact Nat.le_of_ble_eq_true rfl); (case hun_z9 => exact Nat.le_of_ble_eq_true rfl); (case x0_z9 => k_mem); (case x1_z9 => k_mem); (case x2_z9 => k_mem); (case D1_z9 => ((repeat' ((with_reducible show DropE _ _ _ _); first | with_reducible refine' DropE.head ?_ | with_reducible refine' DropE.tail ?_ ?_)); all_goals (first | ((with_reducible show @Ne _ _ _); k_ne) | k_all))); (case D2_z9 => ((repeat' ((with_reducible show DropE _ _ _ _); first | with_reducible refine' DropE.head ?_ | with_reducible refine' DropE.tail ?_ ?_)); all_goals (first | ((with_reducible show @Ne _ _ _); k_ne) | k_all))); (case D3_z9 => k_mem);  k_whole; intro h' tk' F' N'; (try simp only [List.nil_append, List.cons_append] at N'); (try k_sweep)) | (refine' m_lock_wait ?B_z9 ?F_z9 ?N_z9 ?T_z9 ?hk_z9 ?hdp_z9 ?hun_z9 ?x0_z9 ?x1_z9 ?x2_z9 ?D1_z9 ?D2_z9 ?D3_z9 ?iw_z9 ?lw_z9 ?hin_z9 ?_ ?X_z9; (case B_z9 => k_asm); (case F_z9 => k_asm); (case N_z9 => k_asm); (case T_z9 => k_asm); (case X_z9 => k_asm); (case hk_z9 => first | exact rfl | assumption); (case hdp_z9 => exact Nat.le_of_ble_eq_true rfl); (case hun_z9 => exact Nat.le_of_ble_eq_true rfl); (case x0_z9 => k_mem); (case x1_z9 => k_mem); (case x2_z9 => k_mem); (case D1_z9 => ((repeat' ((with_reducible show DropE _ _ _ _); first | with_reducible refine' DropE.head ?_ | with_reducible refine' DropE.tail ?_ ?_)); all_goals (first | ((with_reducible show @Ne _ _ _); k_ne) | k_all))); (case D2_z9 => ((repeat' ((with_reducible show DropE _ _ _ _); first | with_reducible refine' DropE.head ?_ | with_reducible refine' DropE.tail ?_ ?_)); all_goals (first | ((with_reducible show @Ne _ _ _); k_ne) | k_all))); (case D3_z9 => k_mem); (case iw_z9 => first | with_reducible assumption | exact IntsAre.nil | exact IntsAre.cons _ _ IntsAre.nil | exact IntsAre.cons _ _ (IntsAre.cons _ _ IntsAre.nil) | exact IntsAre.cons _ _ (IntsAre.cons _ _ (IntsAre.cons _ _ IntsAre.nil))); (case lw_z9 => first | omega | (simp only [List.length_nil, List.length_cons, List.length_append]; omega)); (case hin_z9 => first | with_reducible assumption | exact rfl | decide); k_whole; intro h' tk' F' N'; (try simp only [List.nil_append, List.cons_append] at N'); (try k_sweep)))
    | ((with_reducible show wpAny _ _ (compareOp CmpOp.NotEq (Value.ref _) (Value.ref _)) _ _ _); (refine' neI ?k1_z9 ?k2_z9 ?k3_z9 ?k4_z9 ?k5_z9 ?k6_z9 ?_; (case k1_z9 => (apply isl9 <;> first | with_reducible assumption | k_mem)); (case k2_z9 => (apply isl9 <;> first | with_reducible assumption | k_mem)); (case k3_z9 => first | with_reducible assumption | exact IntsAre.nil | exact IntsAre.cons _ _ IntsAre.nil | exact IntsAre.cons _ _ (by assumption)); (case k4_z9 => exact IntsAre.nil); (case k5_z9 => ke_room); (case k6_z9 => (first | exact congrArg not (decide_eq_true rfl) | (refine congrArg not (decide_eq_false ?_); (simp; done)))); k_whole))
    | ((with_reducible show wpAny _ _ (compareOp CmpOp.Eq (Value.ref _) (Value.ref _)) _ _ _); (refine' eqI ?k1_z9 ?k2_z9 ?k3_z9 ?k4_z9 ?k5_z9 ?k6_z9 ?_; (case k1_z9 => (apply isl9 <;> first | with_reducible assumption | k_mem)); (case k2_z9 => (apply isl9 <;> first | with_reducible assumption | k_mem)); (case k3_z9 => first | with_reducible assumption | exact IntsAre.nil | exact IntsAre.cons _ _ IntsAre.nil | exact IntsAre.cons _ _ (by assumption)); (case k4_z9 => exact IntsAre.nil); (case k5_z9 => ke_room); (case k6_z9 => (first | exact decide_eq_true rfl | (refine decide_eq_false ?_; (simp; done)))); k_whole))
    | ((with_reducible show wpAny _ _ (call (Value.builtin "list.append") _ _) _ _ _); (refine' appendW ?k1_z9 ?k2_z9 ?k3_z9 ?e_z9 ?z_z9 ?_; (case k1_z9 => k_asm); (case k2_z9 => k_asm); (case k3_z9 => k_upd); (case e_z9 => ((try simp only [List.nil_append, List.cons_append]); exact rfl)); (case z_z9 => first | omega | (simp only [List.length_nil, List.length_cons]; omega)); k_whole); intro h' F' N'; (try k_sweep))
    | ((k_here; (first | ((with_reducible show wpAny _ _ (callWith _ (Value.ref _) _ (backTo _ (starEach [] _)) []) _ _ _); k_dflt (refine' callWith_K0 ?k1_z9 ?k2_z9 ?_; (case k1_z9 => exact Frag.In.keeps (by with_reducible assumption) (Fr.keep (by with_reducible assumption))); (case k2_z9 => k_is); k_whole)) | ((with_reducible show wpAny _ _ (callWith _ (Value.ref _) _ (backTo _ (starEach (_ :: _) _)) []) _ _ _); k_dflt (refine' callWith_K ?k1_z9 ?k2_z9 ?_; (case k1_z9 => with_reducible assumption); (case k2_z9 => k_is); k_whole)))))
    | ((with_reducible show wpAny _ _ (subscriptTail (Expr.Name ..) (Expr.Slice ..) (Value.ref _) (Value.ref _)) _ _ _); (k_here; (k_dflt (first | (refine' tailC ?F_z9 ?N_z9 ?l_z9 ?z_z9 ?_ ?s_z9 ?t_z9; (case F_z9 => k_asm); (case N_z9 => k_asm); (case l_z9 => is_list); (case z_z9 => omega); (case s_z9 => with_unfolding_all rfl); (case t_z9 => intro _; with_unfolding_all rfl); k_whole) | (refine' tailN ?F_z9 ?N_z9 ?l_z9 ?_ ?s_z9 ?t_z9; (case F_z9 => k_asm); (case N_z9 => k_asm); (case l_z9 => is_list); (case s_z9 => with_unfolding_all rfl); (case t_z9 => intro _; with_unfolding_all rfl); k_whole)); intro D' h' F' N' l1; (try k_lt l1); (try k_sweep))))
    | ((with_reducible show wpAny _ _ (compareOp CmpOp.NotEq (Value.ref _) (Value.str _ _)) _ _ _); (k_here; k_dflt (refine ne_dataH (by ke_read) (by ke_read) (by ke_shaped) (by ke_shaped) (by ke_room) ?_); ke_norm))
    | ((with_reducible show wpAny _ _ (eval (Expr.Lambda ..) _) _ _ _); (k_here; k_dflt (refine' kla_eval ?d0_z9 ?_; (case d0_z9 => exact rfl)); (k_dflt (refine' lam_uni ?F_z9 ?N_z9 ?T_z9 ?C_z9 ?cd_z9 ?U_z9 ?t_z9 ?sub_z9 ?off_z9 ?has_z9 ?cl_z9 ?_; (case F_z9 => k_asm); (case N_z9 => k_asm); (case T_z9 => k_asm); (case cd_z9 => exact rfl); (case C_z9 => kn_code); (case U_z9 => k_updF); (case t_z9 => assumption); (case off_z9 => assumption); (case sub_z9 => ((rename SubC _ _ => hs1); intro q9 hq9; repeat (first | exact hs1 q9 hq9 | refine List.Mem.tail _ ?_))); (case has_z9 => (dsimp only [HasAll]; repeat' (first | exact trivial | (refine And.intro ⟨_, by k_mem⟩ ?_) | (refine HasAll.mono ?_ (by assumption); intro q9 hq9; repeat (first | exact hq9 | refine List.Mem.tail _ ?_))))); (case cl_z9 => exact rfl); k_whole); intro f' c' oc' vs' t' ct' h' tk' ps' ht' F' N' d1' d2' lo' l1 l2; (try dsimp only at N'); (have lo2' := lo'); (try dsimp only [OffAs] at lo2'); (try k_lt l1); (try k_lt2 l2))))
    | ((k_here; (with_reducible show wpAny _ _ (call (Value.ref 202) _) _ _ _); k_dflt (refine wpAny_call ?_; refine' code_cellsG ?k1_z9 ?k2_z9 ?k3_z9 ?k4_z9 ?k5_z9 ?XB_z9 ?TB_z9 ?D_z9 ?T0_z9 ?kA_z9 ?kF_z9 ?kK_z9 ?k6_z9 ?k7_z9 ?k8_z9 ?k9_z9 ?kB_z9 ?kD_z9 ?_ ?c2_z9 ?c3_z9 ?c4_z9; (case kA_z9 => exact rfl); (case kF_z9 => exact rfl); (case kK_z9 => first | assumption | exact rfl); (case k2_z9 => k_asm); (case k1_z9 => k_asm); (case XB_z9 => assumption); (case TB_z9 => assumption); (case D_z9 => assumption); (case T0_z9 => first | assumption | exact KtsTurn.refl); (case k3_z9 => k_asm); (case k4_z9 => k_asm); (case k5_z9 => k_asm); (case k6_z9 => k_is); (case k7_z9 => k_is); (case k8_z9 => ktr_room); (case k9_z9 => exact BindsTo.of_eq rfl); (case kB_z9 => exact rfl); (case kD_z9 => decide +kernel); (case c2_z9 => exact rfl); (case c3_z9 => exact rfl); (case c4_z9 => exact rfl); k_whole; intro g' L' h' tk' cells' FG' F' N' Y' B' X' T' D' l1; (try k_lt l1); k_cells Y'; (try simp only [List.cons_append, List.nil_append] at N'); (try dsimp only); (try k_lift B'); (try k_fold))))
    | ((with_reducible show wpAny _ _ (compareOp CmpOp.Eq (Value.ref _) (Value.ref _)) _ _ _); (k_here; k_dflt (refine' eqI ?k1_z9 ?k2_z9 ?k3_z9 ?k4_z9 ?k5_z9 ?k6_z9 ?_; (case k1_z9 => is_list); (case k2_z9 => is_list); (case k3_z9 => l_ints); (case k4_z9 => l_ints); (case k5_z9 => ke_room); (case k6_z9 => first | exact decide_eq_true rfl | (refine decide_eq_false ?_; (simp; done))))))
    | ((with_reducible show LeaveG _ _ _ _ _ _ _ _ _ _ _ _ _ _ _ _ _); ((k_dflt (refine' leaveG_ ?F_z9 ?N_z9 ?T_z9 ?_; (case F_z9 => k_asm); (case N_z9 => k_asm); (case T_z9 => first | assumption | exact KtsTurn.refl); k_whole)); intro kg kT kF kN kB kX₀ kP kD; (have kX := kFor kF kX₀); (try k_lift kB); kts_tail))
    | (k_end; kc_close)
    | walk1
    | (dsimp only; walk1)
    | (leave1; (try dsimp only))
    | fail "no step")
  all_goals (try simp only [beq_self_eq_true])
  all_goals (refine' hret _ _ _ ?to ?tq ?ps ?nw ?nq ?c ?oc (Gd.of B XB TB D (by assumption)) (by assumption) (OwnOff.cons (by assumption) hoff) ?F (news_sub ?N ?sub); (case F => assumption); (case N => assumption); (case sub => ((repeat (refine' List.forall_mem_cons.mpr ⟨?_, ?_⟩; k_mem)); intro p hp; repeat (first | exact hp | refine' List.Mem.tail _ ?_))))
set_option maxRecDepth 100000 in
set_option maxHeartbeats 8000000 in
theorem lock_twice {w : World} {p : Program} {loose : List Str} {mean : ExcName → Option Value} {mg mb : Str → Option Value} {gd : Option (List Code)} {cn : Str} {cs : Scope} {ca : Addr} {ccd : Value} {cl : List (Str × Addr)} {outer : List Env} {A₀ : Around} {base h₀ : Heap} {L : Addr} {m : Str → Option Value} {s : Shared} {Q E : Value → Shared → Prop} {news codes : List (Addr × Obj)} {more : List Addr} {ps : Array Value} {q x dx wl : Addr} {t1 t2 tk0 : Tok} {k : Int} {nw nq : Nat} {to tq : Tok} {k0 : Int} {qv wv : List Value} {wi : List Int}
    (B : Below A₀ base outer h₀) (F : Fr h₀ L s.heap m) (iq : IntsAre qv wi) (iw : IntsAre wv wi) (lq : qv.length ≤ 90) (lw : wv.length ≤ 90) (hin : (wi.any fun x => x == k) = true)
    (N : News h₀ L s.heap ((x, instObj 121 dx) :: (dx, lockD w t1 t2 (.int k0 to) (.ref wl)) :: (wl, listOf wv.toArray nw) :: (q, listOf (.int k0 tq :: qv).toArray nq) :: ((197 : Nat), tabObj ps) :: news)) (T : Top p loose mean mg mb h₀) (XB : (Mine.pre.heap_1_39 w.params).In base) (TB : Top p loose mean mg mb base) (D : KtsDicts (outer.filterMap (·.frame)) h₀) (hk : cs.kind = .function)
    (C1 : CodeHd base 201 197) (ht : TabOk lamQ ps codes) (hsub : SubC codes news) (hoff : OwnOff codes (x :: dx :: wl :: q :: (197 : Nat) :: more)) (hmore : HasAll news more)
    (ho : @LT.lt Nat _ (197 : Nat) dx ∧ @LT.lt Nat _ dx x ∧ @LT.lt Nat _ x wl ∧ @LT.lt Nat _ wl q) (hn : OwnOff news [x, dx, wl, q, (197 : Nat)])
    (hret : ∀ g' h' tk ps' nw' nq' c' oc, Gd (Mine.pre.heap_1_39 w.params) A₀ base outer p loose mean mg mb h₀ g' → TabOk lamQ ps' ((c', oc) :: codes) → OwnOff ((c', oc) :: codes) (x :: dx :: wl :: q :: (197 : Nat) :: more) → Fr g' L h' m → News g' L h' ((x, instObj 121 dx) :: (dx, lockD w t1 t2 (.int k0 to) (.ref wl)) :: (wl, listOf wv.toArray nw') :: (q, listOf (.int k0 tq :: qv).toArray nq') :: ((197 : Nat), tabObj ps') :: (c', oc) :: news) → Q (.bool true) { s with heap := h', toks := tk }) :
    (Mine.pre.heap_1_39 w.params).In h₀ → wpAny (model PySem.Challenge.rw_on0004_01.row.prog w) (ktrTop 303 10 gd cn cs L ca ccd cl outer) (call (.ref 202) [.ref x, .ref q, .int k tk0]) Q E s := by
  k_fill
  intro X
  repeat' (first
    | (k_unfold; (try dsimp only))
    | ((with_reducible show wpAny _ _ (execs (_ :: _) _) _ _ _); (refine nrmS (by with_reducible assumption) ?_); intro tk'; refine wpAny_execs_cons ?_)
    | ((with_reducible show wpAny _ _ (call (Value.ref 195) _) _ _ _); (refine' told_spec ?B_z9 ?F_z9 ?N_z9 ?T_z9 ?XB_z9 ?TB_z9 ?D_z9 ?hk_z9 ?hdp_z9 ?hun_z9 ?hcb_z9 ?_ ?X_z9; (case B_z9 => k_asm); (case F_z9 => k_asm); (case N_z9 => k_asm); (case T_z9 => k_asm); (case X_z9 => k_asm); (case XB_z9 => assumption); (case TB_z9 => assumption); (case D_z9 => assumption); (case hk_z9 => first | exact rfl | assumption); (case hdp_z9 => exact Nat.le_of_ble_eq_true rfl); (case hun_z9 => exact Nat.le_of_ble_eq_true rfl); (case hcb_z9 => (intro g9 L9 h9 N9 X9; first | (apply keeps_M2 N9 X9 <;> first | k_mem | k_is) | (apply keeps_F2 N9; k_mem))); intro cn9 ns9 ca9 ccd9 g' L' h' tk' m' l1 F' N' B' X' T' D'; (k_lt l1); (try k_lift B'); (try k_fold)))
    | ((with_reducible show ToldE _ _ _ _ _ _ _ _ _ _ _ _ _ _ _ _ _ _ _ _); (refine' ⟨_, _, _, _, _, _, _, _, rfl, rfl, ?FG_z9, ?U_z9, Or.inr ⟨_, _, ?gv_z9, RaisedG.keepF ?R_z9, ?aft_z9⟩⟩; (case R_z9 => assumption); (case U_z9 => assumption); (case FG_z9 => assumption); (case gv_z9 => first | k_get | exact rfl); (intro g' h' tk' u G' F' N'; obtain ⟨T', B', X', P', D'⟩ := G')))
    | ((with_reducible show wpAny _ _ (compareOp CmpOp.NotEq (Value.ref _) (Value.ref _)) _ _ _); (refine' neI ?k1_z9 ?k2_z9 ?k3_z9 ?k4_z9 ?k5_z9 ?k6_z9 ?_; (case k1_z9 => (apply isl9 <;> first | with_reducible assumption | k_mem)); (case k2_z9 => (apply isl9 <;> first | with_reducible assumption | k_mem)); (case k3_z9 => first | with_reducible assumption | exact IntsAre.nil | exact IntsAre.cons _ _ IntsAre.nil | exact IntsAre.cons _ _ (by assumption)); (case k4_z9 => exact IntsAre.nil); (case k5_z9 => ke_room); (case k6_z9 => (first | exact congrArg not (decide_eq_true rfl) | (refine congrArg not (decide_eq_false ?_); (simp; done)))); k_whole))
    | ((with_reducible show wpAny _ _ (compareOp CmpOp.Eq (Value.ref _) (Value.ref _)) _ _ _); (refine' eqI ?k1_z9 ?k2_z9 ?k3_z9 ?k4_z9 ?k5_z9 ?k6_z9 ?_; (case k1_z9 => (apply isl9 <;> first | with_reducible assumption | k_mem)); (case k2_z9 => (apply isl9 <;> first | with_reducible assumption | k_mem)); (case k3_z9 => first | with_reducible assumption | exact IntsAre.nil | exact IntsAre.cons _ _ IntsAre.nil | exact IntsAre.cons _ _ (by assumption)); (case k4_z9 => exact IntsAre.nil); (case k5_z9 => ke_room); (case k6_z9 => (first | exact decide_eq_true rfl | (refine decide_eq_false ?_; (simp; done)))); k_whole))
    | ((with_reducible show wpAny _ _ (compareOp CmpOp.In (Value.int _ _) (Value.ref _)) _ _ _); (refine' inI ?k1_z9 ?k2_z9 hin ?_; (case k1_z9 => (apply isl9 <;> first | with_reducible assumption | k_mem)); (case k2_z9 => assumption); k_whole))
    | ((k_here; (first | ((with_reducible show wpAny _ _ (callWith _ (Value.ref _) _ (backTo _ (starEach [] _)) []) _ _ _); k_dflt (refine' callWith_K0 ?k1_z9 ?k2_z9 ?_; (case k1_z9 => exact Frag.In.keeps (by with_reducible assumption) (Fr.keep (by with_reducible assumption))); (case k2_z9 => k_is); k_whole)) | ((with_reducible show wpAny _ _ (callWith _ (Value.ref _) _ (backTo _ (starEach (_ :: _) _)) []) _ _ _); k_dflt (refine' callWith_K ?k1_z9 ?k2_z9 ?_; (case k1_z9 => with_reducible assumption); (case k2_z9 => k_is); k_whole)))))
    | ((with_reducible show wpAny _ _ (subscriptTail (Expr.Name ..) (Expr.Slice ..) (Value.ref _) (Value.ref _)) _ _ _); (k_here; (k_dflt (first | (refine' tailC ?F_z9 ?N_z9 ?l_z9 ?z_z9 ?_ ?s_z9 ?t_z9; (case F_z9 => k_asm); (case N_z9 => k_asm); (case l_z9 => is_list); (case z_z9 => omega); (case s_z9 => with_unfolding_all rfl); (case t_z9 => intro _; with_unfolding_all rfl); k_whole) | (refine' tailN ?F_z9 ?N_z9 ?l_z9 ?_ ?s_z9 ?t_z9; (case F_z9 => k_asm); (case N_z9 => k_asm); (case l_z9 => is_list); (case s_z9 => with_unfolding_all rfl); (case t_z9 => intro _; with_unfolding_all rfl); k_whole)); intro D' h' F' N' l1; (try k_lt l1); (try k_sweep))))
    | ((with_reducible show wpAny _ _ (compareOp CmpOp.NotEq (Value.ref _) (Value.str _ _)) _ _ _); (k_here; k_dflt (refine ne_dataH (by ke_read) (by ke_read) (by ke_shaped) (by ke_shaped) (by ke_room) ?_); ke_norm))
    | ((with_reducible show wpAny _ _ (eval (Expr.Lambda ..) _) _ _ _); (k_here; k_dflt (refine' kla_eval ?d0_z9 ?_; (case d0_z9 => exact rfl)); (k_dflt (refine' lam_uni ?F_z9 ?N_z9 ?T_z9 ?C_z9 ?cd_z9 ?U_z9 ?t_z9 ?sub_z9 ?off_z9 ?has_z9 ?cl_z9 ?_; (case F_z9 => k_asm); (case N_z9 => k_asm); (case T_z9 => k_asm); (case cd_z9 => exact rfl); (case C_z9 => kn_code); (case U_z9 => k_updF); (case t_z9 => assumption); (case off_z9 => assumption); (case sub_z9 => ((rename SubC _ _ => hs1); intro q9 hq9; repeat (first | exact hs1 q9 hq9 | refine List.Mem.tail _ ?_))); (case has_z9 => (dsimp only [HasAll]; repeat' (first | exact trivial | (refine And.intro ⟨_, by k_mem⟩ ?_) | (refine HasAll.mono ?_ (by assumption); intro q9 hq9; repeat (first | exact hq9 | refine List.Mem.tail _ ?_))))); (case cl_z9 => exact rfl); k_whole); intro f' c' oc' vs' t' ct' h' tk' ps' ht' F' N' d1' d2' lo' l1 l2; (try dsimp only at N'); (have lo2' := lo'); (try dsimp only [OffAs] at lo2'); (try k_lt l1); (try k_lt2 l2))))
    | ((k_here; (with_reducible show wpAny _ _ (call (Value.ref 202) _) _ _ _); k_dflt (refine wpAny_call ?_; refine' code_cellsG ?k1_z9 ?k2_z9 ?k3_z9 ?k4_z9 ?k5_z9 ?XB_z9 ?TB_z9 ?D_z9 ?T0_z9 ?kA_z9 ?kF_z9 ?kK_z9 ?k6_z9 ?k7_z9 ?k8_z9 ?k9_z9 ?kB_z9 ?kD_z9 ?_ ?c2_z9 ?c3_z9 ?c4_z9; (case kA_z9 => exact rfl); (case kF_z9 => exact rfl); (case kK_z9 => first | assumption | exact rfl); (case k2_z9 => k_asm); (case k1_z9 => k_asm); (case XB_z9 => assumption); (case TB_z9 => assumption); (case D_z9 => assumption); (case T0_z9 => first | assumption | exact KtsTurn.refl); (case k3_z9 => k_asm); (case k4_z9 => k_asm); (case k5_z9 => k_asm); (case k6_z9 => k_is); (case k7_z9 => k_is); (case k8_z9 => ktr_room); (case k9_z9 => exact BindsTo.of_eq rfl); (case kB_z9 => exact rfl); (case kD_z9 => decide +kernel); (case c2_z9 => exact rfl); (case c3_z9 => exact rfl); (case c4_z9 => exact rfl); k_whole; intro g' L' h' tk' cells' FG' F' N' Y' B' X' T' D' l1; (try k_lt l1); k_cells Y'; (try simp only [List.cons_append, List.nil_append] at N'); (try dsimp only); (try k_lift B'); (try k_fold))))
    | ((with_reducible show wpAny _ _ (compareOp CmpOp.Eq (Value.ref _) (Value.ref _)) _ _ _); (k_here; k_dflt (refine' eqI ?k1_z9 ?k2_z9 ?k3_z9 ?k4_z9 ?k5_z9 ?k6_z9 ?_; (case k1_z9 => is_list); (case k2_z9 => is_list); (case k3_z9 => l_ints); (case k4_z9 => l_ints); (case k5_z9 => ke_room); (case k6_z9 => first | exact decide_eq_true rfl | (refine decide_eq_false ?_; (simp; done))))))
    | ((with_reducible show wpAny _ _ (leaving _ (Value.ref _)) _ _ _); (k_here; first | (refine' leave_firstG ?k1_z9 ?k2_z9 ?k3_z9 ?k4_z9 ?_ ?kf_z9 ?kk_z9; (case kf_z9 => exact rfl); (case kk_z9 => exact rfl); (case k1_z9 => k_asm); (case k2_z9 => k_asm); (case k3_z9 => k_asm); (case k4_z9 => (repeat' (first | with_reducible refine' DropE.head ?_ | refine' DropE.tail ?_ ?_)) <;> (first | k_ne | k_all)); k_whole; intro h' R' U'; (try dsimp only at R' U' ⊢)) | (refine' leave_onG ?k1_z9 ?k2_z9 ?k3_z9 ?k4_z9 ?_ ?kf_z9; (case kf_z9 => exact rfl); (case k3_z9 => assumption); (case k1_z9 => assumption); (case k4_z9 => assumption); (case k2_z9 => assumption); k_whole; intro h' R' U'; (try dsimp only at R' U' ⊢))))
    | ((with_reducible show RaisD _ _ _ _); (k_dflt (refine' RaisD.intro ?kX_z9 ?kN_z9 ?kM_z9 ?kC_z9 ?kB_z9 ?_; (case kX_z9 => k_in); (case kN_z9 => k_asm); (case kM_z9 => k_mem); (case kC_z9 => k_is); (case kB_z9 => rfl); k_whole)))
    | ((with_reducible show wpAny _ _ (exec (Stmt.Raise (some _) none _) _) _ _ _); (k_here; (k_dflt (refine' raise_exc (K := Mine.pre.heap_1_39 _) ?k1_z9 ?k2_z9 ?_; (case k1_z9 => k_in); (case k2_z9 => first | rfl | assumption)))))
    | ((with_reducible show wpAny _ _ (call (Value.builtin "Exception.__init__") _ _) _ _ _); (k_here; k_dflt (refine' exc_init ?k1_z9 ?k2_z9 ?k3_z9 ?k4_z9 ?k5_z9 ?k6_z9 ?k7_z9 ?_; (case k1_z9 => k_asm); (case k2_z9 => k_asm); (case k3_z9 => k_asm); (case k4_z9 => k_updF); (case k5_z9 => k_is); (case k6_z9 => rfl); (case k7_z9 => size_fits); k_whole); intro t' h' F' N' l1; (try dsimp only at N'); (try k_lt l1); (try k_sweep)))
    | ((with_reducible show wpAny _ _ (getMethod (Value.type "Exception") _ _) _ _ _); (k_here; k_dflt (refine' method_type ?k1_z9 ?k2_z9 ?k3_z9 ?k4_z9 ?k5_z9 ?k6_z9 ?_; (case k1_z9 => k_asm); (case k2_z9 => k_asm); (case k3_z9 => kernel_rfl); (case k4_z9 => decide +kernel); (case k5_z9 => k_is); (case k6_z9 => k_handed); k_whole)))
    | ((with_reducible show wpAny _ _ (setAttr (Value.ref _) _ _) _ _ _); (k_here; k_dflt (first | (refine' set_exc0 (pre := [_, .ref 32]) ?k1_z9 ?k2_z9 ?k3_z9 ?k4_z9 ?k5_z9 ?k6_z9 ?k7_z9 ?k8_z9 ?k9_z9 ?k10_z9 ?_; (case k1_z9 => k_asm); (case k2_z9 => k_asm); (case k3_z9 => k_asm); (case k4_z9 => k_updF); (case k5_z9 => k_is); (case k6_z9 => k_is); (case k7_z9 => rfl); (case k8_z9 => rfl); (case k9_z9 => k_is); (case k10_z9 => rfl); k_whole; intro d' h' F' N' l1; (try dsimp only at N'); (try k_lt l1); (try k_sweep)) | (refine' set_excN (pre := [_, .ref 32]) ?k1_z9 ?k2_z9 ?k3_z9 ?k4_z9 ?k4d_z9 ?k5_z9 ?k6_z9 ?k7_z9 ?k8_z9 ?k9_z9 ?k10_z9 ?k11_z9 ?k12_z9 ?k13_z9 ?k14_z9 ?_; (case k1_z9 => k_asm); (case k2_z9 => k_asm); (case k3_z9 => k_asm); (case k4_z9 => k_mem); (case k4d_z9 => k_mem); (case k6_z9 => k_is); (case k7_z9 => k_is); (case k8_z9 => rfl); (case k9_z9 => rfl); (case k10_z9 => k_is); (case k11_z9 => rfl); (case k12_z9 => k_get); (case k13_z9 => k_put); (case k5_z9 => k_upd); (case k14_z9 => exact Nat.le_of_ble_eq_true rfl); k_whole; intro h' F' N'; (try k_sweep)))))
    | ((k_here; (first | (with_reducible show wpAny _ _ (call (Value.ref 71) _) _ _ _) | (with_reducible show wpAny _ _ (call (Value.ref 52) _) _ _ _)); k_dflt (refine' exc_call ?k1_z9 ?k2_z9 ?k3_z9 ?k4_z9 ?k5_z9 ?k6_z9 PySem.F.excBase_Exception ?k7_z9 ?k8_z9 ?k9_z9 ?k10_z9 ?_; (case k1_z9 => k_asm); (case k2_z9 => k_asm); (case k3_z9 => k_asm); (case k4_z9 => k_is); (case k5_z9 => k_is); (case k6_z9 => k_is); (case k7_z9 => rfl); (case k8_z9 => rfl); (case k9_z9 => rfl); (case k10_z9 => size_fits); k_whole); intro t' e' h' F' N' l1 l2; (try k_lt l1); (try k_lt l2); (try k_sweep)))
    | ((with_reducible show LeaveG _ _ _ _ _ _ _ _ _ _ _ _ _ _ _ _ _); ((k_dflt (refine' leaveG_ ?F_z9 ?N_z9 ?T_z9 ?_; (case F_z9 => k_asm); (case N_z9 => k_asm); (case T_z9 => first | assumption | exact KtsTurn.refl); k_whole)); intro kg kT kF kN kB kX₀ kP kD; (have kX := kFor kF kX₀); (try k_lift kB); kts_tail))
    | (k_end; kc_close)
    | walk1
    | (dsimp only; walk1)
    | (leave1; (try dsimp only))
    | fail "no step")
  all_goals (try simp only [beq_self_eq_true])
  all_goals (refine' hret _ _ _ ?ps ?nw ?nq ?c ?oc (Gd.of B XB TB D (by assumption)) (by assumption) (OwnOff.cons (by assumption) hoff) ?F (news_sub ?N ?sub); (case F => assumption); (case N => assumption); (case sub => ((repeat (refine' List.forall_mem_cons.mpr ⟨?_, ?_⟩; k_mem)); intro p hp; repeat (first | exact hp | refine' List.Mem.tail _ ?_))))
set_option maxRecDepth 100000 in
set_option maxHeartbeats 8000000 in
theorem lock_wait {w : World} {p : Program} {loose : List Str} {mean : ExcName → Option Value} {mg mb : Str → Option Value} {gd : Option (List Code)} {cn : Str} {cs : Scope} {ca : Addr} {ccd : Value} {cl : List (Str × Addr)} {outer : List Env} {A₀ : Around} {base h₀ : Heap} {L : Addr} {m : Str → Option Value} {s : Shared} {Q E : Value → Shared → Prop} {news codes : List (Addr × Obj)} {more : List Addr} {ps : Array Value} {q x dx wl : Addr} {t1 t2 tk0 : Tok} {k : Int} {nw nq : Nat} {to tq : Tok} {k0 : Int} {qv wv : List Value} {wi : List Int}
    (B : Below A₀ base outer h₀) (F : Fr h₀ L s.heap m) (iq : IntsAre qv wi) (iw : IntsAre wv wi) (lq : qv.length ≤ 90) (lw : wv.length ≤ 90) (hin : (wi.any fun x => x == k) = false)
    (N : News h₀ L s.heap ((x, instObj 121 dx) :: (dx, lockD w t1 t2 (.int k0 to) (.ref wl)) :: (wl, listOf wv.toArray nw) :: (q, listOf (.int k0 tq :: qv).toArray nq) :: ((197 : Nat), tabObj ps) :: news)) (T : Top p loose mean mg mb h₀) (XB : (Mine.pre.heap_1_39 w.params).In base) (TB : Top p loose mean mg mb base) (D : KtsDicts (outer.filterMap (·.frame)) h₀) (hk : cs.kind = .function)
    (C1 : CodeHd base 201 197) (ht : TabOk lamQ ps codes) (hsub : SubC codes news) (hoff : OwnOff codes (x :: dx :: wl :: q :: (197 : Nat) :: more)) (hmore : HasAll news more)
    (ho : @LT.lt Nat _ (197 : Nat) dx ∧ @LT.lt Nat _ dx x ∧ @LT.lt Nat _ x wl ∧ @LT.lt Nat _ wl q) (hn : OwnOff news [x, dx, wl, q, (197 : Nat)])
    (hret : ∀ g' h' tk ta tb ps' nw' nq' c' oc, Gd (Mine.pre.heap_1_39 w.params) A₀ base outer p loose mean mg mb h₀ g' → TabOk lamQ ps' ((c', oc) :: codes) → OwnOff ((c', oc) :: codes) (x :: dx :: wl :: q :: (197 : Nat) :: more) → Fr g' L h' m → News g' L h' ((x, instObj 121 dx) :: (dx, lockD w t1 t2 (.int k0 to) (.ref wl)) :: (wl, listOf (wv ++ [Value.int k ta]).toArray nw') :: (q, listOf (.int k0 tq :: (qv ++ [Value.int k tb])).toArray nq') :: ((197 : Nat), tabObj ps') :: (c', oc) :: news) → Q (.bool true) { s with heap := h', toks := tk }) :
    (Mine.pre.heap_1_39 w.params).In h₀ → wpAny (model PySem.Challenge.rw_on0004_01.row.prog w) (ktrTop 303 10 gd cn cs L ca ccd cl outer) (call (.ref 202) [.ref x, .ref q, .int k tk0]) Q E s := by
  k_fill
  intro X
  repeat' (first
    | (k_unfold; (try dsimp only))
    | ((with_reducible show wpAny _ _ (execs (_ :: _) _) _ _ _); (refine nrmS (by with_reducible assumption) ?_); intro tk'; refine wpAny_execs_cons ?_)
    | ((with_reducible show wpAny _ _ (call (Value.ref 195) _) _ _ _); (refine' told_spec ?B_z9 ?F_z9 ?N_z9 ?T_z9 ?XB_z9 ?TB_z9 ?D_z9 ?hk_z9 ?hdp_z9 ?hun_z9 ?hcb_z9 ?_ ?X_z9; (case B_z9 => k_asm); (case F_z9 => k_asm); (case N_z9 => k_asm); (case T_z9 => k_asm); (case X_z9 => k_asm); (case XB_z9 => assumption); (case TB_z9 => assumption); (case D_z9 => assumption); (case hk_z9 => first | exact rfl | assumption); (case hdp_z9 => exact Nat.le_of_ble_eq_true rfl); (case hun_z9 => exact Nat.le_of_ble_eq_true rfl); (case hcb_z9 => (intro g9 L9 h9 N9 X9; first | (apply keeps_M2 N9 X9 <;> first | k_mem | k_is) | (apply keeps_F2 N9; k_mem))); intro cn9 ns9 ca9 ccd9 g' L' h' tk' m' l1 F' N' B' X' T' D'; (k_lt l1); (try k_lift B'); (try k_fold)))
    | ((with_reducible show wpAny _ _ (call (Value.ref 111) _) _ _ _); first | (refine' m_lock_free ?B_z9 ?F_z9 ?N_z9 ?T_z9 ?hk_z9 ?hdp_z9 ?hun_z9 ?x0_z9 ?x1_z9 ?x2_z9 ?D1_z9 ?D2_z9 ?D3_z9  ?_ ?X_z9; (case B_z9 => k_asm); (case F_z9 => k_asm); (case N_z9 => k_asm); (case T_z9 => k_asm); (case X_z9 => k_asm); (case hk_z9 => first | exact rfl | assumption); (case hdp_z9 => exact Nat.le_of_ble_eq_true rfl); (case hun_z9 => exact Nat.le_of_ble_eq_true rfl); (case x0_z9 => k_mem); (case x1_z9 => k_mem); (case x2_z9 => k_mem); (case D1_z9 => ((repeat' ((with_reducible show DropE _ _ _ _); first | with_reducible refine' DropE.head ?_ | with_reducible refine' DropE.tail ?_ ?_)); all_goals (first | ((with_reducible show @Ne _ _ _); k_ne) | k_all))); (case D2_z9 => ((repeat' ((with_reducible show DropE _ _ _ _); first | with_reducible refine' DropE.head ?_ | with_reducible refine' DropE.tail ?_ ?_)); all_goals (first | ((with_reducible show @Ne _ _ _); k_ne) | k_all))); (case D3_z9 => k_mem);  k_whole; intro h' tk' F' N'; (try simp only [List.nil_append, List.cons_append] at N'); (try k_sweep)) | (refine' m_lock_wait ?B_z9 ?F_z9 ?N_z9 ?T_z9 ?hk_z9 ?hdp_z9 ?hun_z9 ?x0_z9 ?x1_z9 ?x2_z9 ?D1_z9 ?D2_z9 ?D3_z9 ?iw_z9 ?lw_z9 ?hin_z9 ?_ ?X_z9; (case B_z9 => k_asm); (case F_z9 => k_asm); (case N_z9 => k_asm); (case T_z9 => k_asm); (case X_z9 => k_asm); (case hk_z9 => first | exact rfl | assumption); (case hdp_z9 => exact Nat.le_of_ble_eq_true rfl); (case hun_z9 => exact Nat.le_of_ble_eq_true rfl); (case x0_z9 => k_mem); (case x1_z9 => k_mem); (case x2_z9 => k_mem); (case D1_z9 => ((repeat' ((with_reducible show DropE _ _ _ _); first | with_reducible refine' DropE.head ?_ | with_reducible refine' DropE.tail ?_ ?_)); all_goals (first | ((with_reducible show @Ne _ _ _); k_ne) | k_all))); (case D2_z9 => ((repeat' ((with_reducible show DropE _ _ _ _); first | with_reducible refine' DropE.head ?_ | with_reducible refine' DropE.tail ?_ ?_)); all_goals (first | ((with_reducible show @Ne _ _ _); k_ne) | k_all))); (case D3_z9 => k_mem); (case iw_z9 => first | with_reducible assumption | exact IntsAre.nil | exact IntsAre.cons _ _ IntsAre.nil | exact IntsAre.cons _ _ (IntsAre.cons _ _ IntsAre.nil) | exact IntsAre.cons _ _ (IntsAre.cons _ _ (IntsAre.cons _ _ IntsAre.nil))); (case lw_z9 => first | omega | (simp only [List.length_nil, List.length_cons, List.length_append]; omega)); (case hin_z9 => first | with_reducible assumption | exact rfl | decide); k_whole; intro h' tk' F' N'; (try simp only [List.nil_append, List.cons_append] at N'); (try k_sweep)))
    | ((with_reducible show wpAny _ _ (compareOp CmpOp.NotEq (Value.ref _) (Value.ref _)) _ _ _); (refine' neI ?k1_z9 ?k2_z9 ?k3_z9 ?k4_z9 ?k5_z9 ?k6_z9 ?_; (case k1_z9 => (apply isl9 <;> first | with_reducible assumption | k_mem)); (case k2_z9 => (apply isl9 <;> first | with_reducible assumption | k_mem)); (case k3_z9 => first | with_reducible assumption | exact IntsAre.nil | exact IntsAre.cons _ _ IntsAre.nil | exact IntsAre.cons _ _ (by assumption)); (case k4_z9 => exact IntsAre.nil); (case k5_z9 => ke_room); (case k6_z9 => (first | exact congrArg not (decide_eq_true rfl) | (refine congrArg not (decide_eq_false ?_); (simp; done)))); k_whole))
    | ((with_reducible show wpAny _ _ (compareOp CmpOp.Eq (Value.ref _) (Value.ref _)) _ _ _); (refine' eqI ?k1_z9 ?k2_z9 ?k3_z9 ?k4_z9 ?k5_z9 ?k6_z9 ?_; (case k1_z9 => (apply isl9 <;> first | with_reducible assumption | k_mem)); (case k2_z9 => (apply isl9 <;> first | with_reducible assumption | k_mem)); (case k3_z9 => first | with_reducible assumption | exact IntsAre.nil | exact IntsAre.cons _ _ IntsAre.nil | exact IntsAre.cons _ _ (by assumption)); (case k4_z9 => exact IntsAre.nil); (case k5_z9 => ke_room); (case k6_z9 => (first | exact decide_eq_true rfl | (refine decide_eq_false ?_; (simp; done)))); k_whole))
    | ((with_reducible show wpAny _ _ (compareOp CmpOp.In (Value.int _ _) (Value.ref _)) _ _ _); (refine' inI ?k1_z9 ?k2_z9 hin ?_; (case k1_z9 => (apply isl9 <;> first | with_reducible assumption | k_mem)); (case k2_z9 => assumption); k_whole))
    | ((with_reducible show wpAny _ _ (call (Value.builtin "list.append") _ _) _ _ _); (refine' appendW ?k1_z9 ?k2_z9 ?k3_z9 ?e_z9 ?z_z9 ?_; (case k1_z9 => k_asm); (case k2_z9 => k_asm); (case k3_z9 => k_upd); (case e_z9 => ((try simp only [List.nil_append, List.cons_append]); exact rfl)); (case z_z9 => first | omega | (simp only [List.length_nil, List.length_cons]; omega)); k_whole); intro h' F' N'; (try k_sweep))
    | ((k_here; (first | ((with_reducible show wpAny _ _ (callWith _ (Value.ref _) _ (backTo _ (starEach [] _)) []) _ _ _); k_dflt (refine' callWith_K0 ?k1_z9 ?k2_z9 ?_; (case k1_z9 => exact Frag.In.keeps (by with_reducible assumption) (Fr.keep (by with_reducible assumption))); (case k2_z9 => k_is); k_whole)) | ((with_reducible show wpAny _ _ (callWith _ (Value.ref _) _ (backTo _ (starEach (_ :: _) _)) []) _ _ _); k_dflt (refine' callWith_K ?k1_z9 ?k2_z9 ?_; (case k1_z9 => with_reducible assumption); (case k2_z9 => k_is); k_whole)))))
    | ((with_reducible show wpAny _ _ (subscriptTail (Expr.Name ..) (Expr.Slice ..) (Value.ref _) (Value.ref _)) _ _ _); (k_here; (k_dflt (first | (refine' tailC ?F_z9 ?N_z9 ?l_z9 ?z_z9 ?_ ?s_z9 ?t_z9; (case F_z9 => k_asm); (case N_z9 => k_asm); (case l_z9 => is_list); (case z_z9 => omega); (case s_z9 => with_unfolding_all rfl); (case t_z9 => intro _; with_unfolding_all rfl); k_whole) | (refine' tailN ?F_z9 ?N_z9 ?l_z9 ?_ ?s_z9 ?t_z9; (case F_z9 => k_asm); (case N_z9 => k_asm); (case l_z9 => is_list); (case s_z9 => with_unfolding_all rfl); (case t_z9 => intro _; with_unfolding_all rfl); k_whole)); intro D' h' F' N' l1; (try k_lt l1); (try k_sweep))))
    | ((with_reducible show wpAny _ _ (compareOp CmpOp.NotEq (Value.ref _) (Value.str _ _)) _ _ _); (k_here; k_dflt (refine ne_dataH (by ke_read) (by ke_read) (by ke_shaped) (by ke_shaped) (by ke_room) ?_); ke_norm))
    | ((with_reducible show wpAny _ _ (eval (Expr.Lambda ..) _) _ _ _); (k_here; k_dflt (refine' kla_eval ?d0_z9 ?_; (case d0_z9 => exact rfl)); (k_dflt (refine' lam_uni ?F_z9 ?N_z9 ?T_z9 ?C_z9 ?cd_z9 ?U_z9 ?t_z9 ?sub_z9 ?off_z9 ?has_z9 ?cl_z9 ?_; (case F_z9 => k_asm); (case N_z9 => k_asm); (case T_z9 => k_asm); (case cd_z9 => exact rfl); (case C_z9 => kn_code); (case U_z9 => k_updF); (case t_z9 => assumption); (case off_z9 => assumption); (case sub_z9 => ((rename SubC _ _ => hs1); intro q9 hq9; repeat (first | exact hs1 q9 hq9 | refine List.Mem.tail _ ?_))); (case has_z9 => (dsimp only [HasAll]; repeat' (first | exact trivial | (refine And.intro ⟨_, by k_mem⟩ ?_) | (refine HasAll.mono ?_ (by assumption); intro q9 hq9; repeat (first | exact hq9 | refine List.Mem.tail _ ?_))))); (case cl_z9 => exact rfl); k_whole); intro f' c' oc' vs' t' ct' h' tk' ps' ht' F' N' d1' d2' lo' l1 l2; (try dsimp only at N'); (have lo2' := lo'); (try dsimp only [OffAs] at lo2'); (try k_lt l1); (try k_lt2 l2))))
    | ((k_here; (with_reducible show wpAny _ _ (call (Value.ref 202) _) _ _ _); k_dflt (refine wpAny_call ?_; refine' code_cellsG ?k1_z9 ?k2_z9 ?k3_z9 ?k4_z9 ?k5_z9 ?XB_z9 ?TB_z9 ?D_z9 ?T0_z9 ?kA_z9 ?kF_z9 ?kK_z9 ?k6_z9 ?k7_z9 ?k8_z9 ?k9_z9 ?kB_z9 ?kD_z9 ?_ ?c2_z9 ?c3_z9 ?c4_z9; (case kA_z9 => exact rfl); (case kF_z9 => exact rfl); (case kK_z9 => first | assumption | exact rfl); (case k2_z9 => k_asm); (case k1_z9 => k_asm); (case XB_z9 => assumption); (case TB_z9 => assumption); (case D_z9 => assumption); (case T0_z9 => first | assumption | exact KtsTurn.refl); (case k3_z9 => k_asm); (case k4_z9 => k_asm); (case k5_z9 => k_asm); (case k6_z9 => k_is); (case k7_z9 => k_is); (case k8_z9 => ktr_room); (case k9_z9 => exact BindsTo.of_eq rfl); (case kB_z9 => exact rfl); (case kD_z9 => decide +kernel); (case c2_z9 => exact rfl); (case c3_z9 => exact rfl); (case c4_z9 => exact rfl); k_whole; intro g' L' h' tk' cells' FG' F' N' Y' B' X' T' D' l1; (try k_lt l1); k_cells Y'; (try simp only [List.cons_append, List.nil_append] at N'); (try dsimp only); (try k_lift B'); (try k_fold))))
    | ((with_reducible show wpAny _ _ (compareOp CmpOp.Eq (Value.ref _) (Value.ref _)) _ _ _); (k_here; k_dflt (refine' eqI ?k1_z9 ?k2_z9 ?k3_z9 ?k4_z9 ?k5_z9 ?k6_z9 ?_; (case k1_z9 => is_list); (case k2_z9 => is_list); (case k3_z9 => l_ints); (case k4_z9 => l_ints); (case k5_z9 => ke_room); (case k6_z9 => first | exact decide_eq_true rfl | (refine decide_eq_false ?_; (simp; done))))))
    | ((with_reducible show LeaveG _ _ _ _ _ _ _ _ _ _ _ _ _ _ _ _ _); ((k_dflt (refine' leaveG_ ?F_z9 ?N_z9 ?T_z9 ?_; (case F_z9 => k_asm); (case N_z9 => k_asm); (case T_z9 => first | assumption | exact KtsTurn.refl); k_whole)); intro kg kT kF kN kB kX₀ kP kD; (have kX := kFor kF kX₀); (try k_lift kB); kts_tail))
    | (k_end; kc_close)
    | walk1
    | (dsimp only; walk1)
    | (leave1; (try dsimp only))
    | fail "no step")
  all_goals (try simp only [beq_self_eq_true])
  all_goals (refine' hret _ _ _ ?ta ?tb ?ps ?nw ?nq ?c ?oc (Gd.of B XB TB D (by assumption)) (by assumption) (OwnOff.cons (by assumption) hoff) ?F (news_sub ?N ?sub); (case F => assumption); (case N => assumption); (case sub => ((repeat (refine' List.forall_mem_cons.mpr ⟨?_, ?_⟩; k_mem)); intro p hp; repeat (first | exact hp | refine' List.Mem.tail _ ?_))))
set_option maxRecDepth 100000 in
set_option maxHeartbeats 8000000 in
theorem lock_held {w : World} {p : Program} {loose : List Str} {mean : ExcName → Option Value} {mg mb : Str → Option Value} {news codes : List (Addr × Obj)} {more : List Addr} {ps : Array Value} {q x dx wl : Addr} {t1 t2 tk0 to tq : Tok} {k k0 : Int} {qv wv : List Value} {wi : List Int} {nw nq : Nat}
    {gd : Option (List Code)} {cn : Str} {cs : Scope} {ca : Addr} {ccd : Value} {cl : List (Str × Addr)} {outer : List Env} {A₀ : Around} {base h₀ : Heap} {L : Addr} {m : Str → Option Value} {s : Shared} {Q E : Value → Shared → Prop}
    (B : Below A₀ base outer h₀) (F : Fr h₀ L s.heap m) (X : (Mine.pre.heap_1_39 w.params).In h₀) (iq : IntsAre qv wi) (iw : IntsAre wv wi) (lq : qv.length ≤ 90) (lw : wv.length ≤ 90)
    (N : News h₀ L s.heap ((x, instObj 121 dx) :: (dx, lockD w t1 t2 (.int k0 to) (.ref wl)) :: (wl, listOf wv.toArray nw) :: (q, listOf (.int k0 tq :: qv).toArray nq) :: ((197 : Nat), tabObj ps) :: news)) (T : Top p loose mean mg mb h₀) (XB : (Mine.pre.heap_1_39 w.params).In base) (TB : Top p loose mean mg mb base) (D : KtsDicts (outer.filterMap (·.frame)) h₀) (hk : cs.kind = .function)
    (C1 : CodeHd base 201 197) (ht : TabOk lamQ ps codes) (hsub : SubC codes news) (hoff : OwnOff codes (x :: dx :: wl :: q :: (197 : Nat) :: more)) (hmore : HasAll news more)
    (ho : @LT.lt Nat _ (197 : Nat) dx ∧ @LT.lt Nat _ dx x ∧ @LT.lt Nat _ x wl ∧ @LT.lt Nat _ wl q) (hn : OwnOff news [x, dx, wl, q, (197 : Nat)])
    (hret : ∀ g' h' tk qv' wv' wi' ps' nw' nq' c' oc, Gd (Mine.pre.heap_1_39 w.params) A₀ base outer p loose mean mg mb h₀ g' → IntsAre qv' wi' → IntsAre wv' wi' → wi'.length ≤ wi.length + 1 → TabOk lamQ ps' ((c', oc) :: codes) → OwnOff ((c', oc) :: codes) (x :: dx :: wl :: q :: (197 : Nat) :: more) → Fr g' L h' m → News g' L h' ((x, instObj 121 dx) :: (dx, lockD w t1 t2 (.int k0 to) (.ref wl)) :: (wl, listOf wv'.toArray nw') :: (q, listOf (.int k0 tq :: qv').toArray nq') :: ((197 : Nat), tabObj ps') :: (c', oc) :: news) → Q (.bool true) { s with heap := h', toks := tk }) :
    wpAny (model PySem.Challenge.rw_on0004_01.row.prog w) (ktrTop 303 10 gd cn cs L ca ccd cl outer) (call (.ref 202) [.ref x, .ref q, .int k tk0]) Q E s := by
  cases hin : (wi.any fun x => x == k) with
  | true => exact lock_twice B F iq iw lq lw hin N T XB TB D hk C1 ht hsub hoff hmore ho hn (fun g' h' tk ps' nw' nq' c' oc T' a b F' N' => hret g' h' tk qv wv wi ps' nw' nq' c' oc T' iq iw (Nat.le_succ _) a b F' N') X
  | false => exact lock_wait B F iq iw lq lw hin N T XB TB D hk C1 ht hsub hoff hmore ho hn (fun g' h' tk ta tb ps' nw' nq' c' oc T' a b F' N' => hret g' h' tk _ _ (wi ++ [k]) ps' nw' nq' c' oc T' (iq.append (.cons k tb .nil)) (iw.append (.cons k ta .nil)) (by simp) a b F' N') X
set_option maxRecDepth 100000 in
set_option maxHeartbeats 8000000 in
theorem lock_new {w : World} {p : Program} {loose : List Str} {mean : ExcName → Option Value} {mg mb : Str → Option Value} {news codes : List (Addr × Obj)} {more : List Addr} {ps : Array Value} {q x dx wl : Addr} {t1 t2 tk0 : Tok} {k : Int} {nw nq : Nat}
    {gd : Option (List Code)} {cn : Str} {cs : Scope} {ca : Addr} {ccd : Value} {cl : List (Str × Addr)} {outer : List Env} {A₀ : Around} {base h₀ : Heap} {L : Addr} {m : Str → Option Value} {s : Shared} {Q E : Value → Shared → Prop}
    (B : Below A₀ base outer h₀) (F : Fr h₀ L s.heap m) (X : (Mine.pre.heap_1_39 w.params).In h₀)
    (N : News h₀ L s.heap ((x, instObj 121 dx) :: (dx, lockD w t1 t2 .none (.ref wl)) :: (wl, listOf #[] nw) :: (q, listOf #[] nq) :: ((197 : Nat), tabObj ps) :: news)) (T : Top p loose mean mg mb h₀) (XB : (Mine.pre.heap_1_39 w.params).In base) (TB : Top p loose mean mg mb base) (D : KtsDicts (outer.filterMap (·.frame)) h₀) (hk : cs.kind = .function)
    (C1 : CodeHd base 201 197) (ht : TabOk lamQ ps codes) (hsub : SubC codes news) (hoff : OwnOff codes (x :: dx :: wl :: q :: (197 : Nat) :: more)) (hmore : HasAll news more)
    (ho : @LT.lt Nat _ (197 : Nat) dx ∧ @LT.lt Nat _ dx x ∧ @LT.lt Nat _ x wl ∧ @LT.lt Nat _ wl q) (hn : OwnOff news [x, dx, wl, q, (197 : Nat)])
    (hret : ∀ g' h' tk to tq ps' nw' nq' c' oc, Gd (Mine.pre.heap_1_39 w.params) A₀ base outer p loose mean mg mb h₀ g' → TabOk lamQ ps' ((c', oc) :: codes) → OwnOff ((c', oc) :: codes) (x :: dx :: wl :: q :: (197 : Nat) :: more) → Fr g' L h' m → News g' L h' ((x, instObj 121 dx) :: (dx, lockD w t1 t2 (.int k to) (.ref wl)) :: (wl, listOf #[] nw') :: (q, listOf #[.int k tq] nq') :: ((197 : Nat), tabObj ps') :: (c', oc) :: news) → Q (.bool true) { s with heap := h', toks := tk }) :
    wpAny (model PySem.Challenge.rw_on0004_01.row.prog w) (ktrTop 303 10 gd cn cs L ca ccd cl outer) (call (.ref 202) [.ref x, .ref q, .int k tk0]) Q E s :=
  lock_free B F N T XB TB D hk C1 ht hsub hoff hmore ho hn (fun g' h' tk to tq ps' nw' nq' c' oc T' a b F' N' => hret g' h' tk to tq ps' nw' nq' c' oc T' a b F' N') X
set_option maxRecDepth 100000 in
set_option maxHeartbeats 8000000 in
theorem unlock_new {w : World} {p : Program} {loose : List Str} {mean : ExcName → Option Value} {mg mb : Str → Option Value} {news : List (Addr × Obj)} {q x dx wl : Addr} {t1 t2 : Tok} {nw nq : Nat}
    {gd : Option (List Code)} {cn : Str} {cs : Scope} {ca : Addr} {ccd : Value} {cl : List (Str × Addr)} {outer : List Env} {A₀ : Around} {base h₀ : Heap} {L : Addr} {m : Str → Option Value} {s : Shared} {Q E : Value → Shared → Prop}
    (B : Below A₀ base outer h₀) (F : Fr h₀ L s.heap m) (X : (Mine.pre.heap_1_39 w.params).In h₀)
    (N : News h₀ L s.heap ((x, instObj 121 dx) :: (dx, lockD w t1 t2 .none (.ref wl)) :: (wl, listOf #[] nw) :: (q, listOf #[] nq) :: news)) (T : Top p loose mean mg mb h₀) (XB : (Mine.pre.heap_1_39 w.params).In base) (TB : Top p loose mean mg mb base) (D : KtsDicts (outer.filterMap (·.frame)) h₀) (hk : cs.kind = .function)
    (ho : @LT.lt Nat _ dx x ∧ @LT.lt Nat _ x wl ∧ @LT.lt Nat _ wl q) (hn : OwnOff news [x, dx, wl, q])
    (hret : ∀ g' h' tk nw' nq', Gd (Mine.pre.heap_1_39 w.params) A₀ base outer p loose mean mg mb h₀ g' → Fr g' L h' m → News g' L h' ((x, instObj 121 dx) :: (dx, lockD w t1 t2 .none (.ref wl)) :: (wl, listOf #[] nw') :: (q, listOf #[] nq') :: news) → Q (.bool true) { s with heap := h', toks := tk }) :
    wpAny (model PySem.Challenge.rw_on0004_01.row.prog w) (ktrTop 303 10 gd cn cs L ca ccd cl outer) (call (.ref 209) [.ref x, .ref q]) Q E s :=
  unlock_free B F N T XB TB D hk ho hn (fun g' h' tk nw' nq' T' F' N' => hret g' h' tk nw' nq' T' F' N') X
set_option maxRecDepth 100000 in
set_option maxHeartbeats 8000000 in
theorem unlock_held {w : World} {p : Program} {loose : List Str} {mean : ExcName → Option Value} {mg mb : Str → Option Value} {news : List (Addr × Obj)} {q x dx wl : Addr} {t1 t2 to tq : Tok} {k0 : Int} {qv wv : List Value} {wi : List Int} {nw nq : Nat}
    {gd : Option (List Code)} {cn : Str} {cs : Scope} {ca : Addr} {ccd : Value} {cl : List (Str × Addr)} {outer : List Env} {A₀ : Around} {base h₀ : Heap} {L : Addr} {m : Str → Option Value} {s : Shared} {Q E : Value → Shared → Prop}
    (B : Below A₀ base outer h₀) (F : Fr h₀ L s.heap m) (X : (Mine.pre.heap_1_39 w.params).In h₀) (iq : IntsAre qv wi) (iw : IntsAre wv wi) (lq : qv.length ≤ 90) (lw : wv.length ≤ 90)
    (N : News h₀ L s.heap ((x, instObj 121 dx) :: (dx, lockD w t1 t2 (.int k0 to) (.ref wl)) :: (wl, listOf wv.toArray nw) :: (q, listOf (.int k0 tq :: qv).toArray nq) :: news)) (T : Top p loose mean mg mb h₀) (XB : (Mine.pre.heap_1_39 w.params).In base) (TB : Top p loose mean mg mb base) (D : KtsDicts (outer.filterMap (·.frame)) h₀) (hk : cs.kind = .function)
    (ho : @LT.lt Nat _ dx x ∧ @LT.lt Nat _ x wl ∧ @LT.lt Nat _ wl q) (hn : OwnOff news [x, dx, wl, q])
    (hretA : ∀ g' h' tk nw' nq', Gd (Mine.pre.heap_1_39 w.params) A₀ base outer p loose mean mg mb h₀ g' → Fr g' L h' m → News g' L h' ((x, instObj 121 dx) :: (dx, lockD w t1 t2 .none (.ref wl)) :: (wl, listOf #[] nw') :: (q, listOf #[] nq') :: news) → Q (.bool true) { s with heap := h', toks := tk })
    (hretB : ∀ g' h' tk k2 to' tq' qv' wv' wi' nw' nq', Gd (Mine.pre.heap_1_39 w.params) A₀ base outer p loose mean mg mb h₀ g' → IntsAre qv' wi' → IntsAre wv' wi' → wi'.length ≤ wi.length → Fr g' L h' m → News g' L h' ((x, instObj 121 dx) :: (dx, lockD w t1 t2 (.int k2 to') (.ref wl)) :: (wl, listOf wv'.toArray nw') :: (q, listOf (.int k2 tq' :: qv').toArray nq') :: news) → Q (.bool true) { s with heap := h', toks := tk }) :
    wpAny (model PySem.Challenge.rw_on0004_01.row.prog w) (ktrTop 303 10 gd cn cs L ca ccd cl outer) (call (.ref 209) [.ref x, .ref q]) Q E s := by
  cases wi with
  | nil =>
    cases iq
    cases iw
    exact unlock_one B F N T XB TB D hk ho hn (fun g' h' tk nw' nq' T' F' N' => hretA g' h' tk nw' nq' T' F' N') X
  | cons k2 wi =>
    obtain ⟨tq2, qv, rfl, iq'⟩ := iq.cons_inv
    obtain ⟨tw, wv, rfl, iw'⟩ := iw.cons_inv
    simp only [List.length_cons] at lq lw
    exact unlock_more B F iq' iw' (by omega) (by omega) N T XB TB D hk ho hn (fun g' h' tk to' nw' nq' T' F' N' => hretB g' h' tk k2 to' tq2 qv wv wi nw' nq' T' iq' iw' (by simp) F' N') X
set_option maxRecDepth 100000 in
set_option maxHeartbeats 8000000 in
theorem lock_right_spec {w : World} {p : Program} {loose : List Str} {mean : ExcName → Option Value} {mg mb : Str → Option Value} {src : Addr} {a b : Int} {ta tb : Tok} {n : Nat}
    {gd : Option (List Code)} {cn : Str} {cs : Scope} {ca : Addr} {ccd : Value} {cl : List (Str × Addr)} {outer : List Env} {A₀ : Around} {base h₀ : Heap} {L : Addr} {m : Str → Option Value} {s : Shared} {Q E : Value → Shared → Prop}
    (B : Below A₀ base outer h₀) (F : Fr h₀ L s.heap m)
    (N : News h₀ L s.heap [(src, listOf #[.int a ta, .int b tb] n), ((218 : Nat), tabObj #[]), ((197 : Nat), tabObj #[])]) (T : Top p loose mean mg mb h₀) (XB : (Mine.pre.heap_1_39 w.params).In base) (TB : Top p loose mean mg mb base) (D : KtsDicts (outer.filterMap (·.frame)) h₀) (hk : cs.kind = .function)
    (C1 : CodeHd base 201 197) (l1 : @LT.lt Nat _ (218 : Nat) src ∧ @LT.lt Nat _ (197 : Nat) src) (hb : 0 ≤ b) (hb2 : b < 2147483648)
    (hret : ∀ g' h' tk a' ta' b' tb' ps, KtsTurn (outer.filterMap (·.frame)) h₀ g' → 0 ≤ b' → b' < 2147483648 → Fr g' L h' m → News g' L h' [(src, listOf #[.int a' ta', .int b' tb'] n), ((218 : Nat), tabObj #[]), ((197 : Nat), tabObj ps)] → Q (.bool true) { s with heap := h', toks := tk }) :
    (Mine.pre.heap_1_39 w.params).In h₀ → wpAny (model PySem.Challenge.rw_on0004_01.row.prog w) (ktrTop 302 7 gd cn cs L ca ccd cl outer) (call (.ref 216) [.ref src]) Q E s := by
  k_fill
  intro X
  repeat' (first
    | (k_unfold; (try dsimp only))
    | ((with_reducible show wpAny _ _ (execs (_ :: _) _) _ _ _); (refine nrmS (by with_reducible assumption) ?_); intro tk'; refine wpAny_execs_cons ?_)
    | ((with_reducible show wpAny _ _ (subscriptTail (Expr.Name ..) (Expr.Slice ..) (Value.ref _) (Value.ref _)) _ _ _); (k_here; (k_dflt (first | (refine' tailC ?F_z9 ?N_z9 ?l_z9 ?z_z9 ?_ ?s_z9 ?t_z9; (case F_z9 => k_asm); (case N_z9 => k_asm); (case l_z9 => is_list); (case z_z9 => omega); (case s_z9 => with_unfolding_all rfl); (case t_z9 => intro _; with_unfolding_all rfl); k_whole) | (refine' tailN ?F_z9 ?N_z9 ?l_z9 ?_ ?s_z9 ?t_z9; (case F_z9 => k_asm); (case N_z9 => k_asm); (case l_z9 => is_list); (case s_z9 => with_unfolding_all rfl); (case t_z9 => intro _; with_unfolding_all rfl); k_whole)); intro D' h' F' N' l1; (try k_lt l1); (try k_sweep))))
    | ((k_here; (with_reducible show wpAny _ _ (call (Value.ref 209) _) _ _ _); k_dflt (first | (refine' unlock_new ?B_z9 ?F_z9 ?X_z9 ?N_z9 ?T_z9 ?XB_z9 ?TB_z9 ?D_z9 ?hk_z9 ?ho_z9 ?hn_z9 ?_; (case B_z9 => k_asm); (case F_z9 => k_asm); (case X_z9 => k_asm); (case N_z9 => k_asm); (case T_z9 => k_asm); (case XB_z9 => assumption); (case TB_z9 => assumption); (case D_z9 => assumption); (case hk_z9 => exact rfl); (case ho_z9 => exact ⟨by omega, by omega, by omega⟩); (case hn_z9 => ((repeat refine OwnOff.cons ⟨by k_ne, by k_ne, by k_ne, by k_ne, trivial⟩ ?_); (apply own_less9 <;> first | assumption | (simp; done)))); k_whole; intro g' h' tk' nw' nq' hG' F' N'; obtain ⟨T', B', X', P', D'⟩ := hG'; (try (have hz1' := IntsAre.length iq')); (try (have hz2' := IntsAre.length iw')); (try k_sweep)) | (refine' unlock_held ?B_z9 ?F_z9 ?X_z9 ?iq_z9 ?iw_z9 ?lq_z9 ?lw_z9 ?N_z9 ?T_z9 ?XB_z9 ?TB_z9 ?D_z9 ?hk_z9 ?ho_z9 ?hn_z9 ?rA_z9 ?rB_z9; (case B_z9 => k_asm); (case F_z9 => k_asm); (case X_z9 => k_asm); (case N_z9 => k_asm); (case T_z9 => k_asm); (case XB_z9 => assumption); (case TB_z9 => assumption); (case D_z9 => assumption); (case hk_z9 => exact rfl); (case iq_z9 => assumption); (case iw_z9 => assumption); (case lq_z9 => omega); (case lw_z9 => omega); (case ho_z9 => exact ⟨by omega, by omega, by omega⟩); (case hn_z9 => ((repeat refine OwnOff.cons ⟨by k_ne, by k_ne, by k_ne, by k_ne, trivial⟩ ?_); (apply own_less9 <;> first | assumption | (simp; done)))); k_whole; (case' rB_z9 => (intro g' h' tk' k2' to' tq' qv' wv' wi' nw' nq' hG' iq' iw' hl' F' N'; obtain ⟨T', B', X', P', D'⟩ := hG'; (try (have hz1' := IntsAre.length iq')); (try (have hz2' := IntsAre.length iw')); (try k_sweep))); (case' rA_z9 => (intro g' h' tk' nw' nq' hG' F' N'; obtain ⟨T', B', X', P', D'⟩ := hG'; (try (have hz1' := IntsAre.length iq')); (try (have hz2' := IntsAre.length iw')); (try k_sweep)))))))
    | ((k_here; (with_reducible show wpAny _ _ (call (Value.ref 202) _) _ _ _); k_dflt (first | (refine' lock_new ?B_z9 ?F_z9 ?X_z9 ?N_z9 ?T_z9 ?XB_z9 ?TB_z9 ?D_z9 ?hk_z9 ?C1_z9 ?ht_z9 ?hsub_z9 ?hoff_z9 ?hmore_z9 ?ho_z9 ?hn_z9 ?_; (case B_z9 => k_asm); (case F_z9 => k_asm); (case X_z9 => k_asm); (case N_z9 => k_asm); (case T_z9 => k_asm); (case XB_z9 => assumption); (case TB_z9 => assumption); (case D_z9 => assumption); (case hk_z9 => exact rfl); (case C1_z9 => assumption); (case ht_z9 => assumption); (case hoff_z9 => assumption); (case hsub_z9 => (intro q9 hq9; repeat (first | exact hq9 | refine List.Mem.tail _ ?_))); (case hmore_z9 => (refine ⟨⟨_, by k_mem⟩, ⟨_, by k_mem⟩, ⟨_, by k_mem⟩, trivial⟩)); (case ho_z9 => exact ⟨by omega, by omega, by omega, by omega⟩); (case hn_z9 => ((repeat refine OwnOff.cons ⟨by k_ne, by k_ne, by k_ne, by k_ne, by k_ne, trivial⟩ ?_); (apply own_less9 <;> first | assumption | (simp; done)))); k_whole; intro g' h' tk' to' tq' ps' nw' nq' c' oc' hG' ht' hoff' F' N'; obtain ⟨T', B', X', P', D'⟩ := hG'; (try (have hz1' := IntsAre.length iq')); (try (have hz2' := IntsAre.length iw')); (try k_sweep)) | (refine' lock_held ?B_z9 ?F_z9 ?X_z9 ?iq_z9 ?iw_z9 ?lq_z9 ?lw_z9 ?N_z9 ?T_z9 ?XB_z9 ?TB_z9 ?D_z9 ?hk_z9 ?C1_z9 ?ht_z9 ?hsub_z9 ?hoff_z9 ?hmore_z9 ?ho_z9 ?hn_z9 ?_; (case B_z9 => k_asm); (case F_z9 => k_asm); (case X_z9 => k_asm); (case N_z9 => k_asm); (case T_z9 => k_asm); (case XB_z9 => assumption); (case TB_z9 => assumption); (case D_z9 => assumption); (case hk_z9 => exact rfl); (case iq_z9 => assumption); (case iw_z9 => assumption); (case lq_z9 => omega); (case lw_z9 => omega); (case C1_z9 => assumption); (case ht_z9 => assumption); (case hoff_z9 => assumption); (case hsub_z9 => (intro q9 hq9; repeat (first | exact hq9 | refine List.Mem.tail _ ?_))); (case hmore_z9 => (refine ⟨⟨_, by k_mem⟩, ⟨_, by k_mem⟩, ⟨_, by k_mem⟩, trivial⟩)); (case ho_z9 => exact ⟨by omega, by omega, by omega, by omega⟩); (case hn_z9 => ((repeat refine OwnOff.cons ⟨by k_ne, by k_ne, by k_ne, by k_ne, by k_ne, trivial⟩ ?_); (apply own_less9 <;> first | assumption | (simp; done)))); k_whole; intro g' h' tk' qv' wv' wi' ps' nw' nq' c' oc' hG' iq' iw' hl' ht' hoff' F' N'; obtain ⟨T', B', X', P', D'⟩ := hG'; (try (have hz1' := IntsAre.length iq')); (try (have hz2' := IntsAre.length iw')); (try k_sweep)))))
    | ((k_here; (with_reducible show wpAny _ _ (subscriptTail _ _ (Value.ref _) (Value.int 0 _)) _ _ _); k_dflt (refine' item_listL ?l_z9 ?a_z9 ?b_z9 ?x_z9 ?_ ?s_z9 ?g_z9; (case l_z9 => is_list); (case a_z9 => decide); (case b_z9 => decide); (case x_z9 => exact rfl); (case s_z9 => with_unfolding_all rfl); (case g_z9 => intro _; with_unfolding_all rfl); k_whole)))
    | ((with_reducible show wpAny _ _ (compareOp CmpOp.NotEq (Value.int _ _) (Value.int _ _)) _ _ _); (k_here; with_reducible refine neSame ?_))
    | ((k_here; (with_reducible show wpAny _ _ (call (Value.ref 181) _) _ _ _); k_dflt (refine' take_at ?k1_z9 ?k2_z9 ?k3_z9 ?k4_z9 ?k5_z9 ?k6_z9 ?k7_z9 ?k8_z9 ?k9_z9 ?k10_z9 ?k11_z9 ?k12_z9 ?k13_z9 ?_; (case k1_z9 => k_asm); (case k2_z9 => k_asm); (case k3_z9 => k_asm); (case k4_z9 => k_asm); (case k5_z9 => k_updF); (case k6_z9 => k_asm); (case k7_z9 => first | exact rfl | assumption); (case k8_z9 => decide); (case k9_z9 => decide); (case k10_z9 => assumption); (case k11_z9 => assumption); (case k12_z9 => exact Nat.le_of_ble_eq_true rfl); (case k13_z9 => exact Nat.le_of_ble_eq_true rfl); k_whole); intro r' t' a' ta' b' tb' h' tk' hr0' hr1' hb0' hb1' F' N'; (try dsimp only at N'); (try k_sweep)))
    | ((with_reducible show wpAny _ _ (exec (Stmt.For ..) _) _ _ _); (k_here; (with_unfolding_all refine' For_G ?k1_z9 ?k2_z9 ?_; (case k1_z9 => exact rfl); (case k2_z9 => exact rfl); k_whole)))
    | ((k_here; (first | (with_reducible show wpAny _ _ (call (Value.ref 216) _) _ _ _) | (with_reducible show wpAny _ _ (call (Value.ref 223) _) _ _ _)); k_dflt (refine wpAny_call ?_; refine' code_plainG ?k1_z9 ?k2_z9 ?k3_z9 ?k4_z9 ?k5_z9 ?XB_z9 ?TB_z9 ?D_z9 ?T0_z9 ?kA_z9 ?kF_z9 ?kK_z9 ?k6_z9 ?k7_z9 ?k8_z9 ?k9_z9 ?kB_z9 ?_ ?c2_z9 ?c3_z9 ?c4_z9 ?c5_z9; (case kA_z9 => exact rfl); (case kF_z9 => exact rfl); (case kK_z9 => first | assumption | exact rfl); (case k2_z9 => k_asm); (case k1_z9 => k_asm); (case XB_z9 => assumption); (case TB_z9 => assumption); (case D_z9 => assumption); (case T0_z9 => first | assumption | exact KtsTurn.refl); (case k3_z9 => k_asm); (case k4_z9 => k_asm); (case k5_z9 => k_asm); (case k6_z9 => k_is); (case k7_z9 => k_is); (case k8_z9 => ktr_room); (case k9_z9 => exact BindsTo.of_eq rfl); (case kB_z9 => exact locs rfl); (case c2_z9 => exact rfl); (case c3_z9 => exact rfl); (case c4_z9 => exact rfl); (case c5_z9 => decide); k_whole; intro g' L' h' FG' F' N' B' X' T' D' l1; (try k_lt l1); (try dsimp only); (try k_lift B'); (try k_fold))))
    | ((with_reducible show wpAny _ _ (compareOp CmpOp.NotEq (Value.ref _) (Value.ref _)) _ _ _); (k_here; k_dflt (refine' neI ?k1_z9 ?k2_z9 ?k3_z9 ?k4_z9 ?k5_z9 ?k6_z9 ?_; (case k1_z9 => is_list); (case k2_z9 => is_list); (case k3_z9 => l_ints); (case k4_z9 => l_ints); (case k5_z9 => ke_room); (case k6_z9 => first | exact congrArg not (decide_eq_true rfl) | (refine congrArg not (decide_eq_false ?_); (simp; done))))))
    | ((with_reducible show wpAny _ _ (compareOp CmpOp.Eq (Value.ref _) (Value.ref _)) _ _ _); (k_here; k_dflt (refine' eqI ?k1_z9 ?k2_z9 ?k3_z9 ?k4_z9 ?k5_z9 ?k6_z9 ?_; (case k1_z9 => is_list); (case k2_z9 => is_list); (case k3_z9 => l_ints); (case k4_z9 => l_ints); (case k5_z9 => ke_room); (case k6_z9 => first | exact decide_eq_true rfl | (refine decide_eq_false ?_; (simp; done))))))
    | ((with_reducible show LeaveG _ _ _ _ _ _ _ _ _ _ _ _ _ _ _ _ _); ((k_dflt (refine' leaveG_ ?F_z9 ?N_z9 ?T_z9 ?_; (case F_z9 => k_asm); (case N_z9 => k_asm); (case T_z9 => first | assumption | exact KtsTurn.refl); k_whole)); intro kg kT kF kN kB kX₀ kP kD; (have kX := kFor kF kX₀); (try k_lift kB); kts_tail))
    | (k_end; kc_close)
    | walk1
    | (dsimp only; walk1)
    | (leave1; (try dsimp only))
    | fail "no step")
  rename IsRange _ _ _ _ _ _ _ _ => hr1
  rename Fr _ _ _ _ => F1
  rename News _ _ _ _ => N1
  refine lock_loop rfl (by assumption : Below _ base (envX cn cs L ca ccd cl :: outer) _) XB TB (by assumption : KtsDicts ((envX cn cs L ca ccd cl :: outer).filterMap _) _) hr1 (by assumption) (by assumption) F1 N1 (by assumption) (by assumption) ?turnA ?turnB ?turnC
  case turnA =>
    clear hret
    intro i t g h tk I oi fv tv nw nq a ta b tb ps codes hG ht hoff hI hb hb2 F N
    obtain ⟨hT, hB, hX, hP, hD⟩ := hG
    have hI2 := hI
    dsimp only [OffAs] at hI2
    try dsimp only at F
    repeat' (first
      | (k_unfold; (try dsimp only))
      | ((with_reducible show wpAny _ _ (execs (_ :: _) _) _ _ _); (refine nrmS (by with_reducible assumption) ?_); intro tk'; refine wpAny_execs_cons ?_)
      | ((with_reducible show wpAny _ _ (subscriptTail (Expr.Name ..) (Expr.Slice ..) (Value.ref _) (Value.ref _)) _ _ _); (k_here; (k_dflt (first | (refine' tailC ?F_z9 ?N_z9 ?l_z9 ?z_z9 ?_ ?s_z9 ?t_z9; (case F_z9 => k_asm); (case N_z9 => k_asm); (case l_z9 => is_list); (case z_z9 => omega); (case s_z9 => with_unfolding_all rfl); (case t_z9 => intro _; with_unfolding_all rfl); k_whole) | (refine' tailN ?F_z9 ?N_z9 ?l_z9 ?_ ?s_z9 ?t_z9; (case F_z9 => k_asm); (case N_z9 => k_asm); (case l_z9 => is_list); (case s_z9 => with_unfolding_all rfl); (case t_z9 => intro _; with_unfolding_all rfl); k_whole)); intro D' h' F' N' l1; (try k_lt l1); (try k_sweep))))
      | ((k_here; (with_reducible show wpAny _ _ (call (Value.ref 209) _) _ _ _); k_dflt (first | (refine' unlock_new ?B_z9 ?F_z9 ?X_z9 ?N_z9 ?T_z9 ?XB_z9 ?TB_z9 ?D_z9 ?hk_z9 ?ho_z9 ?hn_z9 ?_; (case B_z9 => k_asm); (case F_z9 => k_asm); (case X_z9 => k_asm); (case N_z9 => k_asm); (case T_z9 => k_asm); (case XB_z9 => assumption); (case TB_z9 => assumption); (case D_z9 => assumption); (case hk_z9 => exact rfl); (case ho_z9 => exact ⟨by omega, by omega, by omega⟩); (case hn_z9 => ((repeat refine OwnOff.cons ⟨by k_ne, by k_ne, by k_ne, by k_ne, trivial⟩ ?_); (apply own_less9 <;> first | assumption | (simp; done)))); k_whole; intro g' h' tk' nw' nq' hG' F' N'; obtain ⟨T', B', X', P', D'⟩ := hG'; (try (have hz1' := IntsAre.length iq')); (try (have hz2' := IntsAre.length iw')); (try k_sweep)) | (refine' unlock_held ?B_z9 ?F_z9 ?X_z9 ?iq_z9 ?iw_z9 ?lq_z9 ?lw_z9 ?N_z9 ?T_z9 ?XB_z9 ?TB_z9 ?D_z9 ?hk_z9 ?ho_z9 ?hn_z9 ?rA_z9 ?rB_z9; (case B_z9 => k_asm); (case F_z9 => k_asm); (case X_z9 => k_asm); (case N_z9 => k_asm); (case T_z9 => k_asm); (case XB_z9 => assumption); (case TB_z9 => assumption); (case D_z9 => assumption); (case hk_z9 => exact rfl); (case iq_z9 => assumption); (case iw_z9 => assumption); (case lq_z9 => omega); (case lw_z9 => omega); (case ho_z9 => exact ⟨by omega, by omega, by omega⟩); (case hn_z9 => ((repeat refine OwnOff.cons ⟨by k_ne, by k_ne, by k_ne, by k_ne, trivial⟩ ?_); (apply own_less9 <;> first | assumption | (simp; done)))); k_whole; (case' rB_z9 => (intro g' h' tk' k2' to' tq' qv' wv' wi' nw' nq' hG' iq' iw' hl' F' N'; obtain ⟨T', B', X', P', D'⟩ := hG'; (try (have hz1' := IntsAre.length iq')); (try (have hz2' := IntsAre.length iw')); (try k_sweep))); (case' rA_z9 => (intro g' h' tk' nw' nq' hG' F' N'; obtain ⟨T', B', X', P', D'⟩ := hG'; (try (have hz1' := IntsAre.length iq')); (try (have hz2' := IntsAre.length iw')); (try k_sweep)))))))
      | ((k_here; (with_reducible show wpAny _ _ (call (Value.ref 202) _) _ _ _); k_dflt (first | (refine' lock_new ?B_z9 ?F_z9 ?X_z9 ?N_z9 ?T_z9 ?XB_z9 ?TB_z9 ?D_z9 ?hk_z9 ?C1_z9 ?ht_z9 ?hsub_z9 ?hoff_z9 ?hmore_z9 ?ho_z9 ?hn_z9 ?_; (case B_z9 => k_asm); (case F_z9 => k_asm); (case X_z9 => k_asm); (case N_z9 => k_asm); (case T_z9 => k_asm); (case XB_z9 => assumption); (case TB_z9 => assumption); (case D_z9 => assumption); (case hk_z9 => exact rfl); (case C1_z9 => assumption); (case ht_z9 => assumption); (case hoff_z9 => assumption); (case hsub_z9 => (intro q9 hq9; repeat (first | exact hq9 | refine List.Mem.tail _ ?_))); (case hmore_z9 => (refine ⟨⟨_, by k_mem⟩, ⟨_, by k_mem⟩, ⟨_, by k_mem⟩, trivial⟩)); (case ho_z9 => exact ⟨by omega, by omega, by omega, by omega⟩); (case hn_z9 => ((repeat refine OwnOff.cons ⟨by k_ne, by k_ne, by k_ne, by k_ne, by k_ne, trivial⟩ ?_); (apply own_less9 <;> first | assumption | (simp; done)))); k_whole; intro g' h' tk' to' tq' ps' nw' nq' c' oc' hG' ht' hoff' F' N'; obtain ⟨T', B', X', P', D'⟩ := hG'; (try (have hz1' := IntsAre.length iq')); (try (have hz2' := IntsAre.length iw')); (try k_sweep)) | (refine' lock_held ?B_z9 ?F_z9 ?X_z9 ?iq_z9 ?iw_z9 ?lq_z9 ?lw_z9 ?N_z9 ?T_z9 ?XB_z9 ?TB_z9 ?D_z9 ?hk_z9 ?C1_z9 ?ht_z9 ?hsub_z9 ?hoff_z9 ?hmore_z9 ?ho_z9 ?hn_z9 ?_; (case B_z9 => k_asm); (case F_z9 => k_asm); (case X_z9 => k_asm); (case N_z9 => k_asm); (case T_z9 => k_asm); (case XB_z9 => assumption); (case TB_z9 => assumption); (case D_z9 => assumption); (case hk_z9 => exact rfl); (case iq_z9 => assumption); (case iw_z9 => assumption); (case lq_z9 => omega); (case lw_z9 => omega); (case C1_z9 => assumption); (case ht_z9 => assumption); (case hoff_z9 => assumption); (case hsub_z9 => (intro q9 hq9; repeat (first | exact hq9 | refine List.Mem.tail _ ?_))); (case hmore_z9 => (refine ⟨⟨_, by k_mem⟩, ⟨_, by k_mem⟩, ⟨_, by k_mem⟩, trivial⟩)); (case ho_z9 => exact ⟨by omega, by omega, by omega, by omega⟩); (case hn_z9 => ((repeat refine OwnOff.cons ⟨by k_ne, by k_ne, by k_ne, by k_ne, by k_ne, trivial⟩ ?_); (apply own_less9 <;> first | assumption | (simp; done)))); k_whole; intro g' h' tk' qv' wv' wi' ps' nw' nq' c' oc' hG' iq' iw' hl' ht' hoff' F' N'; obtain ⟨T', B', X', P', D'⟩ := hG'; (try (have hz1' := IntsAre.length iq')); (try (have hz2' := IntsAre.length iw')); (try k_sweep)))))
      | ((k_here; (with_reducible show wpAny _ _ (subscriptTail _ _ (Value.ref _) (Value.int 0 _)) _ _ _); k_dflt (refine' item_listL ?l_z9 ?a_z9 ?b_z9 ?x_z9 ?_ ?s_z9 ?g_z9; (case l_z9 => is_list); (case a_z9 => decide); (case b_z9 => decide); (case x_z9 => exact rfl); (case s_z9 => with_unfolding_all rfl); (case g_z9 => intro _; with_unfolding_all rfl); k_whole)))
      | ((with_reducible show wpAny _ _ (compareOp CmpOp.NotEq (Value.int _ _) (Value.int _ _)) _ _ _); (k_here; with_reducible refine neSame ?_))
      | ((k_here; (with_reducible show wpAny _ _ (call (Value.ref 181) _) _ _ _); k_dflt (refine' take_at ?k1_z9 ?k2_z9 ?k3_z9 ?k4_z9 ?k5_z9 ?k6_z9 ?k7_z9 ?k8_z9 ?k9_z9 ?k10_z9 ?k11_z9 ?k12_z9 ?k13_z9 ?_; (case k1_z9 => k_asm); (case k2_z9 => k_asm); (case k3_z9 => k_asm); (case k4_z9 => k_asm); (case k5_z9 => k_updF); (case k6_z9 => k_asm); (case k7_z9 => first | exact rfl | assumption); (case k8_z9 => decide); (case k9_z9 => decide); (case k10_z9 => assumption); (case k11_z9 => assumption); (case k12_z9 => exact Nat.le_of_ble_eq_true rfl); (case k13_z9 => exact Nat.le_of_ble_eq_true rfl); k_whole); intro r' t' a' ta' b' tb' h' tk' hr0' hr1' hb0' hb1' F' N'; (try dsimp only at N'); (try k_sweep)))
      | ((with_reducible show wpAny _ _ (exec (Stmt.For ..) _) _ _ _); (k_here; (with_unfolding_all refine' For_G ?k1_z9 ?k2_z9 ?_; (case k1_z9 => exact rfl); (case k2_z9 => exact rfl); k_whole)))
      | ((k_here; (first | (with_reducible show wpAny _ _ (call (Value.ref 216) _) _ _ _) | (with_reducible show wpAny _ _ (call (Value.ref 223) _) _ _ _)); k_dflt (refine wpAny_call ?_; refine' code_plainG ?k1_z9 ?k2_z9 ?k3_z9 ?k4_z9 ?k5_z9 ?XB_z9 ?TB_z9 ?D_z9 ?T0_z9 ?kA_z9 ?kF_z9 ?kK_z9 ?k6_z9 ?k7_z9 ?k8_z9 ?k9_z9 ?kB_z9 ?_ ?c2_z9 ?c3_z9 ?c4_z9 ?c5_z9; (case kA_z9 => exact rfl); (case kF_z9 => exact rfl); (case kK_z9 => first | assumption | exact rfl); (case k2_z9 => k_asm); (case k1_z9 => k_asm); (case XB_z9 => assumption); (case TB_z9 => assumption); (case D_z9 => assumption); (case T0_z9 => first | assumption | exact KtsTurn.refl); (case k3_z9 => k_asm); (case k4_z9 => k_asm); (case k5_z9 => k_asm); (case k6_z9 => k_is); (case k7_z9 => k_is); (case k8_z9 => ktr_room); (case k9_z9 => exact BindsTo.of_eq rfl); (case kB_z9 => exact locs rfl); (case c2_z9 => exact rfl); (case c3_z9 => exact rfl); (case c4_z9 => exact rfl); (case c5_z9 => decide); k_whole; intro g' L' h' FG' F' N' B' X' T' D' l1; (try k_lt l1); (try dsimp only); (try k_lift B'); (try k_fold))))
      | ((with_reducible show wpAny _ _ (compareOp CmpOp.NotEq (Value.ref _) (Value.ref _)) _ _ _); (k_here; k_dflt (refine' neI ?k1_z9 ?k2_z9 ?k3_z9 ?k4_z9 ?k5_z9 ?k6_z9 ?_; (case k1_z9 => is_list); (case k2_z9 => is_list); (case k3_z9 => l_ints); (case k4_z9 => l_ints); (case k5_z9 => ke_room); (case k6_z9 => first | exact congrArg not (decide_eq_true rfl) | (refine congrArg not (decide_eq_false ?_); (simp; done))))))
      | ((with_reducible show wpAny _ _ (compareOp CmpOp.Eq (Value.ref _) (Value.ref _)) _ _ _); (k_here; k_dflt (refine' eqI ?k1_z9 ?k2_z9 ?k3_z9 ?k4_z9 ?k5_z9 ?k6_z9 ?_; (case k1_z9 => is_list); (case k2_z9 => is_list); (case k3_z9 => l_ints); (case k4_z9 => l_ints); (case k5_z9 => ke_room); (case k6_z9 => first | exact decide_eq_true rfl | (refine decide_eq_false ?_; (simp; done))))))
      | ((with_reducible show LeaveG _ _ _ _ _ _ _ _ _ _ _ _ _ _ _ _ _); ((k_dflt (refine' leaveG_ ?F_z9 ?N_z9 ?T_z9 ?_; (case F_z9 => k_asm); (case N_z9 => k_asm); (case T_z9 => first | assumption | exact KtsTurn.refl); k_whole)); intro kg kT kF kN kB kX₀ kP kD; (have kX := kFor kF kX₀); (try k_lift kB); kts_tail))
      | (k_end; kc_close)
      | walk1
      | (dsimp only; walk1)
      | (leave1; (try dsimp only))
      | fail "no step")
    all_goals first
      | (rename (_ : Int) ≠ _ => hne; exact absurd rfl hne)
      | (refine' lock_endB (hT.trans ?T) ?ht ?hoff hI ?iq ?iw ?hl ?F (news_sub ?N ?sub) ?b1 ?b2 ?hm; (case F => assumption); (case T => assumption); (case ht => assumption); (case N => assumption); (case sub => ((repeat (refine' List.forall_mem_cons.mpr ⟨?_, ?_⟩; k_mem)); intro p hp; repeat (first | exact hp | refine' List.Mem.tail _ ?_))); (case hoff => assumption); (case iq => l_ints); (case iw => l_ints); (case hl => first | omega | simp); (case b1 => assumption); (case b2 => assumption); (case hm => (intro y h1 h2; simp only [if_neg h1, if_neg h2])))
      | (refine' lock_endA (hT.trans ?T) ?ht ?hoff hI ?F (news_sub ?N ?sub) ?b1 ?b2 ?hm; (case F => assumption); (case T => assumption); (case ht => assumption); (case N => assumption); (case sub => ((repeat (refine' List.forall_mem_cons.mpr ⟨?_, ?_⟩; k_mem)); intro p hp; repeat (first | exact hp | refine' List.Mem.tail _ ?_))); (case hoff => assumption); (case b1 => assumption); (case b2 => assumption); (case hm => (intro y h1 h2; simp only [if_neg h1, if_neg h2])))
  case turnB =>
    clear hret
    intro i t g h tk I oi fv tv k to tq wv qv wi nw nq a ta b tb ps codes hG iq iw hl lq lw ht hoff hI hb hb2 F N
    obtain ⟨hT, hB, hX, hP, hD⟩ := hG
    have hI2 := hI
    have hz1 := iq.length
    have hz2 := iw.length
    dsimp only [OffAs] at hI2
    try dsimp only at F
    repeat' (first
      | (k_unfold; (try dsimp only))
      | ((with_reducible show wpAny _ _ (execs (_ :: _) _) _ _ _); (refine nrmS (by with_reducible assumption) ?_); intro tk'; refine wpAny_execs_cons ?_)
      | ((with_reducible show wpAny _ _ (subscriptTail (Expr.Name ..) (Expr.Slice ..) (Value.ref _) (Value.ref _)) _ _ _); (k_here; (k_dflt (first | (refine' tailC ?F_z9 ?N_z9 ?l_z9 ?z_z9 ?_ ?s_z9 ?t_z9; (case F_z9 => k_asm); (case N_z9 => k_asm); (case l_z9 => is_list); (case z_z9 => omega); (case s_z9 => with_unfolding_all rfl); (case t_z9 => intro _; with_unfolding_all rfl); k_whole) | (refine' tailN ?F_z9 ?N_z9 ?l_z9 ?_ ?s_z9 ?t_z9; (case F_z9 => k_asm); (case N_z9 => k_asm); (case l_z9 => is_list); (case s_z9 => with_unfolding_all rfl); (case t_z9 => intro _; with_unfolding_all rfl); k_whole)); intro D' h' F' N' l1; (try k_lt l1); (try k_sweep))))
      | ((k_here; (with_reducible show wpAny _ _ (call (Value.ref 209) _) _ _ _); k_dflt (first | (refine' unlock_new ?B_z9 ?F_z9 ?X_z9 ?N_z9 ?T_z9 ?XB_z9 ?TB_z9 ?D_z9 ?hk_z9 ?ho_z9 ?hn_z9 ?_; (case B_z9 => k_asm); (case F_z9 => k_asm); (case X_z9 => k_asm); (case N_z9 => k_asm); (case T_z9 => k_asm); (case XB_z9 => assumption); (case TB_z9 => assumption); (case D_z9 => assumption); (case hk_z9 => exact rfl); (case ho_z9 => exact ⟨by omega, by omega, by omega⟩); (case hn_z9 => ((repeat refine OwnOff.cons ⟨by k_ne, by k_ne, by k_ne, by k_ne, trivial⟩ ?_); (apply own_less9 <;> first | assumption | (simp; done)))); k_whole; intro g' h' tk' nw' nq' hG' F' N'; obtain ⟨T', B', X', P', D'⟩ := hG'; (try (have hz1' := IntsAre.length iq')); (try (have hz2' := IntsAre.length iw')); (try k_sweep)) | (refine' unlock_held ?B_z9 ?F_z9 ?X_z9 ?iq_z9 ?iw_z9 ?lq_z9 ?lw_z9 ?N_z9 ?T_z9 ?XB_z9 ?TB_z9 ?D_z9 ?hk_z9 ?ho_z9 ?hn_z9 ?rA_z9 ?rB_z9; (case B_z9 => k_asm); (case F_z9 => k_asm); (case X_z9 => k_asm); (case N_z9 => k_asm); (case T_z9 => k_asm); (case XB_z9 => assumption); (case TB_z9 => assumption); (case D_z9 => assumption); (case hk_z9 => exact rfl); (case iq_z9 => assumption); (case iw_z9 => assumption); (case lq_z9 => omega); (case lw_z9 => omega); (case ho_z9 => exact ⟨by omega, by omega, by omega⟩); (case hn_z9 => ((repeat refine OwnOff.cons ⟨by k_ne, by k_ne, by k_ne, by k_ne, trivial⟩ ?_); (apply own_less9 <;> first | assumption | (simp; done)))); k_whole; (case' rB_z9 => (intro g' h' tk' k2' to' tq' qv' wv' wi' nw' nq' hG' iq' iw' hl' F' N'; obtain ⟨T', B', X', P', D'⟩ := hG'; (try (have hz1' := IntsAre.length iq')); (try (have hz2' := IntsAre.length iw')); (try k_sweep))); (case' rA_z9 => (intro g' h' tk' nw' nq' hG' F' N'; obtain ⟨T', B', X', P', D'⟩ := hG'; (try (have hz1' := IntsAre.length iq')); (try (have hz2' := IntsAre.length iw')); (try k_sweep)))))))
      | ((k_here; (with_reducible show wpAny _ _ (call (Value.ref 202) _) _ _ _); k_dflt (first | (refine' lock_new ?B_z9 ?F_z9 ?X_z9 ?N_z9 ?T_z9 ?XB_z9 ?TB_z9 ?D_z9 ?hk_z9 ?C1_z9 ?ht_z9 ?hsub_z9 ?hoff_z9 ?hmore_z9 ?ho_z9 ?hn_z9 ?_; (case B_z9 => k_asm); (case F_z9 => k_asm); (case X_z9 => k_asm); (case N_z9 => k_asm); (case T_z9 => k_asm); (case XB_z9 => assumption); (case TB_z9 => assumption); (case D_z9 => assumption); (case hk_z9 => exact rfl); (case C1_z9 => assumption); (case ht_z9 => assumption); (case hoff_z9 => assumption); (case hsub_z9 => (intro q9 hq9; repeat (first | exact hq9 | refine List.Mem.tail _ ?_))); (case hmore_z9 => (refine ⟨⟨_, by k_mem⟩, ⟨_, by k_mem⟩, ⟨_, by k_mem⟩, trivial⟩)); (case ho_z9 => exact ⟨by omega, by omega, by omega, by omega⟩); (case hn_z9 => ((repeat refine OwnOff.cons ⟨by k_ne, by k_ne, by k_ne, by k_ne, by k_ne, trivial⟩ ?_); (apply own_less9 <;> first | assumption | (simp; done)))); k_whole; intro g' h' tk' to' tq' ps' nw' nq' c' oc' hG' ht' hoff' F' N'; obtain ⟨T', B', X', P', D'⟩ := hG'; (try (have hz1' := IntsAre.length iq')); (try (have hz2' := IntsAre.length iw')); (try k_sweep)) | (refine' lock_held ?B_z9 ?F_z9 ?X_z9 ?iq_z9 ?iw_z9 ?lq_z9 ?lw_z9 ?N_z9 ?T_z9 ?XB_z9 ?TB_z9 ?D_z9 ?hk_z9 ?C1_z9 ?ht_z9 ?hsub_z9 ?hoff_z9 ?hmore_z9 ?ho_z9 ?hn_z9 ?_; (case B_z9 => k_asm); (case F_z9 => k_asm); (case X_z9 => k_asm); (case N_z9 => k_asm); (case T_z9 => k_asm); (case XB_z9 => assumption); (case TB_z9 => assumption); (case D_z9 => assumption); (case hk_z9 => exact rfl); (case iq_z9 => assumption); (case iw_z9 => assumption); (case lq_z9 => omega); (case lw_z9 => omega); (case C1_z9 => assumption); (case ht_z9 => assumption); (case hoff_z9 => assumption); (case hsub_z9 => (intro q9 hq9; repeat (first | exact hq9 | refine List.Mem.tail _ ?_))); (case hmore_z9 => (refine ⟨⟨_, by k_mem⟩, ⟨_, by k_mem⟩, ⟨_, by k_mem⟩, trivial⟩)); (case ho_z9 => exact ⟨by omega, by omega, by omega, by omega⟩); (case hn_z9 => ((repeat refine OwnOff.cons ⟨by k_ne, by k_ne, by k_ne, by k_ne, by k_ne, trivial⟩ ?_); (apply own_less9 <;> first | assumption | (simp; done)))); k_whole; intro g' h' tk' qv' wv' wi' ps' nw' nq' c' oc' hG' iq' iw' hl' ht' hoff' F' N'; obtain ⟨T', B', X', P', D'⟩ := hG'; (try (have hz1' := IntsAre.length iq')); (try (have hz2' := IntsAre.length iw')); (try k_sweep)))))
      | ((k_here; (with_reducible show wpAny _ _ (subscriptTail _ _ (Value.ref _) (Value.int 0 _)) _ _ _); k_dflt (refine' item_listL ?l_z9 ?a_z9 ?b_z9 ?x_z9 ?_ ?s_z9 ?g_z9; (case l_z9 => is_list); (case a_z9 => decide); (case b_z9 => decide); (case x_z9 => exact rfl); (case s_z9 => with_unfolding_all rfl); (case g_z9 => intro _; with_unfolding_all rfl); k_whole)))
      | ((with_reducible show wpAny _ _ (compareOp CmpOp.NotEq (Value.int _ _) (Value.int _ _)) _ _ _); (k_here; with_reducible refine neSame ?_))
      | ((k_here; (with_reducible show wpAny _ _ (call (Value.ref 181) _) _ _ _); k_dflt (refine' take_at ?k1_z9 ?k2_z9 ?k3_z9 ?k4_z9 ?k5_z9 ?k6_z9 ?k7_z9 ?k8_z9 ?k9_z9 ?k10_z9 ?k11_z9 ?k12_z9 ?k13_z9 ?_; (case k1_z9 => k_asm); (case k2_z9 => k_asm); (case k3_z9 => k_asm); (case k4_z9 => k_asm); (case k5_z9 => k_updF); (case k6_z9 => k_asm); (case k7_z9 => first | exact rfl | assumption); (case k8_z9 => decide); (case k9_z9 => decide); (case k10_z9 => assumption); (case k11_z9 => assumption); (case k12_z9 => exact Nat.le_of_ble_eq_true rfl); (case k13_z9 => exact Nat.le_of_ble_eq_true rfl); k_whole); intro r' t' a' ta' b' tb' h' tk' hr0' hr1' hb0' hb1' F' N'; (try dsimp only at N'); (try k_sweep)))
      | ((with_reducible show wpAny _ _ (exec (Stmt.For ..) _) _ _ _); (k_here; (with_unfolding_all refine' For_G ?k1_z9 ?k2_z9 ?_; (case k1_z9 => exact rfl); (case k2_z9 => exact rfl); k_whole)))
      | ((k_here; (first | (with_reducible show wpAny _ _ (call (Value.ref 216) _) _ _ _) | (with_reducible show wpAny _ _ (call (Value.ref 223) _) _ _ _)); k_dflt (refine wpAny_call ?_; refine' code_plainG ?k1_z9 ?k2_z9 ?k3_z9 ?k4_z9 ?k5_z9 ?XB_z9 ?TB_z9 ?D_z9 ?T0_z9 ?kA_z9 ?kF_z9 ?kK_z9 ?k6_z9 ?k7_z9 ?k8_z9 ?k9_z9 ?kB_z9 ?_ ?c2_z9 ?c3_z9 ?c4_z9 ?c5_z9; (case kA_z9 => exact rfl); (case kF_z9 => exact rfl); (case kK_z9 => first | assumption | exact rfl); (case k2_z9 => k_asm); (case k1_z9 => k_asm); (case XB_z9 => assumption); (case TB_z9 => assumption); (case D_z9 => assumption); (case T0_z9 => first | assumption | exact KtsTurn.refl); (case k3_z9 => k_asm); (case k4_z9 => k_asm); (case k5_z9 => k_asm); (case k6_z9 => k_is); (case k7_z9 => k_is); (case k8_z9 => ktr_room); (case k9_z9 => exact BindsTo.of_eq rfl); (case kB_z9 => exact locs rfl); (case c2_z9 => exact rfl); (case c3_z9 => exact rfl); (case c4_z9 => exact rfl); (case c5_z9 => decide); k_whole; intro g' L' h' FG' F' N' B' X' T' D' l1; (try k_lt l1); (try dsimp only); (try k_lift B'); (try k_fold))))
      | ((with_reducible show wpAny _ _ (compareOp CmpOp.NotEq (Value.ref _) (Value.ref _)) _ _ _); (k_here; k_dflt (refine' neI ?k1_z9 ?k2_z9 ?k3_z9 ?k4_z9 ?k5_z9 ?k6_z9 ?_; (case k1_z9 => is_list); (case k2_z9 => is_list); (case k3_z9 => l_ints); (case k4_z9 => l_ints); (case k5_z9 => ke_room); (case k6_z9 => first | exact congrArg not (decide_eq_true rfl) | (refine congrArg not (decide_eq_false ?_); (simp; done))))))
      | ((with_reducible show wpAny _ _ (compareOp CmpOp.Eq (Value.ref _) (Value.ref _)) _ _ _); (k_here; k_dflt (refine' eqI ?k1_z9 ?k2_z9 ?k3_z9 ?k4_z9 ?k5_z9 ?k6_z9 ?_; (case k1_z9 => is_list); (case k2_z9 => is_list); (case k3_z9 => l_ints); (case k4_z9 => l_ints); (case k5_z9 => ke_room); (case k6_z9 => first | exact decide_eq_true rfl | (refine decide_eq_false ?_; (simp; done))))))
      | ((with_reducible show LeaveG _ _ _ _ _ _ _ _ _ _ _ _ _ _ _ _ _); ((k_dflt (refine' leaveG_ ?F_z9 ?N_z9 ?T_z9 ?_; (case F_z9 => k_asm); (case N_z9 => k_asm); (case T_z9 => first | assumption | exact KtsTurn.refl); k_whole)); intro kg kT kF kN kB kX₀ kP kD; (have kX := kFor kF kX₀); (try k_lift kB); kts_tail))
      | (k_end; kc_close)
      | walk1
      | (dsimp only; walk1)
      | (leave1; (try dsimp only))
      | fail "no step")
    all_goals first
      | (rename (_ : Int) ≠ _ => hne; exact absurd rfl hne)
      | (refine' lock_endB (hT.trans ?T) ?ht ?hoff hI ?iq ?iw ?hl ?F (news_sub ?N ?sub) ?b1 ?b2 ?hm; (case F => assumption); (case T => assumption); (case ht => assumption); (case N => assumption); (case sub => ((repeat (refine' List.forall_mem_cons.mpr ⟨?_, ?_⟩; k_mem)); intro p hp; repeat (first | exact hp | refine' List.Mem.tail _ ?_))); (case hoff => assumption); (case iq => l_ints); (case iw => l_ints); (case hl => first | omega | simp); (case b1 => assumption); (case b2 => assumption); (case hm => (intro y h1 h2; simp only [if_neg h1, if_neg h2])))
      | (refine' lock_endA (hT.trans ?T) ?ht ?hoff hI ?F (news_sub ?N ?sub) ?b1 ?b2 ?hm; (case F => assumption); (case T => assumption); (case ht => assumption); (case N => assumption); (case sub => ((repeat (refine' List.forall_mem_cons.mpr ⟨?_, ?_⟩; k_mem)); intro p hp; repeat (first | exact hp | refine' List.Mem.tail _ ?_))); (case hoff => assumption); (case b1 => assumption); (case b2 => assumption); (case hm => (intro y h1 h2; simp only [if_neg h1, if_neg h2])))
  case turnC =>
    intro g h tk m' a ta b tb ps hG hb hb2 F N
    obtain ⟨hT, hB, hX, hP, hD⟩ := hG
    repeat' (first
      | (k_unfold; (try dsimp only))
      | ((with_reducible show wpAny _ _ (execs (_ :: _) _) _ _ _); (refine nrmS (by with_reducible assumption) ?_); intro tk'; refine wpAny_execs_cons ?_)
      | ((with_reducible show wpAny _ _ (subscriptTail (Expr.Name ..) (Expr.Slice ..) (Value.ref _) (Value.ref _)) _ _ _); (k_here; (k_dflt (first | (refine' tailC ?F_z9 ?N_z9 ?l_z9 ?z_z9 ?_ ?s_z9 ?t_z9; (case F_z9 => k_asm); (case N_z9 => k_asm); (case l_z9 => is_list); (case z_z9 => omega); (case s_z9 => with_unfolding_all rfl); (case t_z9 => intro _; with_unfolding_all rfl); k_whole) | (refine' tailN ?F_z9 ?N_z9 ?l_z9 ?_ ?s_z9 ?t_z9; (case F_z9 => k_asm); (case N_z9 => k_asm); (case l_z9 => is_list); (case s_z9 => with_unfolding_all rfl); (case t_z9 => intro _; with_unfolding_all rfl); k_whole)); intro D' h' F' N' l1; (try k_lt l1); (try k_sweep))))
      | ((k_here; (with_reducible show wpAny _ _ (call (Value.ref 209) _) _ _ _); k_dflt (first | (refine' unlock_new ?B_z9 ?F_z9 ?X_z9 ?N_z9 ?T_z9 ?XB_z9 ?TB_z9 ?D_z9 ?hk_z9 ?ho_z9 ?hn_z9 ?_; (case B_z9 => k_asm); (case F_z9 => k_asm); (case X_z9 => k_asm); (case N_z9 => k_asm); (case T_z9 => k_asm); (case XB_z9 => assumption); (case TB_z9 => assumption); (case D_z9 => assumption); (case hk_z9 => exact rfl); (case ho_z9 => exact ⟨by omega, by omega, by omega⟩); (case hn_z9 => ((repeat refine OwnOff.cons ⟨by k_ne, by k_ne, by k_ne, by k_ne, trivial⟩ ?_); (apply own_less9 <;> first | assumption | (simp; done)))); k_whole; intro g' h' tk' nw' nq' hG' F' N'; obtain ⟨T', B', X', P', D'⟩ := hG'; (try (have hz1' := IntsAre.length iq')); (try (have hz2' := IntsAre.length iw')); (try k_sweep)) | (refine' unlock_held ?B_z9 ?F_z9 ?X_z9 ?iq_z9 ?iw_z9 ?lq_z9 ?lw_z9 ?N_z9 ?T_z9 ?XB_z9 ?TB_z9 ?D_z9 ?hk_z9 ?ho_z9 ?hn_z9 ?rA_z9 ?rB_z9; (case B_z9 => k_asm); (case F_z9 => k_asm); (case X_z9 => k_asm); (case N_z9 => k_asm); (case T_z9 => k_asm); (case XB_z9 => assumption); (case TB_z9 => assumption); (case D_z9 => assumption); (case hk_z9 => exact rfl); (case iq_z9 => assumption); (case iw_z9 => assumption); (case lq_z9 => omega); (case lw_z9 => omega); (case ho_z9 => exact ⟨by omega, by omega, by omega⟩); (case hn_z9 => ((repeat refine OwnOff.cons ⟨by k_ne, by k_ne, by k_ne, by k_ne, trivial⟩ ?_); (apply own_less9 <;> first | assumption | (simp; done)))); k_whole; (case' rB_z9 => (intro g' h' tk' k2' to' tq' qv' wv' wi' nw' nq' hG' iq' iw' hl' F' N'; obtain ⟨T', B', X', P', D'⟩ := hG'; (try (have hz1' := IntsAre.length iq')); (try (have hz2' := IntsAre.length iw')); (try k_sweep))); (case' rA_z9 => (intro g' h' tk' nw' nq' hG' F' N'; obtain ⟨T', B', X', P', D'⟩ := hG'; (try (have hz1' := IntsAre.length iq')); (try (have hz2' := IntsAre.length iw')); (try k_sweep)))))))
      | ((k_here; (with_reducible show wpAny _ _ (call (Value.ref 202) _) _ _ _); k_dflt (first | (refine' lock_new ?B_z9 ?F_z9 ?X_z9 ?N_z9 ?T_z9 ?XB_z9 ?TB_z9 ?D_z9 ?hk_z9 ?C1_z9 ?ht_z9 ?hsub_z9 ?hoff_z9 ?hmore_z9 ?ho_z9 ?hn_z9 ?_; (case B_z9 => k_asm); (case F_z9 => k_asm); (case X_z9 => k_asm); (case N_z9 => k_asm); (case T_z9 => k_asm); (case XB_z9 => assumption); (case TB_z9 => assumption); (case D_z9 => assumption); (case hk_z9 => exact rfl); (case C1_z9 => assumption); (case ht_z9 => assumption); (case hoff_z9 => assumption); (case hsub_z9 => (intro q9 hq9; repeat (first | exact hq9 | refine List.Mem.tail _ ?_))); (case hmore_z9 => (refine ⟨⟨_, by k_mem⟩, ⟨_, by k_mem⟩, ⟨_, by k_mem⟩, trivial⟩)); (case ho_z9 => exact ⟨by omega, by omega, by omega, by omega⟩); (case hn_z9 => ((repeat refine OwnOff.cons ⟨by k_ne, by k_ne, by k_ne, by k_ne, by k_ne, trivial⟩ ?_); (apply own_less9 <;> first | assumption | (simp; done)))); k_whole; intro g' h' tk' to' tq' ps' nw' nq' c' oc' hG' ht' hoff' F' N'; obtain ⟨T', B', X', P', D'⟩ := hG'; (try (have hz1' := IntsAre.length iq')); (try (have hz2' := IntsAre.length iw')); (try k_sweep)) | (refine' lock_held ?B_z9 ?F_z9 ?X_z9 ?iq_z9 ?iw_z9 ?lq_z9 ?lw_z9 ?N_z9 ?T_z9 ?XB_z9 ?TB_z9 ?D_z9 ?hk_z9 ?C1_z9 ?ht_z9 ?hsub_z9 ?hoff_z9 ?hmore_z9 ?ho_z9 ?hn_z9 ?_; (case B_z9 => k_asm); (case F_z9 => k_asm); (case X_z9 => k_asm); (case N_z9 => k_asm); (case T_z9 => k_asm); (case XB_z9 => assumption); (case TB_z9 => assumption); (case D_z9 => assumption); (case hk_z9 => exact rfl); (case iq_z9 => assumption); (case iw_z9 => assumption); (case lq_z9 => omega); (case lw_z9 => omega); (case C1_z9 => assumption); (case ht_z9 => assumption); (case hoff_z9 => assumption); (case hsub_z9 => (intro q9 hq9; repeat (first | exact hq9 | refine List.Mem.tail _ ?_))); (case hmore_z9 => (refine ⟨⟨_, by k_mem⟩, ⟨_, by k_mem⟩, ⟨_, by k_mem⟩, trivial⟩)); (case ho_z9 => exact ⟨by omega, by omega, by omega, by omega⟩); (case hn_z9 => ((repeat refine OwnOff.cons ⟨by k_ne, by k_ne, by k_ne, by k_ne, by k_ne, trivial⟩ ?_); (apply own_less9 <;> first | assumption | (simp; done)))); k_whole; intro g' h' tk' qv' wv' wi' ps' nw' nq' c' oc' hG' iq' iw' hl' ht' hoff' F' N'; obtain ⟨T', B', X', P', D'⟩ := hG'; (try (have hz1' := IntsAre.length iq')); (try (have hz2' := IntsAre.length iw')); (try k_sweep)))))
      | ((k_here; (with_reducible show wpAny _ _ (subscriptTail _ _ (Value.ref _) (Value.int 0 _)) _ _ _); k_dflt (refine' item_listL ?l_z9 ?a_z9 ?b_z9 ?x_z9 ?_ ?s_z9 ?g_z9; (case l_z9 => is_list); (case a_z9 => decide); (case b_z9 => decide); (case x_z9 => exact rfl); (case s_z9 => with_unfolding_all rfl); (case g_z9 => intro _; with_unfolding_all rfl); k_whole)))
      | ((with_reducible show wpAny _ _ (compareOp CmpOp.NotEq (Value.int _ _) (Value.int _ _)) _ _ _); (k_here; with_reducible refine neSame ?_))
      | ((k_here; (with_reducible show wpAny _ _ (call (Value.ref 181) _) _ _ _); k_dflt (refine' take_at ?k1_z9 ?k2_z9 ?k3_z9 ?k4_z9 ?k5_z9 ?k6_z9 ?k7_z9 ?k8_z9 ?k9_z9 ?k10_z9 ?k11_z9 ?k12_z9 ?k13_z9 ?_; (case k1_z9 => k_asm); (case k2_z9 => k_asm); (case k3_z9 => k_asm); (case k4_z9 => k_asm); (case k5_z9 => k_updF); (case k6_z9 => k_asm); (case k7_z9 => first | exact rfl | assumption); (case k8_z9 => decide); (case k9_z9 => decide); (case k10_z9 => assumption); (case k11_z9 => assumption); (case k12_z9 => exact Nat.le_of_ble_eq_true rfl); (case k13_z9 => exact Nat.le_of_ble_eq_true rfl); k_whole); intro r' t' a' ta' b' tb' h' tk' hr0' hr1' hb0' hb1' F' N'; (try dsimp only at N'); (try k_sweep)))
      | ((with_reducible show wpAny _ _ (exec (Stmt.For ..) _) _ _ _); (k_here; (with_unfolding_all refine' For_G ?k1_z9 ?k2_z9 ?_; (case k1_z9 => exact rfl); (case k2_z9 => exact rfl); k_whole)))
      | ((k_here; (first | (with_reducible show wpAny _ _ (call (Value.ref 216) _) _ _ _) | (with_reducible show wpAny _ _ (call (Value.ref 223) _) _ _ _)); k_dflt (refine wpAny_call ?_; refine' code_plainG ?k1_z9 ?k2_z9 ?k3_z9 ?k4_z9 ?k5_z9 ?XB_z9 ?TB_z9 ?D_z9 ?T0_z9 ?kA_z9 ?kF_z9 ?kK_z9 ?k6_z9 ?k7_z9 ?k8_z9 ?k9_z9 ?kB_z9 ?_ ?c2_z9 ?c3_z9 ?c4_z9 ?c5_z9; (case kA_z9 => exact rfl); (case kF_z9 => exact rfl); (case kK_z9 => first | assumption | exact rfl); (case k2_z9 => k_asm); (case k1_z9 => k_asm); (case XB_z9 => assumption); (case TB_z9 => assumption); (case D_z9 => assumption); (case T0_z9 => first | assumption | exact KtsTurn.refl); (case k3_z9 => k_asm); (case k4_z9 => k_asm); (case k5_z9 => k_asm); (case k6_z9 => k_is); (case k7_z9 => k_is); (case k8_z9 => ktr_room); (case k9_z9 => exact BindsTo.of_eq rfl); (case kB_z9 => exact locs rfl); (case c2_z9 => exact rfl); (case c3_z9 => exact rfl); (case c4_z9 => exact rfl); (case c5_z9 => decide); k_whole; intro g' L' h' FG' F' N' B' X' T' D' l1; (try k_lt l1); (try dsimp only); (try k_lift B'); (try k_fold))))
      | ((with_reducible show wpAny _ _ (compareOp CmpOp.NotEq (Value.ref _) (Value.ref _)) _ _ _); (k_here; k_dflt (refine' neI ?k1_z9 ?k2_z9 ?k3_z9 ?k4_z9 ?k5_z9 ?k6_z9 ?_; (case k1_z9 => is_list); (case k2_z9 => is_list); (case k3_z9 => l_ints); (case k4_z9 => l_ints); (case k5_z9 => ke_room); (case k6_z9 => first | exact congrArg not (decide_eq_true rfl) | (refine congrArg not (decide_eq_false ?_); (simp; done))))))
      | ((with_reducible show wpAny _ _ (compareOp CmpOp.Eq (Value.ref _) (Value.ref _)) _ _ _); (k_here; k_dflt (refine' eqI ?k1_z9 ?k2_z9 ?k3_z9 ?k4_z9 ?k5_z9 ?k6_z9 ?_; (case k1_z9 => is_list); (case k2_z9 => is_list); (case k3_z9 => l_ints); (case k4_z9 => l_ints); (case k5_z9 => ke_room); (case k6_z9 => first | exact decide_eq_true rfl | (refine decide_eq_false ?_; (simp; done))))))
      | ((with_reducible show LeaveG _ _ _ _ _ _ _ _ _ _ _ _ _ _ _ _ _); ((k_dflt (refine' leaveG_ ?F_z9 ?N_z9 ?T_z9 ?_; (case F_z9 => k_asm); (case N_z9 => k_asm); (case T_z9 => first | assumption | exact KtsTurn.refl); k_whole)); intro kg kT kF kN kB kX₀ kP kD; (have kX := kFor kF kX₀); (try k_lift kB); kts_tail))
      | (k_end; kc_close)
      | walk1
      | (dsimp only; walk1)
      | (leave1; (try dsimp only))
      | fail "no step")
    all_goals (refine' hret _ _ _ ?a ?ta ?b ?tb ?ps (by assumption) ?b1 ?b2 (by assumption) (news_sub (by assumption) ?sub); (case sub => ((repeat (refine' List.forall_mem_cons.mpr ⟨?_, ?_⟩; k_mem)); exact fun _ h => nomatch h)); (case b1 => assumption); (case b2 => assumption))
set_option maxRecDepth 100000 in
set_option maxHeartbeats 8000000 in
theorem group_right_spec {w : World} {p : Program} {loose : List Str} {mean : ExcName → Option Value} {mg mb : Str → Option Value} {src : Addr} {a b : Int} {ta tb : Tok} {n : Nat} {pl : Array Value}
    {gd : Option (List Code)} {cn : Str} {cs : Scope} {ca : Addr} {ccd : Value} {cl : List (Str × Addr)} {outer : List Env} {A₀ : Around} {base h₀ : Heap} {L : Addr} {m : Str → Option Value} {s : Shared} {Q E : Value → Shared → Prop}
    (B : Below A₀ base outer h₀) (F : Fr h₀ L s.heap m)
    (N : News h₀ L s.heap [(src, listOf #[.int a ta, .int b tb] n), ((218 : Nat), tabObj #[]), ((197 : Nat), tabObj pl)]) (T : Top p loose mean mg mb h₀) (XB : (Mine.pre.heap_1_39 w.params).In base) (TB : Top p loose mean mg mb base) (D : KtsDicts (outer.filterMap (·.frame)) h₀) (hk : cs.kind = .function)
    (C1 : CodeHd base 222 218) (l1 : @LT.lt Nat _ (218 : Nat) src ∧ @LT.lt Nat _ (197 : Nat) src) (hb : 0 ≤ b) (hb2 : b < 2147483648)
    (hret : ∀ g' h' tk a' ta' b' tb' ps, KtsTurn (outer.filterMap (·.frame)) h₀ g' → 0 ≤ b' → b' < 2147483648 → Fr g' L h' m → News g' L h' [(src, listOf #[.int a' ta', .int b' tb'] n), ((218 : Nat), tabObj ps), ((197 : Nat), tabObj pl)] → Q (.bool true) { s with heap := h', toks := tk }) :
    (Mine.pre.heap_1_39 w.params).In h₀ → wpAny (model PySem.Challenge.rw_on0004_01.row.prog w) (ktrTop 302 7 gd cn cs L ca ccd cl outer) (call (.ref 223) [.ref src]) Q E s := by
  k_fill
  intro X
  repeat' (first
    | (k_unfold; (try dsimp only))
    | ((with_reducible show wpAny _ _ (execs (_ :: _) _) _ _ _); (refine nrmS (by with_reducible assumption) ?_); intro tk'; refine wpAny_execs_cons ?_)
    | ((with_reducible show wpAny _ _ (call (Value.ref 195) _) _ _ _); (refine' told_spec ?B_z9 ?F_z9 ?N_z9 ?T_z9 ?XB_z9 ?TB_z9 ?D_z9 ?hk_z9 ?hdp_z9 ?hun_z9 ?hcb_z9 ?_ ?X_z9; (case B_z9 => k_asm); (case F_z9 => k_asm); (case N_z9 => k_asm); (case T_z9 => k_asm); (case X_z9 => k_asm); (case XB_z9 => assumption); (case TB_z9 => assumption); (case D_z9 => assumption); (case hk_z9 => first | exact rfl | assumption); (case hdp_z9 => exact Nat.le_of_ble_eq_true rfl); (case hun_z9 => exact Nat.le_of_ble_eq_true rfl); (case hcb_z9 => (intro g9 L9 h9 N9 X9; first | (apply keeps_M2 N9 X9 <;> first | k_mem | k_is) | (apply keeps_F2 N9; k_mem))); intro cn9 ns9 ca9 ccd9 g' L' h' tk' m' l1 F' N' B' X' T' D'; (k_lt l1); (try k_lift B'); (try k_fold)))
    | ((with_reducible show ToldE _ _ _ _ _ _ _ _ _ _ _ _ _ _ _ _ _ _ _ _); (refine' ⟨_, _, _, _, _, _, _, _, rfl, rfl, ?FG_z9, ?U_z9, Or.inl ⟨_, _, _, _, ?gv_z9, RaisedG.keepP ?R_z9, ?_⟩⟩; (case R_z9 => assumption); (case U_z9 => assumption); (case FG_z9 => assumption); (case gv_z9 => first | k_get | exact rfl); (intro g' h' tk' u G' F' N'; obtain ⟨T', B', X', P', D'⟩ := G')))
    | ((with_reducible show wpAny _ _ (call (Value.ref 81) _) _ _ _); (refine' panic_spec ?B_z9 ?F_z9 ?N_z9 ?T_z9 ?hk_z9 ?he_z9 ?hb_z9 ?_ ?X_z9; (case B_z9 => k_asm); (case F_z9 => k_asm); (case N_z9 => k_asm); (case T_z9 => k_asm); (case X_z9 => k_asm); (case hk_z9 => first | exact rfl | assumption); (case he_z9 => first | exact enc1 | exact enc2); (case hb_z9 => decide); k_whole; intro e' t' d' t2' D' h' tk' ta' tb' tc' td' te' u1' u2' u3' F' N' lo' l1 l2; (dsimp only [OffAs] at lo'); (have l3 := fun q hq => Nat.lt_trans (l1 q hq) l2); (k_lt l1); (k_lt l3); (try k_sweep)))
    | ((with_reducible show wpAny _ _ (call (Value.ref 146) _) _ _ _); first | (refine' m_add_zero ?B_z9 ?F_z9 ?N_z9 ?T_z9 ?hk_z9 ?hdp_z9 ?x0_z9 ?x1_z9 ?x2_z9 ?D1_z9 ?D2_z9 ?D3_z9 ?hp_z9 ?_ ?X_z9; (case B_z9 => k_asm); (case F_z9 => k_asm); (case N_z9 => k_asm); (case T_z9 => k_asm); (case X_z9 => k_asm); (case hk_z9 => first | exact rfl | assumption); (case hdp_z9 => exact Nat.le_of_ble_eq_true rfl); (case x0_z9 => k_mem); (case x1_z9 => k_mem); (case x2_z9 => k_mem); (case D1_z9 => ((repeat' ((with_reducible show DropE _ _ _ _); first | with_reducible refine' DropE.head ?_ | with_reducible refine' DropE.tail ?_ ?_)); all_goals (first | ((with_reducible show @Ne _ _ _); k_ne) | k_all))); (case D2_z9 => ((repeat' ((with_reducible show DropE _ _ _ _); first | with_reducible refine' DropE.head ?_ | with_reducible refine' DropE.tail ?_ ?_)); all_goals (first | ((with_reducible show @Ne _ _ _); k_ne) | k_all))); (case D3_z9 => k_mem); (case hp_z9 => omega); k_whole; intro l' tc' h' tk' F' N' fr' of'; (dsimp only [OffAs] at of'); (k_lt fr'); (try k_sweep)) | (refine' m_add_pos ?B_z9 ?F_z9 ?N_z9 ?T_z9 ?hk_z9 ?hdp_z9 ?x0_z9 ?x1_z9 ?x2_z9 ?D1_z9 ?D2_z9 ?D3_z9 ?hp_z9 ?_ ?X_z9; (case B_z9 => k_asm); (case F_z9 => k_asm); (case N_z9 => k_asm); (case T_z9 => k_asm); (case X_z9 => k_asm); (case hk_z9 => first | exact rfl | assumption); (case hdp_z9 => exact Nat.le_of_ble_eq_true rfl); (case x0_z9 => k_mem); (case x1_z9 => k_mem); (case x2_z9 => k_mem); (case D1_z9 => ((repeat' ((with_reducible show DropE _ _ _ _); first | with_reducible refine' DropE.head ?_ | with_reducible refine' DropE.tail ?_ ?_)); all_goals (first | ((with_reducible show @Ne _ _ _); k_ne) | k_all))); (case D2_z9 => ((repeat' ((with_reducible show DropE _ _ _ _); first | with_reducible refine' DropE.head ?_ | with_reducible refine' DropE.tail ?_ ?_)); all_goals (first | ((with_reducible show @Ne _ _ _); k_ne) | k_all))); (case D3_z9 => k_mem); (case hp_z9 => omega); k_whole; intro l' tc' h' tk' F' N' fr' of'; (dsimp only [OffAs] at of'); (k_lt fr'); (try k_sweep)))
    | ((with_reducible show wpAny _ _ (call (Value.ref 160) _) _ _ _); first | (refine' m_wait_free ?B_z9 ?F_z9 ?N_z9 ?T_z9 ?hk_z9 ?hdp_z9 ?x0_z9 ?x1_z9 ?x2_z9 ?D1_z9 ?D2_z9 ?D3_z9 ?hc_z9 ?_ ?X_z9; (case B_z9 => k_asm); (case F_z9 => k_asm); (case N_z9 => k_asm); (case T_z9 => k_asm); (case X_z9 => k_asm); (case hk_z9 => first | exact rfl | assumption); (case hdp_z9 => exact Nat.le_of_ble_eq_true rfl); (case x0_z9 => k_mem); (case x1_z9 => k_mem); (case x2_z9 => k_mem); (case D1_z9 => ((repeat' ((with_reducible show DropE _ _ _ _); first | with_reducible refine' DropE.head ?_ | with_reducible refine' DropE.tail ?_ ?_)); all_goals (first | ((with_reducible show @Ne _ _ _); k_ne) | k_all))); (case D2_z9 => ((repeat' ((with_reducible show DropE _ _ _ _); first | with_reducible refine' DropE.head ?_ | with_reducible refine' DropE.tail ?_ ?_)); all_goals (first | ((with_reducible show @Ne _ _ _); k_ne) | k_all))); (case D3_z9 => k_mem); (case hc_z9 => omega); k_whole; intro h' tk' F' N'; (try simp only [List.nil_append, List.cons_append] at N'); (try k_sweep)) | (refine' m_wait_block ?B_z9 ?F_z9 ?N_z9 ?T_z9 ?hk_z9 ?hdp_z9 ?x0_z9 ?x1_z9 ?x2_z9 ?D1_z9 ?D2_z9 ?D3_z9 ?hc_z9 ?lw_z9 ?_ ?X_z9; (case B_z9 => k_asm); (case F_z9 => k_asm); (case N_z9 => k_asm); (case T_z9 => k_asm); (case X_z9 => k_asm); (case hk_z9 => first | exact rfl | assumption); (case hdp_z9 => exact Nat.le_of_ble_eq_true rfl); (case x0_z9 => k_mem); (case x1_z9 => k_mem); (case x2_z9 => k_mem); (case D1_z9 => ((repeat' ((with_reducible show DropE _ _ _ _); first | with_reducible refine' DropE.head ?_ | with_reducible refine' DropE.tail ?_ ?_)); all_goals (first | ((with_reducible show @Ne _ _ _); k_ne) | k_all))); (case D2_z9 => ((repeat' ((with_reducible show DropE _ _ _ _); first | with_reducible refine' DropE.head ?_ | with_reducible refine' DropE.tail ?_ ?_)); all_goals (first | ((with_reducible show @Ne _ _ _); k_ne) | k_all))); (case D3_z9 => k_mem); (case hc_z9 => omega); (case lw_z9 => first | omega | (simp only [List.length_nil, List.length_cons, List.length_append]; omega)); k_whole; intro h' tk' F' N'; (try simp only [List.nil_append, List.cons_append] at N'); (try k_sweep)))
    | ((k_here; (first | ((with_reducible show wpAny _ _ (callWith _ (Value.ref _) _ (backTo _ (starEach [] _)) []) _ _ _); k_dflt (refine' callWith_K0 ?k1_z9 ?k2_z9 ?_; (case k1_z9 => exact Frag.In.keeps (by with_reducible assumption) (Fr.keep (by with_reducible assumption))); (case k2_z9 => k_is); k_whole)) | ((with_reducible show wpAny _ _ (callWith _ (Value.ref _) _ (backTo _ (starEach (_ :: _) _)) []) _ _ _); k_dflt (refine' callWith_K ?k1_z9 ?k2_z9 ?_; (case k1_z9 => with_reducible assumption); (case k2_z9 => k_is); k_whole)))))
    | ((k_here; first | ((with_reducible show wpAny _ _ (callWith _ (Value.ref _) _ (backTo _ (starEach [] _)) []) _ _ _); k_dflt (first | (refine' callWith_M0 ?k1_z9 ?k2_z9 ?_; (case k1_z9 => k_meth); (case k2_z9 => k_is); k_whole; try dsimp only [List.nil_append, List.cons_append]) | (refine' callWith_F0 ?k1_z9 ?_; (case k1_z9 => exact FnAt.of (by k_asm) (by k_mem)); k_whole; try dsimp only [List.nil_append, List.cons_append]) | (refine' callWith_K0 ?k1_z9 ?k2_z9 ?_; (case k1_z9 => k_in); (case k2_z9 => k_is); k_whole))) | ((with_reducible show wpAny _ _ (callWith _ (Value.ref _) _ (backTo _ (starEach (_ :: _) _)) []) _ _ _); k_dflt (first | (refine' callWith_M ?k1_z9 ?k2_z9 ?k3_z9 ?k4_z9 ?_; (case k1_z9 => k_asm); (case k2_z9 => k_asm); (case k3_z9 => k_mem); (case k4_z9 => k_is); k_whole) | (refine' callWith_F ?k1_z9 ?_; (case k1_z9 => exact FnAt.of (by k_asm) (by k_mem)); k_whole) | (refine' callWith_K ?k1_z9 ?k2_z9 ?_; (case k1_z9 => k_asm); (case k2_z9 => k_is); k_whole)))))
    | ((with_reducible show wpAny _ _ (call (Value.builtin "list.append") _ _) _ _ _); (k_here; k_dflt (refine' appendL ?k1_z9 ?k2_z9 ?k3_z9 ?z_z9 ?_; (case k1_z9 => k_asm); (case k2_z9 => k_asm); (case k3_z9 => k_upd); (case z_z9 => omega); k_whole); intro h' F' N'; (try k_sweep)))
    | ((with_reducible show wpAny _ _ (call (Value.type "int") _ _) _ _ _); (k_here; first | (with_reducible refine intBT ?_) | (with_reducible refine intBF ?_)))
    | ((with_reducible show wpAny _ _ (binaryOp Operator.Add (Value.ref _) (Value.ref _)) _ _ _); (k_here; (k_dflt (first | (refine' addN0 ?F_z9 ?N_z9 ?l_z9 ?b_z9 ?z_z9 ?_; (case F_z9 => k_asm); (case N_z9 => k_asm); (case b_z9 => (apply isl9 <;> first | with_reducible assumption | k_mem)); (case l_z9 => (apply isl9 <;> first | with_reducible assumption | k_mem)); (case z_z9 => omega); k_whole) | (refine' addN1 ?F_z9 ?N_z9 ?l_z9 ?b_z9 ?z_z9 ?_; (case F_z9 => k_asm); (case N_z9 => k_asm); (case b_z9 => (apply isl9 <;> first | with_reducible assumption | k_mem)); (case l_z9 => (apply isl9 <;> first | with_reducible assumption | k_mem)); (case z_z9 => omega); k_whole)); intro D' h' F' N' l1; (try k_lt l1); (try k_sweep))))
    | ((with_reducible show wpAny _ _ (binaryOp Operator.Mult (Value.ref _) (Value.int _ _)) _ _ _); (k_here; (k_dflt (first | ((with_reducible show wpAny _ _ (binaryOp Operator.Mult (Value.ref _) (Value.int 0 _)) _ _ _); refine' mulN0 ?F_z9 ?N_z9 ?l_z9 ?_; (case F_z9 => k_asm); (case N_z9 => k_asm); (case l_z9 => is_list); k_whole) | ((with_reducible show wpAny _ _ (binaryOp Operator.Mult (Value.ref _) (Value.int 1 _)) _ _ _); refine' mulN1 ?F_z9 ?N_z9 ?l_z9 ?_; (case F_z9 => k_asm); (case N_z9 => k_asm); (case l_z9 => is_list); k_whole)); intro D' h' F' N' l1; (try k_lt l1); (try k_sweep))))
    | ((with_reducible show wpAny _ _ (compareOp CmpOp.NotEq (Value.ref _) (Value.ref _)) _ _ _); (k_here; k_dflt (refine' neI ?k1_z9 ?k2_z9 ?k3_z9 ?k4_z9 ?k5_z9 ?k6_z9 ?_; (case k1_z9 => (apply isl9 <;> first | with_reducible assumption | k_mem)); (case k2_z9 => (apply isl9 <;> first | with_reducible assumption | k_mem)); (case k3_z9 => first | with_reducible assumption | with_reducible exact IntsAre.nil | with_reducible exact IntsAre.append (by assumption) (IntsAre.cons _ _ IntsAre.nil)); (case k4_z9 => first | with_reducible assumption | with_reducible exact IntsAre.nil | with_reducible exact IntsAre.append (by assumption) (IntsAre.cons _ _ IntsAre.nil)); (case k5_z9 => ke_room); (case k6_z9 => (first | exact congrArg not (decide_eq_true rfl) | (refine congrArg not (decide_eq_false ?_); (simp; done)) )))))
    | ((with_reducible show wpAny _ _ (compareOp CmpOp.NotEq (Value.int _ _) (Value.int _ _)) _ _ _); (k_here; first | (with_reducible refine' neT ?h_z9 ?_; (case h_z9 => omega)) | (with_reducible refine' neF ?h_z9 ?_; (case h_z9 => omega))))
    | ((with_reducible show wpAny _ _ (compareOp CmpOp.Gt (Value.int _ _) (Value.int _ _)) _ _ _); (k_here; first | (with_reducible refine' gtT ?h_z9 ?_; (case h_z9 => omega)) | (with_reducible refine' gtF ?h_z9 ?_; (case h_z9 => omega)) | (with_reducible refine' gtS ?_ ?_ <;> intro hq9)))
    | ((with_reducible show wpAny _ _ (compareOp CmpOp.Lt (Value.int _ _) (Value.int _ _)) _ _ _); (k_here; first | (with_reducible refine' ltT ?h_z9 ?_; (case h_z9 => omega)) | (with_reducible refine' ltF ?h_z9 ?_; (case h_z9 => omega)) | (with_reducible refine' ltS ?_ ?_ <;> intro hq9)))
    | ((with_reducible show wpAny _ _ (compareOp CmpOp.Eq (Value.int _ _) (Value.int _ _)) _ _ _); (k_here; first | (with_reducible refine' eqT ?h_z9 ?_; (case h_z9 => omega)) | (with_reducible refine' eqF ?h_z9 ?_; (case h_z9 => omega)) | (with_reducible refine' eqS ?_ ?_ <;> intro hq9)))
    | ((with_reducible show ite _ _ _); (k_here; first | (with_reducible refine' ite_posD ?h_z9 ?_; (case h_z9 => omega)) | (with_reducible refine' ite_negD ?h_z9 ?_; (case h_z9 => omega)) | (with_reducible refine' ite_posE ?h_z9 ?_; (case h_z9 => omega)) | (with_reducible refine' ite_negE ?h_z9 ?_; (case h_z9 => omega)) | (with_reducible refine' ite_posN ?h_z9 ?_; (case h_z9 => omega)) | (with_reducible refine' ite_negN ?h_z9 ?_; (case h_z9 => omega))))
    | ((k_here; (with_reducible show wpAny _ _ (call (Value.ref 223) _) _ _ _); k_dflt (refine wpAny_call ?_; refine' code_cellsG ?k1_z9 ?k2_z9 ?k3_z9 ?k4_z9 ?k5_z9 ?XB_z9 ?TB_z9 ?D_z9 ?T0_z9 ?kA_z9 ?kF_z9 ?kK_z9 ?k6_z9 ?k7_z9 ?k8_z9 ?k9_z9 ?kB_z9 ?kD_z9 ?_ ?c2_z9 ?c3_z9 ?c4_z9; (case kA_z9 => exact rfl); (case kF_z9 => exact rfl); (case kK_z9 => first | assumption | exact rfl); (case k2_z9 => k_asm); (case k1_z9 => k_asm); (case XB_z9 => assumption); (case TB_z9 => assumption); (case D_z9 => assumption); (case T0_z9 => first | assumption | exact KtsTurn.refl); (case k3_z9 => k_asm); (case k4_z9 => k_asm); (case k5_z9 => k_asm); (case k6_z9 => k_is); (case k7_z9 => k_is); (case k8_z9 => ktr_room); (case k9_z9 => exact BindsTo.of_eq rfl); (case kB_z9 => exact rfl); (case kD_z9 => decide +kernel); (case c2_z9 => exact rfl); (case c3_z9 => exact rfl); (case c4_z9 => exact rfl); k_whole; intro g' L' h' tk' cells' FG' F' N' Y' B' X' T' D' l1; (try k_lt l1); k_cells Y'; (try simp only [List.cons_append, List.nil_append] at N'); (try dsimp only); (try k_lift B'); (try k_fold))))
    | ((k_here; (with_reducible show wpAny _ _ (subscriptTail _ _ (Value.ref _) (Value.int 0 _)) _ _ _); k_dflt (refine' item_listL ?l_z9 ?a_z9 ?b_z9 ?x_z9 ?_ ?s_z9 ?g_z9; (case l_z9 => is_list); (case a_z9 => decide); (case b_z9 => decide); (case x_z9 => exact rfl); (case s_z9 => with_unfolding_all rfl); (case g_z9 => intro _; with_unfolding_all rfl); k_whole)))
    | ((k_here; (with_reducible show wpAny _ _ (call (Value.ref 181) _) _ _ _); k_dflt (refine' take_at ?k1_z9 ?k2_z9 ?k3_z9 ?k4_z9 ?k5_z9 ?k6_z9 ?k7_z9 ?k8_z9 ?k9_z9 ?k10_z9 ?k11_z9 ?k12_z9 ?k13_z9 ?_; (case k1_z9 => k_asm); (case k2_z9 => k_asm); (case k3_z9 => k_asm); (case k4_z9 => k_asm); (case k5_z9 => k_updF); (case k6_z9 => k_asm); (case k7_z9 => first | exact rfl | assumption); (case k8_z9 => decide); (case k9_z9 => decide); (case k10_z9 => assumption); (case k11_z9 => assumption); (case k12_z9 => exact Nat.le_of_ble_eq_true rfl); (case k13_z9 => exact Nat.le_of_ble_eq_true rfl); k_whole); intro r' t' a' ta' b' tb' h' tk' hr0' hr1' hb0' hb1' F' N'; (try dsimp only at N'); (try k_sweep)))
    | ((with_reducible show wpAny _ _ (exec (Stmt.For ..) _) _ _ _); (k_here; (with_unfolding_all refine' For_G ?k1_z9 ?k2_z9 ?_; (case k1_z9 => exact rfl); (case k2_z9 => exact rfl); k_whole)))
    | ((with_reducible show wpAny _ _ (eval (Expr.Lambda ..) _) _ _ _); (k_here; k_dflt (refine' kla_eval ?d0_z9 ?_; (case d0_z9 => exact rfl)); (k_dflt (refine' lam_uni ?F_z9 ?N_z9 ?T_z9 ?C_z9 ?cd_z9 ?U_z9 ?t_z9 ?sub_z9 ?off_z9 ?has_z9 ?cl_z9 ?_; (case F_z9 => k_asm); (case N_z9 => k_asm); (case T_z9 => k_asm); (case cd_z9 => exact rfl); (case C_z9 => kn_code); (case U_z9 => k_updF); (case t_z9 => assumption); (case off_z9 => assumption); (case sub_z9 => ((rename SubC _ _ => hs1); intro q9 hq9; repeat (first | exact hs1 q9 hq9 | refine List.Mem.tail _ ?_))); (case has_z9 => (dsimp only [HasAll]; repeat' (first | exact trivial | (refine And.intro ⟨_, by k_mem⟩ ?_) | (refine HasAll.mono ?_ (by assumption); intro q9 hq9; repeat (first | exact hq9 | refine List.Mem.tail _ ?_))))); (case cl_z9 => exact rfl); k_whole); intro f' c' oc' vs' t' ct' h' tk' ps' ht' F' N' d1' d2' lo' l1 l2; (try dsimp only at N'); (have lo2' := lo'); (try dsimp only [OffAs] at lo2'); (try (obtain ⟨lo3', lo4', lo5', lo6', lo7', lo8', lo9', _⟩ := lo2')); (try k_lt l1); (try k_lt2 l2))))
    | ((with_reducible show wpAny _ _ (leaving _ (Value.ref _)) _ _ _); (k_here; first | (refine' leave_firstG ?k1_z9 ?k2_z9 ?k3_z9 ?k4_z9 ?_ ?kf_z9 ?kk_z9; (case kf_z9 => exact rfl); (case kk_z9 => exact rfl); (case k1_z9 => k_asm); (case k2_z9 => k_asm); (case k3_z9 => k_asm); (case k4_z9 => (repeat' (first | with_reducible refine' DropE.head ?_ | refine' DropE.tail ?_ ?_)) <;> (first | k_ne | k_all)); k_whole; intro h' R' U'; (try dsimp only at R' U' ⊢)) | (refine' leave_onG ?k1_z9 ?k2_z9 ?k3_z9 ?k4_z9 ?_ ?kf_z9; (case kf_z9 => exact rfl); (case k3_z9 => assumption); (case k1_z9 => assumption); (case k4_z9 => assumption); (case k2_z9 => assumption); k_whole; intro h' R' U'; (try dsimp only at R' U' ⊢))))
    | ((with_reducible show RaisD _ _ _ _); (k_dflt (refine' RaisD.intro ?kX_z9 ?kN_z9 ?kM_z9 ?kC_z9 ?kB_z9 ?_; (case kX_z9 => k_in); (case kN_z9 => k_asm); (case kM_z9 => k_mem); (case kC_z9 => k_is); (case kB_z9 => rfl); k_whole)))
    | ((with_reducible show wpAny _ _ (exec (Stmt.Raise (some _) none _) _) _ _ _); (k_here; (k_dflt (refine' raise_exc (K := Mine.pre.heap_1_39 _) ?k1_z9 ?k2_z9 ?_; (case k1_z9 => k_in); (case k2_z9 => first | rfl | assumption)))))
    | ((with_reducible show LeaveG _ _ _ _ _ _ _ _ _ _ _ _ _ _ _ _ _); ((k_dflt (refine' leaveG_ ?F_z9 ?N_z9 ?T_z9 ?_; (case F_z9 => k_asm); (case N_z9 => k_asm); (case T_z9 => first | assumption | exact KtsTurn.refl); k_whole)); intro kg kT kF kN kB kX₀ kP kD; (have kX := kFor kF kX₀); (try k_lift kB); kts_tail))
    | (k_end; kc_close)
    | walk1
    | (dsimp only; walk1)
    | (leave1; (try dsimp only))
    | fail "no step")
  rename IsRange _ _ _ _ _ _ _ _ => hr1
  rename Fr _ _ _ _ => F1
  rename News _ _ _ _ => N1
  refine' group_loop (outs := envX cn cs L ca ccd cl :: outer) rfl ?kB XB TB ?kD hr1 ?v0 ?v1 F1 N1 ?d1 ?d2 ?d3 ?mc ?mq ?b1 ?b2 ?f1 ?f2 ?ms ?ord ?turnA ?turnC
  case kB => assumption
  case kD => assumption
  case v0 => assumption
  case v1 => assumption
  case d1 => assumption
  case d2 => assumption
  case d3 => assumption
  case mc => exact rfl
  case ms => exact rfl
  case ord => exact ⟨by omega, by omega, by omega, by omega, by omega, by omega, by omega⟩
  case mq => exact rfl
  case b1 => assumption
  case b2 => assumption
  case f1 => exact ⟨by k_ne, by k_ne, by k_ne, by k_ne, by k_ne, by k_ne, by k_ne, by k_ne, trivial⟩
  case f2 => exact ⟨by k_ne, by k_ne, by k_ne, by k_ne, by k_ne, by k_ne, trivial⟩
  case turnA =>
    clear hret hk
    (repeat (rename Fr _ _ _ _ => z; clear z))
    (repeat (rename News _ _ _ _ => z; clear z))
    (repeat (rename Below _ _ _ _ => z; clear z))
    (repeat (rename KtsDicts _ _ => z; clear z))
    revert XB TB
    (repeat (rename Frag.In _ _ => z; clear z))
    (repeat (rename Top _ _ _ _ _ _ => z; clear z))
    intro XB TB
    (repeat (rename _ ∧ _ => z; clear z))
    intro mz hmz ord i t g h tk I oi c tc tcm qa wl qv wv qi nw nq o1 o2 o3 v2 v3 a ta b tb ps codes tv wy dv ov hG hc iq iw hl hi10 d1 d2 d3 hb hb2 ht f1 f2 hoff hI F N
    obtain ⟨hT, hB, hX, hP, hD⟩ := hG
    have hI2 := hI
    have hf1 := f1
    have hf2 := f2
    have hz1 := iq.length
    have hz2 := iw.length
    have hs0 : SubC codes codes := fun q h => h
    dsimp only [OffAs] at hI2 hf1 hf2
    obtain ⟨ni1, ni2, ni3, ni4, ni5, ni6, ni7, ni8, ni9, ni10, _⟩ := hI2
    obtain ⟨nw1, nw2, nw3, nw4, nw5, nw6, nw7, nw8, _⟩ := hf1
    obtain ⟨nq1, nq2, nq3, nq4, nq5, nq6, _⟩ := hf2
    dsimp only [gMap] at F
    repeat' (first
      | (k_unfold; (try dsimp only))
      | ((with_reducible show wpAny _ _ (execs (_ :: _) _) _ _ _); (refine nrmS (by with_reducible assumption) ?_); intro tk'; refine wpAny_execs_cons ?_)
      | ((with_reducible show wpAny _ _ (call (Value.ref 195) _) _ _ _); (refine' told_spec ?B_z9 ?F_z9 ?N_z9 ?T_z9 ?XB_z9 ?TB_z9 ?D_z9 ?hk_z9 ?hdp_z9 ?hun_z9 ?hcb_z9 ?_ ?X_z9; (case B_z9 => k_asm); (case F_z9 => k_asm); (case N_z9 => k_asm); (case T_z9 => k_asm); (case X_z9 => k_asm); (case XB_z9 => assumption); (case TB_z9 => assumption); (case D_z9 => assumption); (case hk_z9 => first | exact rfl | assumption); (case hdp_z9 => exact Nat.le_of_ble_eq_true rfl); (case hun_z9 => exact Nat.le_of_ble_eq_true rfl); (case hcb_z9 => (intro g9 L9 h9 N9 X9; first | (apply keeps_M2 N9 X9 <;> first | k_mem | k_is) | (apply keeps_F2 N9; k_mem))); intro cn9 ns9 ca9 ccd9 g' L' h' tk' m' l1 F' N' B' X' T' D'; (k_lt l1); (try k_lift B'); (try k_fold)))
      | ((with_reducible show ToldE _ _ _ _ _ _ _ _ _ _ _ _ _ _ _ _ _ _ _ _); (refine' ⟨_, _, _, _, _, _, _, _, rfl, rfl, ?FG_z9, ?U_z9, Or.inl ⟨_, _, _, _, ?gv_z9, RaisedG.keepP ?R_z9, ?_⟩⟩; (case R_z9 => assumption); (case U_z9 => assumption); (case FG_z9 => assumption); (case gv_z9 => first | k_get | exact rfl); (intro g' h' tk' u G' F' N'; obtain ⟨T', B', X', P', D'⟩ := G')))
      | ((with_reducible show wpAny _ _ (call (Value.ref 81) _) _ _ _); (refine' panic_spec ?B_z9 ?F_z9 ?N_z9 ?T_z9 ?hk_z9 ?he_z9 ?hb_z9 ?_ ?X_z9; (case B_z9 => k_asm); (case F_z9 => k_asm); (case N_z9 => k_asm); (case T_z9 => k_asm); (case X_z9 => k_asm); (case hk_z9 => first | exact rfl | assumption); (case he_z9 => first | exact enc1 | exact enc2); (case hb_z9 => decide); k_whole; intro e' t' d' t2' D' h' tk' ta' tb' tc' td' te' u1' u2' u3' F' N' lo' l1 l2; (dsimp only [OffAs] at lo'); (have l3 := fun q hq => Nat.lt_trans (l1 q hq) l2); (k_lt l1); (k_lt l3); (try k_sweep)))
      | ((with_reducible show wpAny _ _ (call (Value.ref 146) _) _ _ _); first | (refine' m_add_zero ?B_z9 ?F_z9 ?N_z9 ?T_z9 ?hk_z9 ?hdp_z9 ?x0_z9 ?x1_z9 ?x2_z9 ?D1_z9 ?D2_z9 ?D3_z9 ?hp_z9 ?_ ?X_z9; (case B_z9 => k_asm); (case F_z9 => k_asm); (case N_z9 => k_asm); (case T_z9 => k_asm); (case X_z9 => k_asm); (case hk_z9 => first | exact rfl | assumption); (case hdp_z9 => exact Nat.le_of_ble_eq_true rfl); (case x0_z9 => k_mem); (case x1_z9 => k_mem); (case x2_z9 => k_mem); (case D1_z9 => ((repeat' ((with_reducible show DropE _ _ _ _); first | with_reducible refine' DropE.head ?_ | with_reducible refine' DropE.tail ?_ ?_)); all_goals (first | ((with_reducible show @Ne _ _ _); k_ne) | k_all))); (case D2_z9 => ((repeat' ((with_reducible show DropE _ _ _ _); first | with_reducible refine' DropE.head ?_ | with_reducible refine' DropE.tail ?_ ?_)); all_goals (first | ((with_reducible show @Ne _ _ _); k_ne) | k_all))); (case D3_z9 => k_mem); (case hp_z9 => omega); k_whole; intro l' tc' h' tk' F' N' fr' of'; (dsimp only [OffAs] at of'); (k_lt fr'); (try k_sweep)) | (refine' m_add_pos ?B_z9 ?F_z9 ?N_z9 ?T_z9 ?hk_z9 ?hdp_z9 ?x0_z9 ?x1_z9 ?x2_z9 ?D1_z9 ?D2_z9 ?D3_z9 ?hp_z9 ?_ ?X_z9; (case B_z9 => k_asm); (case F_z9 => k_asm); (case N_z9 => k_asm); (case T_z9 => k_asm); (case X_z9 => k_asm); (case hk_z9 => first | exact rfl | assumption); (case hdp_z9 => exact Nat.le_of_ble_eq_true rfl); (case x0_z9 => k_mem); (case x1_z9 => k_mem); (case x2_z9 => k_mem); (case D1_z9 => ((repeat' ((with_reducible show DropE _ _ _ _); first | with_reducible refine' DropE.head ?_ | with_reducible refine' DropE.tail ?_ ?_)); all_goals (first | ((with_reducible show @Ne _ _ _); k_ne) | k_all))); (case D2_z9 => ((repeat' ((with_reducible show DropE _ _ _ _); first | with_reducible refine' DropE.head ?_ | with_reducible refine' DropE.tail ?_ ?_)); all_goals (first | ((with_reducible show @Ne _ _ _); k_ne) | k_all))); (case D3_z9 => k_mem); (case hp_z9 => omega); k_whole; intro l' tc' h' tk' F' N' fr' of'; (dsimp only [OffAs] at of'); (k_lt fr'); (try k_sweep)))
      | ((with_reducible show wpAny _ _ (call (Value.ref 160) _) _ _ _); first | (refine' m_wait_free ?B_z9 ?F_z9 ?N_z9 ?T_z9 ?hk_z9 ?hdp_z9 ?x0_z9 ?x1_z9 ?x2_z9 ?D1_z9 ?D2_z9 ?D3_z9 ?hc_z9 ?_ ?X_z9; (case B_z9 => k_asm); (case F_z9 => k_asm); (case N_z9 => k_asm); (case T_z9 => k_asm); (case X_z9 => k_asm); (case hk_z9 => first | exact rfl | assumption); (case hdp_z9 => exact Nat.le_of_ble_eq_true rfl); (case x0_z9 => k_mem); (case x1_z9 => k_mem); (case x2_z9 => k_mem); (case D1_z9 => ((repeat' ((with_reducible show DropE _ _ _ _); first | with_reducible refine' DropE.head ?_ | with_reducible refine' DropE.tail ?_ ?_)); all_goals (first | ((with_reducible show @Ne _ _ _); k_ne) | k_all))); (case D2_z9 => ((repeat' ((with_reducible show DropE _ _ _ _); first | with_reducible refine' DropE.head ?_ | with_reducible refine' DropE.tail ?_ ?_)); all_goals (first | ((with_reducible show @Ne _ _ _); k_ne) | k_all))); (case D3_z9 => k_mem); (case hc_z9 => omega); k_whole; intro h' tk' F' N'; (try simp only [List.nil_append, List.cons_append] at N'); (try k_sweep)) | (refine' m_wait_block ?B_z9 ?F_z9 ?N_z9 ?T_z9 ?hk_z9 ?hdp_z9 ?x0_z9 ?x1_z9 ?x2_z9 ?D1_z9 ?D2_z9 ?D3_z9 ?hc_z9 ?lw_z9 ?_ ?X_z9; (case B_z9 => k_asm); (case F_z9 => k_asm); (case N_z9 => k_asm); (case T_z9 => k_asm); (case X_z9 => k_asm); (case hk_z9 => first | exact rfl | assumption); (case hdp_z9 => exact Nat.le_of_ble_eq_true rfl); (case x0_z9 => k_mem); (case x1_z9 => k_mem); (case x2_z9 => k_mem); (case D1_z9 => ((repeat' ((with_reducible show DropE _ _ _ _); first | with_reducible refine' DropE.head ?_ | with_reducible refine' DropE.tail ?_ ?_)); all_goals (first | ((with_reducible show @Ne _ _ _); k_ne) | k_all))); (case D2_z9 => ((repeat' ((with_reducible show DropE _ _ _ _); first | with_reducible refine' DropE.head ?_ | with_reducible refine' DropE.tail ?_ ?_)); all_goals (first | ((with_reducible show @Ne _ _ _); k_ne) | k_all))); (case D3_z9 => k_mem); (case hc_z9 => omega); (case lw_z9 => first | omega | (simp only [List.length_nil, List.length_cons, List.length_append]; omega)); k_whole; intro h' tk' F' N'; (try simp only [List.nil_append, List.cons_append] at N'); (try k_sweep)))
      | ((k_here; (first | ((with_reducible show wpAny _ _ (callWith _ (Value.ref _) _ (backTo _ (starEach [] _)) []) _ _ _); k_dflt (refine' callWith_K0 ?k1_z9 ?k2_z9 ?_; (case k1_z9 => exact Frag.In.keeps (by with_reducible assumption) (Fr.keep (by with_reducible assumption))); (case k2_z9 => k_is); k_whole)) | ((with_reducible show wpAny _ _ (callWith _ (Value.ref _) _ (backTo _ (starEach (_ :: _) _)) []) _ _ _); k_dflt (refine' callWith_K ?k1_z9 ?k2_z9 ?_; (case k1_z9 => with_reducible assumption); (case k2_z9 => k_is); k_whole)))))
      | ((k_here; first | ((with_reducible show wpAny _ _ (callWith _ (Value.ref _) _ (backTo _ (starEach [] _)) []) _ _ _); k_dflt (first | (refine' callWith_M0 ?k1_z9 ?k2_z9 ?_; (case k1_z9 => k_meth); (case k2_z9 => k_is); k_whole; try dsimp only [List.nil_append, List.cons_append]) | (refine' callWith_F0 ?k1_z9 ?_; (case k1_z9 => exact FnAt.of (by k_asm) (by k_mem)); k_whole; try dsimp only [List.nil_append, List.cons_append]) | (refine' callWith_K0 ?k1_z9 ?k2_z9 ?_; (case k1_z9 => k_in); (case k2_z9 => k_is); k_whole))) | ((with_reducible show wpAny _ _ (callWith _ (Value.ref _) _ (backTo _ (starEach (_ :: _) _)) []) _ _ _); k_dflt (first | (refine' callWith_M ?k1_z9 ?k2_z9 ?k3_z9 ?k4_z9 ?_; (case k1_z9 => k_asm); (case k2_z9 => k_asm); (case k3_z9 => k_mem); (case k4_z9 => k_is); k_whole) | (refine' callWith_F ?k1_z9 ?_; (case k1_z9 => exact FnAt.of (by k_asm) (by k_mem)); k_whole) | (refine' callWith_K ?k1_z9 ?k2_z9 ?_; (case k1_z9 => k_asm); (case k2_z9 => k_is); k_whole)))))
      | ((with_reducible show wpAny _ _ (call (Value.builtin "list.append") _ _) _ _ _); (k_here; k_dflt (refine' appendL ?k1_z9 ?k2_z9 ?k3_z9 ?z_z9 ?_; (case k1_z9 => k_asm); (case k2_z9 => k_asm); (case k3_z9 => k_upd); (case z_z9 => omega); k_whole); intro h' F' N'; (try k_sweep)))
      | ((with_reducible show wpAny _ _ (call (Value.type "int") _ _) _ _ _); (k_here; first | (with_reducible refine intBT ?_) | (with_reducible refine intBF ?_)))
      | ((with_reducible show wpAny _ _ (binaryOp Operator.Add (Value.ref _) (Value.ref _)) _ _ _); (k_here; (k_dflt (first | (refine' addN0 ?F_z9 ?N_z9 ?l_z9 ?b_z9 ?z_z9 ?_; (case F_z9 => k_asm); (case N_z9 => k_asm); (case b_z9 => (apply isl9 <;> first | with_reducible assumption | k_mem)); (case l_z9 => (apply isl9 <;> first | with_reducible assumption | k_mem)); (case z_z9 => omega); k_whole) | (refine' addN1 ?F_z9 ?N_z9 ?l_z9 ?b_z9 ?z_z9 ?_; (case F_z9 => k_asm); (case N_z9 => k_asm); (case b_z9 => (apply isl9 <;> first | with_reducible assumption | k_mem)); (case l_z9 => (apply isl9 <;> first | with_reducible assumption | k_mem)); (case z_z9 => omega); k_whole)); intro D' h' F' N' l1; (try k_lt l1); (try k_sweep))))
      | ((with_reducible show wpAny _ _ (binaryOp Operator.Mult (Value.ref _) (Value.int _ _)) _ _ _); (k_here; (k_dflt (first | ((with_reducible show wpAny _ _ (binaryOp Operator.Mult (Value.ref _) (Value.int 0 _)) _ _ _); refine' mulN0 ?F_z9 ?N_z9 ?l_z9 ?_; (case F_z9 => k_asm); (case N_z9 => k_asm); (case l_z9 => is_list); k_whole) | ((with_reducible show wpAny _ _ (binaryOp Operator.Mult (Value.ref _) (Value.int 1 _)) _ _ _); refine' mulN1 ?F_z9 ?N_z9 ?l_z9 ?_; (case F_z9 => k_asm); (case N_z9 => k_asm); (case l_z9 => is_list); k_whole)); intro D' h' F' N' l1; (try k_lt l1); (try k_sweep))))
      | ((with_reducible show wpAny _ _ (compareOp CmpOp.NotEq (Value.ref _) (Value.ref _)) _ _ _); (k_here; k_dflt (refine' neI ?k1_z9 ?k2_z9 ?k3_z9 ?k4_z9 ?k5_z9 ?k6_z9 ?_; (case k1_z9 => (apply isl9 <;> first | with_reducible assumption | k_mem)); (case k2_z9 => (apply isl9 <;> first | with_reducible assumption | k_mem)); (case k3_z9 => first | with_reducible assumption | with_reducible exact IntsAre.nil | with_reducible exact IntsAre.append (by assumption) (IntsAre.cons _ _ IntsAre.nil)); (case k4_z9 => first | with_reducible assumption | with_reducible exact IntsAre.nil | with_reducible exact IntsAre.append (by assumption) (IntsAre.cons _ _ IntsAre.nil)); (case k5_z9 => ke_room); (case k6_z9 => (first | exact congrArg not (decide_eq_true rfl) | (refine congrArg not (decide_eq_false ?_); (simp; done)) )))))
      | ((with_reducible show wpAny _ _ (compareOp CmpOp.NotEq (Value.int _ _) (Value.int _ _)) _ _ _); (k_here; first | (with_reducible refine' neT ?h_z9 ?_; (case h_z9 => omega)) | (with_reducible refine' neF ?h_z9 ?_; (case h_z9 => omega))))
      | ((with_reducible show wpAny _ _ (compareOp CmpOp.Gt (Value.int _ _) (Value.int _ _)) _ _ _); (k_here; first | (with_reducible refine' gtT ?h_z9 ?_; (case h_z9 => omega)) | (with_reducible refine' gtF ?h_z9 ?_; (case h_z9 => omega)) | (with_reducible refine' gtS ?_ ?_ <;> intro hq9)))
      | ((with_reducible show wpAny _ _ (compareOp CmpOp.Lt (Value.int _ _) (Value.int _ _)) _ _ _); (k_here; first | (with_reducible refine' ltT ?h_z9 ?_; (case h_z9 => omega)) | (with_reducible refine' ltF ?h_z9 ?_; (case h_z9 => omega)) | (with_reducible refine' ltS ?_ ?_ <;> intro hq9)))
      | ((with_reducible show wpAny _ _ (compareOp CmpOp.Eq (Value.int _ _) (Value.int _ _)) _ _ _); (k_here; first | (with_reducible refine' eqT ?h_z9 ?_; (case h_z9 => omega)) | (with_reducible refine' eqF ?h_z9 ?_; (case h_z9 => omega)) | (with_reducible refine' eqS ?_ ?_ <;> intro hq9)))
      | ((with_reducible show ite _ _ _); (k_here; first | (with_reducible refine' ite_posD ?h_z9 ?_; (case h_z9 => omega)) | (with_reducible refine' ite_negD ?h_z9 ?_; (case h_z9 => omega)) | (with_reducible refine' ite_posE ?h_z9 ?_; (case h_z9 => omega)) | (with_reducible refine' ite_negE ?h_z9 ?_; (case h_z9 => omega)) | (with_reducible refine' ite_posN ?h_z9 ?_; (case h_z9 => omega)) | (with_reducible refine' ite_negN ?h_z9 ?_; (case h_z9 => omega))))
      | ((k_here; (with_reducible show wpAny _ _ (call (Value.ref 223) _) _ _ _); k_dflt (refine wpAny_call ?_; refine' code_cellsG ?k1_z9 ?k2_z9 ?k3_z9 ?k4_z9 ?k5_z9 ?XB_z9 ?TB_z9 ?D_z9 ?T0_z9 ?kA_z9 ?kF_z9 ?kK_z9 ?k6_z9 ?k7_z9 ?k8_z9 ?k9_z9 ?kB_z9 ?kD_z9 ?_ ?c2_z9 ?c3_z9 ?c4_z9; (case kA_z9 => exact rfl); (case kF_z9 => exact rfl); (case kK_z9 => first | assumption | exact rfl); (case k2_z9 => k_asm); (case k1_z9 => k_asm); (case XB_z9 => assumption); (case TB_z9 => assumption); (case D_z9 => assumption); (case T0_z9 => first | assumption | exact KtsTurn.refl); (case k3_z9 => k_asm); (case k4_z9 => k_asm); (case k5_z9 => k_asm); (case k6_z9 => k_is); (case k7_z9 => k_is); (case k8_z9 => ktr_room); (case k9_z9 => exact BindsTo.of_eq rfl); (case kB_z9 => exact rfl); (case kD_z9 => decide +kernel); (case c2_z9 => exact rfl); (case c3_z9 => exact rfl); (case c4_z9 => exact rfl); k_whole; intro g' L' h' tk' cells' FG' F' N' Y' B' X' T' D' l1; (try k_lt l1); k_cells Y'; (try simp only [List.cons_append, List.nil_append] at N'); (try dsimp only); (try k_lift B'); (try k_fold))))
      | ((k_here; (with_reducible show wpAny _ _ (subscriptTail _ _ (Value.ref _) (Value.int 0 _)) _ _ _); k_dflt (refine' item_listL ?l_z9 ?a_z9 ?b_z9 ?x_z9 ?_ ?s_z9 ?g_z9; (case l_z9 => is_list); (case a_z9 => decide); (case b_z9 => decide); (case x_z9 => exact rfl); (case s_z9 => with_unfolding_all rfl); (case g_z9 => intro _; with_unfolding_all rfl); k_whole)))
      | ((k_here; (with_reducible show wpAny _ _ (call (Value.ref 181) _) _ _ _); k_dflt (refine' take_at ?k1_z9 ?k2_z9 ?k3_z9 ?k4_z9 ?k5_z9 ?k6_z9 ?k7_z9 ?k8_z9 ?k9_z9 ?k10_z9 ?k11_z9 ?k12_z9 ?k13_z9 ?_; (case k1_z9 => k_asm); (case k2_z9 => k_asm); (case k3_z9 => k_asm); (case k4_z9 => k_asm); (case k5_z9 => k_updF); (case k6_z9 => k_asm); (case k7_z9 => first | exact rfl | assumption); (case k8_z9 => decide); (case k9_z9 => decide); (case k10_z9 => assumption); (case k11_z9 => assumption); (case k12_z9 => exact Nat.le_of_ble_eq_true rfl); (case k13_z9 => exact Nat.le_of_ble_eq_true rfl); k_whole); intro r' t' a' ta' b' tb' h' tk' hr0' hr1' hb0' hb1' F' N'; (try dsimp only at N'); (try k_sweep)))
      | ((with_reducible show wpAny _ _ (exec (Stmt.For ..) _) _ _ _); (k_here; (with_unfolding_all refine' For_G ?k1_z9 ?k2_z9 ?_; (case k1_z9 => exact rfl); (case k2_z9 => exact rfl); k_whole)))
      | ((with_reducible show wpAny _ _ (eval (Expr.Lambda ..) _) _ _ _); (k_here; k_dflt (refine' kla_eval ?d0_z9 ?_; (case d0_z9 => exact rfl)); (k_dflt (refine' lam_uni ?F_z9 ?N_z9 ?T_z9 ?C_z9 ?cd_z9 ?U_z9 ?t_z9 ?sub_z9 ?off_z9 ?has_z9 ?cl_z9 ?_; (case F_z9 => k_asm); (case N_z9 => k_asm); (case T_z9 => k_asm); (case cd_z9 => exact rfl); (case C_z9 => kn_code); (case U_z9 => k_updF); (case t_z9 => assumption); (case off_z9 => assumption); (case sub_z9 => ((rename SubC _ _ => hs1); intro q9 hq9; repeat (first | exact hs1 q9 hq9 | refine List.Mem.tail _ ?_))); (case has_z9 => (dsimp only [HasAll]; repeat' (first | exact trivial | (refine And.intro ⟨_, by k_mem⟩ ?_) | (refine HasAll.mono ?_ (by assumption); intro q9 hq9; repeat (first | exact hq9 | refine List.Mem.tail _ ?_))))); (case cl_z9 => exact rfl); k_whole); intro f' c' oc' vs' t' ct' h' tk' ps' ht' F' N' d1' d2' lo' l1 l2; (try dsimp only at N'); (have lo2' := lo'); (try dsimp only [OffAs] at lo2'); (try (obtain ⟨lo3', lo4', lo5', lo6', lo7', lo8', lo9', _⟩ := lo2')); (try k_lt l1); (try k_lt2 l2))))
      | ((with_reducible show wpAny _ _ (leaving _ (Value.ref _)) _ _ _); (k_here; first | (refine' leave_firstG ?k1_z9 ?k2_z9 ?k3_z9 ?k4_z9 ?_ ?kf_z9 ?kk_z9; (case kf_z9 => exact rfl); (case kk_z9 => exact rfl); (case k1_z9 => k_asm); (case k2_z9 => k_asm); (case k3_z9 => k_asm); (case k4_z9 => (repeat' (first | with_reducible refine' DropE.head ?_ | refine' DropE.tail ?_ ?_)) <;> (first | k_ne | k_all)); k_whole; intro h' R' U'; (try dsimp only at R' U' ⊢)) | (refine' leave_onG ?k1_z9 ?k2_z9 ?k3_z9 ?k4_z9 ?_ ?kf_z9; (case kf_z9 => exact rfl); (case k3_z9 => assumption); (case k1_z9 => assumption); (case k4_z9 => assumption); (case k2_z9 => assumption); k_whole; intro h' R' U'; (try dsimp only at R' U' ⊢))))
      | ((with_reducible show RaisD _ _ _ _); (k_dflt (refine' RaisD.intro ?kX_z9 ?kN_z9 ?kM_z9 ?kC_z9 ?kB_z9 ?_; (case kX_z9 => k_in); (case kN_z9 => k_asm); (case kM_z9 => k_mem); (case kC_z9 => k_is); (case kB_z9 => rfl); k_whole)))
      | ((with_reducible show wpAny _ _ (exec (Stmt.Raise (some _) none _) _) _ _ _); (k_here; (k_dflt (refine' raise_exc (K := Mine.pre.heap_1_39 _) ?k1_z9 ?k2_z9 ?_; (case k1_z9 => k_in); (case k2_z9 => first | rfl | assumption)))))
      | ((with_reducible show LeaveG _ _ _ _ _ _ _ _ _ _ _ _ _ _ _ _ _); ((k_dflt (refine' leaveG_ ?F_z9 ?N_z9 ?T_z9 ?_; (case F_z9 => k_asm); (case N_z9 => k_asm); (case T_z9 => first | assumption | exact KtsTurn.refl); k_whole)); intro kg kT kF kN kB kX₀ kP kD; (have kX := kFor kF kX₀); (try k_lift kB); kts_tail))
      | (k_end; kc_close)
      | walk1
      | (dsimp only; walk1)
      | (leave1; (try dsimp only))
      | fail "no step")
    all_goals (refine' group_end ?F ?T ?ht (news_sub ?N ?sub) ?mc ?mq ?hm ?hc ?iq ?iw ?hl ?d1 ?d2 ?d3 ?b1 ?b2 ?h1 ?h2 ?h3 ?h4 ?hI; (case F => assumption); (case T => first | assumption | exact hT.trans (by assumption)); (case mc => exact rfl); (case mq => exact rfl); (case N => assumption); (case ht => assumption); (case sub => ((repeat (refine' List.forall_mem_cons.mpr ⟨?_, ?_⟩; k_mem)); intro p hp; repeat (first | exact hp | refine' List.Mem.tail _ ?_))); (case hm => (intro y h1 h2 h3 h4 h5 h6; (by_cases h7 : y = Str.ofString "source"); (subst h7; exact hmz.symm); simp only [if_neg h1, if_neg h2, if_neg h3, if_neg h4, if_neg h5, if_neg h6, if_neg h7])); (case hc => omega); (case iq => first | with_reducible assumption | with_reducible exact IntsAre.nil | with_reducible exact IntsAre.append (by assumption) (IntsAre.cons _ _ IntsAre.nil)); (case iw => first | with_reducible assumption | with_reducible exact IntsAre.nil | with_reducible exact IntsAre.append (by assumption) (IntsAre.cons _ _ IntsAre.nil)); (case hl => first | omega | (simp only [List.length_nil, List.length_append, List.length_cons]; omega)); (case d1 => with_reducible assumption); (case d2 => with_reducible assumption); (case d3 => with_reducible assumption); (case b1 => with_reducible assumption); (case b2 => with_reducible assumption); (case h1 => first | with_reducible exact f1 | exact ⟨by k_ne, by k_ne, by k_ne, by k_ne, by k_ne, by k_ne, by k_ne, by k_ne, trivial⟩); (case h2 => first | with_reducible exact f2 | exact ⟨by k_ne, by k_ne, by k_ne, by k_ne, by k_ne, by k_ne, trivial⟩); (case hI => first | with_reducible exact hI | exact ⟨hI.1, hI.2.1, by k_ne, by k_ne, hI.2.2.2.2⟩); (case h3 => first | (refine' own_less hoff ?_; simp; done) | (refine' own_less (OwnOff.cons (by assumption) hoff) ?_; simp; done)); (case h4 => first | (refine' own_less hoff ?_; simp; done) | (refine' own_less (OwnOff.cons (by assumption) hoff) ?_; simp; done) | exact own_one (by k_all)))
  case turnC =>
    intro g h tk m' a ta b tb ps hG hb hb2 F N
    obtain ⟨hT, hB, hX, hP, hD⟩ := hG
    repeat' (first
      | (k_unfold; (try dsimp only))
      | ((with_reducible show wpAny _ _ (execs (_ :: _) _) _ _ _); (refine nrmS (by with_reducible assumption) ?_); intro tk'; refine wpAny_execs_cons ?_)
      | ((with_reducible show wpAny _ _ (call (Value.ref 195) _) _ _ _); (refine' told_spec ?B_z9 ?F_z9 ?N_z9 ?T_z9 ?XB_z9 ?TB_z9 ?D_z9 ?hk_z9 ?hdp_z9 ?hun_z9 ?hcb_z9 ?_ ?X_z9; (case B_z9 => k_asm); (case F_z9 => k_asm); (case N_z9 => k_asm); (case T_z9 => k_asm); (case X_z9 => k_asm); (case XB_z9 => assumption); (case TB_z9 => assumption); (case D_z9 => assumption); (case hk_z9 => first | exact rfl | assumption); (case hdp_z9 => exact Nat.le_of_ble_eq_true rfl); (case hun_z9 => exact Nat.le_of_ble_eq_true rfl); (case hcb_z9 => (intro g9 L9 h9 N9 X9; first | (apply keeps_M2 N9 X9 <;> first | k_mem | k_is) | (apply keeps_F2 N9; k_mem))); intro cn9 ns9 ca9 ccd9 g' L' h' tk' m' l1 F' N' B' X' T' D'; (k_lt l1); (try k_lift B'); (try k_fold)))
      | ((with_reducible show ToldE _ _ _ _ _ _ _ _ _ _ _ _ _ _ _ _ _ _ _ _); (refine' ⟨_, _, _, _, _, _, _, _, rfl, rfl, ?FG_z9, ?U_z9, Or.inl ⟨_, _, _, _, ?gv_z9, RaisedG.keepP ?R_z9, ?_⟩⟩; (case R_z9 => assumption); (case U_z9 => assumption); (case FG_z9 => assumption); (case gv_z9 => first | k_get | exact rfl); (intro g' h' tk' u G' F' N'; obtain ⟨T', B', X', P', D'⟩ := G')))
      | ((with_reducible show wpAny _ _ (call (Value.ref 81) _) _ _ _); (refine' panic_spec ?B_z9 ?F_z9 ?N_z9 ?T_z9 ?hk_z9 ?he_z9 ?hb_z9 ?_ ?X_z9; (case B_z9 => k_asm); (case F_z9 => k_asm); (case N_z9 => k_asm); (case T_z9 => k_asm); (case X_z9 => k_asm); (case hk_z9 => first | exact rfl | assumption); (case he_z9 => first | exact enc1 | exact enc2); (case hb_z9 => decide); k_whole; intro e' t' d' t2' D' h' tk' ta' tb' tc' td' te' u1' u2' u3' F' N' lo' l1 l2; (dsimp only [OffAs] at lo'); (have l3 := fun q hq => Nat.lt_trans (l1 q hq) l2); (k_lt l1); (k_lt l3); (try k_sweep)))
      | ((with_reducible show wpAny _ _ (call (Value.ref 146) _) _ _ _); first | (refine' m_add_zero ?B_z9 ?F_z9 ?N_z9 ?T_z9 ?hk_z9 ?hdp_z9 ?x0_z9 ?x1_z9 ?x2_z9 ?D1_z9 ?D2_z9 ?D3_z9 ?hp_z9 ?_ ?X_z9; (case B_z9 => k_asm); (case F_z9 => k_asm); (case N_z9 => k_asm); (case T_z9 => k_asm); (case X_z9 => k_asm); (case hk_z9 => first | exact rfl | assumption); (case hdp_z9 => exact Nat.le_of_ble_eq_true rfl); (case x0_z9 => k_mem); (case x1_z9 => k_mem); (case x2_z9 => k_mem); (case D1_z9 => ((repeat' ((with_reducible show DropE _ _ _ _); first | with_reducible refine' DropE.head ?_ | with_reducible refine' DropE.tail ?_ ?_)); all_goals (first | ((with_reducible show @Ne _ _ _); k_ne) | k_all))); (case D2_z9 => ((repeat' ((with_reducible show DropE _ _ _ _); first | with_reducible refine' DropE.head ?_ | with_reducible refine' DropE.tail ?_ ?_)); all_goals (first | ((with_reducible show @Ne _ _ _); k_ne) | k_all))); (case D3_z9 => k_mem); (case hp_z9 => omega); k_whole; intro l' tc' h' tk' F' N' fr' of'; (dsimp only [OffAs] at of'); (k_lt fr'); (try k_sweep)) | (refine' m_add_pos ?B_z9 ?F_z9 ?N_z9 ?T_z9 ?hk_z9 ?hdp_z9 ?x0_z9 ?x1_z9 ?x2_z9 ?D1_z9 ?D2_z9 ?D3_z9 ?hp_z9 ?_ ?X_z9; (case B_z9 => k_asm); (case F_z9 => k_asm); (case N_z9 => k_asm); (case T_z9 => k_asm); (case X_z9 => k_asm); (case hk_z9 => first | exact rfl | assumption); (case hdp_z9 => exact Nat.le_of_ble_eq_true rfl); (case x0_z9 => k_mem); (case x1_z9 => k_mem); (case x2_z9 => k_mem); (case D1_z9 => ((repeat' ((with_reducible show DropE _ _ _ _); first | with_reducible refine' DropE.head ?_ | with_reducible refine' DropE.tail ?_ ?_)); all_goals (first | ((with_reducible show @Ne _ _ _); k_ne) | k_all))); (case D2_z9 => ((repeat' ((with_reducible show DropE _ _ _ _); first | with_reducible refine' DropE.head ?_ | with_reducible refine' DropE.tail ?_ ?_)); all_goals (first | ((with_reducible show @Ne _ _ _); k_ne) | k_all))); (case D3_z9 => k_mem); (case hp_z9 => omega); k_whole; intro l' tc' h' tk' F' N' fr' of'; (dsimp only [OffAs] at of'); (k_lt fr'); (try k_sweep)))
      | ((with_reducible show wpAny _ _ (call (Value.ref 160) _) _ _ _); first | (refine' m_wait_free ?B_z9 ?F_z9 ?N_z9 ?T_z9 ?hk_z9 ?hdp_z9 ?x0_z9 ?x1_z9 ?x2_z9 ?D1_z9 ?D2_z9 ?D3_z9 ?hc_z9 ?_ ?X_z9; (case B_z9 => k_asm); (case F_z9 => k_asm); (case N_z9 => k_asm); (case T_z9 => k_asm); (case X_z9 => k_asm); (case hk_z9 => first | exact rfl | assumption); (case hdp_z9 => exact Nat.le_of_ble_eq_true rfl); (case x0_z9 => k_mem); (case x1_z9 => k_mem); (case x2_z9 => k_mem); (case D1_z9 => ((repeat' ((with_reducible show DropE _ _ _ _); first | with_reducible refine' DropE.head ?_ | with_reducible refine' DropE.tail ?_ ?_)); all_goals (first | ((with_reducible show @Ne _ _ _); k_ne) | k_all))); (case D2_z9 => ((repeat' ((with_reducible show DropE _ _ _ _); first | with_reducible refine' DropE.head ?_ | with_reducible refine' DropE.tail ?_ ?_)); all_goals (first | ((with_reducible show @Ne _ _ _); k_ne) | k_all))); (case D3_z9 => k_mem); (case hc_z9 => omega); k_whole; intro h' tk' F' N'; (try simp only [List.nil_append, List.cons_append] at N'); (try k_sweep)) | (refine' m_wait_block ?B_z9 ?F_z9 ?N_z9 ?T_z9 ?hk_z9 ?hdp_z9 ?x0_z9 ?x1_z9 ?x2_z9 ?D1_z9 ?D2_z9 ?D3_z9 ?hc_z9 ?lw_z9 ?_ ?X_z9; (case B_z9 => k_asm); (case F_z9 => k_asm); (case N_z9 => k_asm); (case T_z9 => k_asm); (case X_z9 => k_asm); (case hk_z9 => first | exact rfl | assumption); (case hdp_z9 => exact Nat.le_of_ble_eq_true rfl); (case x0_z9 => k_mem); (case x1_z9 => k_mem); (case x2_z9 => k_mem); (case D1_z9 => ((repeat' ((with_reducible show DropE _ _ _ _); first | with_reducible refine' DropE.head ?_ | with_reducible refine' DropE.tail ?_ ?_)); all_goals (first | ((with_reducible show @Ne _ _ _); k_ne) | k_all))); (case D2_z9 => ((repeat' ((with_reducible show DropE _ _ _ _); first | with_reducible refine' DropE.head ?_ | with_reducible refine' DropE.tail ?_ ?_)); all_goals (first | ((with_reducible show @Ne _ _ _); k_ne) | k_all))); (case D3_z9 => k_mem); (case hc_z9 => omega); (case lw_z9 => first | omega | (simp only [List.length_nil, List.length_cons, List.length_append]; omega)); k_whole; intro h' tk' F' N'; (try simp only [List.nil_append, List.cons_append] at N'); (try k_sweep)))
      | ((k_here; (first | ((with_reducible show wpAny _ _ (callWith _ (Value.ref _) _ (backTo _ (starEach [] _)) []) _ _ _); k_dflt (refine' callWith_K0 ?k1_z9 ?k2_z9 ?_; (case k1_z9 => exact Frag.In.keeps (by with_reducible assumption) (Fr.keep (by with_reducible assumption))); (case k2_z9 => k_is); k_whole)) | ((with_reducible show wpAny _ _ (callWith _ (Value.ref _) _ (backTo _ (starEach (_ :: _) _)) []) _ _ _); k_dflt (refine' callWith_K ?k1_z9 ?k2_z9 ?_; (case k1_z9 => with_reducible assumption); (case k2_z9 => k_is); k_whole)))))
      | ((k_here; first | ((with_reducible show wpAny _ _ (callWith _ (Value.ref _) _ (backTo _ (starEach [] _)) []) _ _ _); k_dflt (first | (refine' callWith_M0 ?k1_z9 ?k2_z9 ?_; (case k1_z9 => k_meth); (case k2_z9 => k_is); k_whole; try dsimp only [List.nil_append, List.cons_append]) | (refine' callWith_F0 ?k1_z9 ?_; (case k1_z9 => exact FnAt.of (by k_asm) (by k_mem)); k_whole; try dsimp only [List.nil_append, List.cons_append]) | (refine' callWith_K0 ?k1_z9 ?k2_z9 ?_; (case k1_z9 => k_in); (case k2_z9 => k_is); k_whole))) | ((with_reducible show wpAny _ _ (callWith _ (Value.ref _) _ (backTo _ (starEach (_ :: _) _)) []) _ _ _); k_dflt (first | (refine' callWith_M ?k1_z9 ?k2_z9 ?k3_z9 ?k4_z9 ?_; (case k1_z9 => k_asm); (case k2_z9 => k_asm); (case k3_z9 => k_mem); (case k4_z9 => k_is); k_whole) | (refine' callWith_F ?k1_z9 ?_; (case k1_z9 => exact FnAt.of (by k_asm) (by k_mem)); k_whole) | (refine' callWith_K ?k1_z9 ?k2_z9 ?_; (case k1_z9 => k_asm); (case k2_z9 => k_is); k_whole)))))
      | ((with_reducible show wpAny _ _ (call (Value.builtin "list.append") _ _) _ _ _); (k_here; k_dflt (refine' appendL ?k1_z9 ?k2_z9 ?k3_z9 ?z_z9 ?_; (case k1_z9 => k_asm); (case k2_z9 => k_asm); (case k3_z9 => k_upd); (case z_z9 => omega); k_whole); intro h' F' N'; (try k_sweep)))
      | ((with_reducible show wpAny _ _ (call (Value.type "int") _ _) _ _ _); (k_here; first | (with_reducible refine intBT ?_) | (with_reducible refine intBF ?_)))
      | ((with_reducible show wpAny _ _ (binaryOp Operator.Add (Value.ref _) (Value.ref _)) _ _ _); (k_here; (k_dflt (first | (refine' addN0 ?F_z9 ?N_z9 ?l_z9 ?b_z9 ?z_z9 ?_; (case F_z9 => k_asm); (case N_z9 => k_asm); (case b_z9 => (apply isl9 <;> first | with_reducible assumption | k_mem)); (case l_z9 => (apply isl9 <;> first | with_reducible assumption | k_mem)); (case z_z9 => omega); k_whole) | (refine' addN1 ?F_z9 ?N_z9 ?l_z9 ?b_z9 ?z_z9 ?_; (case F_z9 => k_asm); (case N_z9 => k_asm); (case b_z9 => (apply isl9 <;> first | with_reducible assumption | k_mem)); (case l_z9 => (apply isl9 <;> first | with_reducible assumption | k_mem)); (case z_z9 => omega); k_whole)); intro D' h' F' N' l1; (try k_lt l1); (try k_sweep))))
      | ((with_reducible show wpAny _ _ (binaryOp Operator.Mult (Value.ref _) (Value.int _ _)) _ _ _); (k_here; (k_dflt (first | ((with_reducible show wpAny _ _ (binaryOp Operator.Mult (Value.ref _) (Value.int 0 _)) _ _ _); refine' mulN0 ?F_z9 ?N_z9 ?l_z9 ?_; (case F_z9 => k_asm); (case N_z9 => k_asm); (case l_z9 => is_list); k_whole) | ((with_reducible show wpAny _ _ (binaryOp Operator.Mult (Value.ref _) (Value.int 1 _)) _ _ _); refine' mulN1 ?F_z9 ?N_z9 ?l_z9 ?_; (case F_z9 => k_asm); (case N_z9 => k_asm); (case l_z9 => is_list); k_whole)); intro D' h' F' N' l1; (try k_lt l1); (try k_sweep))))
      | ((with_reducible show wpAny _ _ (compareOp CmpOp.NotEq (Value.ref _) (Value.ref _)) _ _ _); (k_here; k_dflt (refine' neI ?k1_z9 ?k2_z9 ?k3_z9 ?k4_z9 ?k5_z9 ?k6_z9 ?_; (case k1_z9 => (apply isl9 <;> first | with_reducible assumption | k_mem)); (case k2_z9 => (apply isl9 <;> first | with_reducible assumption | k_mem)); (case k3_z9 => first | with_reducible assumption | with_reducible exact IntsAre.nil | with_reducible exact IntsAre.append (by assumption) (IntsAre.cons _ _ IntsAre.nil)); (case k4_z9 => first | with_reducible assumption | with_reducible exact IntsAre.nil | with_reducible exact IntsAre.append (by assumption) (IntsAre.cons _ _ IntsAre.nil)); (case k5_z9 => ke_room); (case k6_z9 => (first | exact congrArg not (decide_eq_true rfl) | (refine congrArg not (decide_eq_false ?_); (simp; done)) )))))
      | ((with_reducible show wpAny _ _ (compareOp CmpOp.NotEq (Value.int _ _) (Value.int _ _)) _ _ _); (k_here; first | (with_reducible refine' neT ?h_z9 ?_; (case h_z9 => omega)) | (with_reducible refine' neF ?h_z9 ?_; (case h_z9 => omega))))
      | ((with_reducible show wpAny _ _ (compareOp CmpOp.Gt (Value.int _ _) (Value.int _ _)) _ _ _); (k_here; first | (with_reducible refine' gtT ?h_z9 ?_; (case h_z9 => omega)) | (with_reducible refine' gtF ?h_z9 ?_; (case h_z9 => omega)) | (with_reducible refine' gtS ?_ ?_ <;> intro hq9)))
      | ((with_reducible show wpAny _ _ (compareOp CmpOp.Lt (Value.int _ _) (Value.int _ _)) _ _ _); (k_here; first | (with_reducible refine' ltT ?h_z9 ?_; (case h_z9 => omega)) | (with_reducible refine' ltF ?h_z9 ?_; (case h_z9 => omega)) | (with_reducible refine' ltS ?_ ?_ <;> intro hq9)))
      | ((with_reducible show wpAny _ _ (compareOp CmpOp.Eq (Value.int _ _) (Value.int _ _)) _ _ _); (k_here; first | (with_reducible refine' eqT ?h_z9 ?_; (case h_z9 => omega)) | (with_reducible refine' eqF ?h_z9 ?_; (case h_z9 => omega)) | (with_reducible refine' eqS ?_ ?_ <;> intro hq9)))
      | ((with_reducible show ite _ _ _); (k_here; first | (with_reducible refine' ite_posD ?h_z9 ?_; (case h_z9 => omega)) | (with_reducible refine' ite_negD ?h_z9 ?_; (case h_z9 => omega)) | (with_reducible refine' ite_posE ?h_z9 ?_; (case h_z9 => omega)) | (with_reducible refine' ite_negE ?h_z9 ?_; (case h_z9 => omega)) | (with_reducible refine' ite_posN ?h_z9 ?_; (case h_z9 => omega)) | (with_reducible refine' ite_negN ?h_z9 ?_; (case h_z9 => omega))))
      | ((k_here; (with_reducible show wpAny _ _ (call (Value.ref 223) _) _ _ _); k_dflt (refine wpAny_call ?_; refine' code_cellsG ?k1_z9 ?k2_z9 ?k3_z9 ?k4_z9 ?k5_z9 ?XB_z9 ?TB_z9 ?D_z9 ?T0_z9 ?kA_z9 ?kF_z9 ?kK_z9 ?k6_z9 ?k7_z9 ?k8_z9 ?k9_z9 ?kB_z9 ?kD_z9 ?_ ?c2_z9 ?c3_z9 ?c4_z9; (case kA_z9 => exact rfl); (case kF_z9 => exact rfl); (case kK_z9 => first | assumption | exact rfl); (case k2_z9 => k_asm); (case k1_z9 => k_asm); (case XB_z9 => assumption); (case TB_z9 => assumption); (case D_z9 => assumption); (case T0_z9 => first | assumption | exact KtsTurn.refl); (case k3_z9 => k_asm); (case k4_z9 => k_asm); (case k5_z9 => k_asm); (case k6_z9 => k_is); (case k7_z9 => k_is); (case k8_z9 => ktr_room); (case k9_z9 => exact BindsTo.of_eq rfl); (case kB_z9 => exact rfl); (case kD_z9 => decide +kernel); (case c2_z9 => exact rfl); (case c3_z9 => exact rfl); (case c4_z9 => exact rfl); k_whole; intro g' L' h' tk' cells' FG' F' N' Y' B' X' T' D' l1; (try k_lt l1); k_cells Y'; (try simp only [List.cons_append, List.nil_append] at N'); (try dsimp only); (try k_lift B'); (try k_fold))))
      | ((k_here; (with_reducible show wpAny _ _ (subscriptTail _ _ (Value.ref _) (Value.int 0 _)) _ _ _); k_dflt (refine' item_listL ?l_z9 ?a_z9 ?b_z9 ?x_z9 ?_ ?s_z9 ?g_z9; (case l_z9 => is_list); (case a_z9 => decide); (case b_z9 => decide); (case x_z9 => exact rfl); (case s_z9 => with_unfolding_all rfl); (case g_z9 => intro _; with_unfolding_all rfl); k_whole)))
      | ((k_here; (with_reducible show wpAny _ _ (call (Value.ref 181) _) _ _ _); k_dflt (refine' take_at ?k1_z9 ?k2_z9 ?k3_z9 ?k4_z9 ?k5_z9 ?k6_z9 ?k7_z9 ?k8_z9 ?k9_z9 ?k10_z9 ?k11_z9 ?k12_z9 ?k13_z9 ?_; (case k1_z9 => k_asm); (case k2_z9 => k_asm); (case k3_z9 => k_asm); (case k4_z9 => k_asm); (case k5_z9 => k_updF); (case k6_z9 => k_asm); (case k7_z9 => first | exact rfl | assumption); (case k8_z9 => decide); (case k9_z9 => decide); (case k10_z9 => assumption); (case k11_z9 => assumption); (case k12_z9 => exact Nat.le_of_ble_eq_true rfl); (case k13_z9 => exact Nat.le_of_ble_eq_true rfl); k_whole); intro r' t' a' ta' b' tb' h' tk' hr0' hr1' hb0' hb1' F' N'; (try dsimp only at N'); (try k_sweep)))
      | ((with_reducible show wpAny _ _ (exec (Stmt.For ..) _) _ _ _); (k_here; (with_unfolding_all refine' For_G ?k1_z9 ?k2_z9 ?_; (case k1_z9 => exact rfl); (case k2_z9 => exact rfl); k_whole)))
      | ((with_reducible show wpAny _ _ (eval (Expr.Lambda ..) _) _ _ _); (k_here; k_dflt (refine' kla_eval ?d0_z9 ?_; (case d0_z9 => exact rfl)); (k_dflt (refine' lam_uni ?F_z9 ?N_z9 ?T_z9 ?C_z9 ?cd_z9 ?U_z9 ?t_z9 ?sub_z9 ?off_z9 ?has_z9 ?cl_z9 ?_; (case F_z9 => k_asm); (case N_z9 => k_asm); (case T_z9 => k_asm); (case cd_z9 => exact rfl); (case C_z9 => kn_code); (case U_z9 => k_updF); (case t_z9 => assumption); (case off_z9 => assumption); (case sub_z9 => ((rename SubC _ _ => hs1); intro q9 hq9; repeat (first | exact hs1 q9 hq9 | refine List.Mem.tail _ ?_))); (case has_z9 => (dsimp only [HasAll]; repeat' (first | exact trivial | (refine And.intro ⟨_, by k_mem⟩ ?_) | (refine HasAll.mono ?_ (by assumption); intro q9 hq9; repeat (first | exact hq9 | refine List.Mem.tail _ ?_))))); (case cl_z9 => exact rfl); k_whole); intro f' c' oc' vs' t' ct' h' tk' ps' ht' F' N' d1' d2' lo' l1 l2; (try dsimp only at N'); (have lo2' := lo'); (try dsimp only [OffAs] at lo2'); (try (obtain ⟨lo3', lo4', lo5', lo6', lo7', lo8', lo9', _⟩ := lo2')); (try k_lt l1); (try k_lt2 l2))))
      | ((with_reducible show wpAny _ _ (leaving _ (Value.ref _)) _ _ _); (k_here; first | (refine' leave_firstG ?k1_z9 ?k2_z9 ?k3_z9 ?k4_z9 ?_ ?kf_z9 ?kk_z9; (case kf_z9 => exact rfl); (case kk_z9 => exact rfl); (case k1_z9 => k_asm); (case k2_z9 => k_asm); (case k3_z9 => k_asm); (case k4_z9 => (repeat' (first | with_reducible refine' DropE.head ?_ | refine' DropE.tail ?_ ?_)) <;> (first | k_ne | k_all)); k_whole; intro h' R' U'; (try dsimp only at R' U' ⊢)) | (refine' leave_onG ?k1_z9 ?k2_z9 ?k3_z9 ?k4_z9 ?_ ?kf_z9; (case kf_z9 => exact rfl); (case k3_z9 => assumption); (case k1_z9 => assumption); (case k4_z9 => assumption); (case k2_z9 => assumption); k_whole; intro h' R' U'; (try dsimp only at R' U' ⊢))))
      | ((with_reducible show RaisD _ _ _ _); (k_dflt (refine' RaisD.intro ?kX_z9 ?kN_z9 ?kM_z9 ?kC_z9 ?kB_z9 ?_; (case kX_z9 => k_in); (case kN_z9 => k_asm); (case kM_z9 => k_mem); (case kC_z9 => k_is); (case kB_z9 => rfl); k_whole)))
      | ((with_reducible show wpAny _ _ (exec (Stmt.Raise (some _) none _) _) _ _ _); (k_here; (k_dflt (refine' raise_exc (K := Mine.pre.heap_1_39 _) ?k1_z9 ?k2_z9 ?_; (case k1_z9 => k_in); (case k2_z9 => first | rfl | assumption)))))
      | ((with_reducible show LeaveG _ _ _ _ _ _ _ _ _ _ _ _ _ _ _ _ _); ((k_dflt (refine' leaveG_ ?F_z9 ?N_z9 ?T_z9 ?_; (case F_z9 => k_asm); (case N_z9 => k_asm); (case T_z9 => first | assumption | exact KtsTurn.refl); k_whole)); intro kg kT kF kN kB kX₀ kP kD; (have kX := kFor kF kX₀); (try k_lift kB); kts_tail))
      | (k_end; kc_close)
      | walk1
      | (dsimp only; walk1)
      | (leave1; (try dsimp only))
      | fail "no step")
    all_goals (refine' hret _ _ _ ?a ?ta ?b ?tb ?ps (by assumption) ?b1 ?b2 (by assumption) (news_sub (by assumption) ?sub); (case sub => ((repeat (refine' List.forall_mem_cons.mpr ⟨?_, ?_⟩; k_mem)); exact fun _ h => nomatch h)); (case b1 => assumption); (case b2 => assumption))
set_option maxRecDepth 100000 in
set_option maxHeartbeats 8000000 in
theorem fixed_right_spec {w : World} {p : Program} {loose : List Str} {mean : ExcName → Option Value} {mg mb : Str → Option Value} {news : List (Addr × Obj)}
    {gd : Option (List Code)} {cn : Str} {cs : Scope} {ca : Addr} {ccd : Value} {cl : List (Str × Addr)} {outer : List Env} {A₀ : Around} {base h₀ : Heap} {L : Addr} {m : Str → Option Value} {s : Shared} {Q E : Value → Shared → Prop}
    (B : Below A₀ base outer h₀) (F : Fr h₀ L s.heap m)
    (N : News h₀ L s.heap news) (T : Top p loose mean mg mb h₀) (hk : cs.kind = .function)
    (hret : ∀ h' tk, Fr h₀ L h' m → News h₀ L h' news → Q (.bool true) { s with heap := h', toks := tk }) :
    (Mine.pre.heap_1_39 w.params).In h₀ → wpAny (model PySem.Challenge.rw_on0004_01.row.prog w) (ktrTop 302 7 gd cn cs L ca ccd cl outer) (call (.ref 230) []) Q E s := by
  k_fill
  intro X
  refine wpAny_call ?_
  k_dflt cell_enter
  repeat' (first
    | (k_unfold; (try dsimp only))
    | ((with_reducible show wpAny _ _ (execs (_ :: _) _) _ _ _); (refine nrmS (by with_reducible assumption) ?_); intro tk'; refine wpAny_execs_cons ?_)
    | ((with_reducible show wpAny _ _ (call (Value.ref 111) _) _ _ _); first | (refine' m_lock_free ?B_z9 ?F_z9 ?N_z9 ?T_z9 ?hk_z9 ?hdp_z9 ?hun_z9 ?x0_z9 ?x1_z9 ?x2_z9 ?D1_z9 ?D2_z9 ?D3_z9  ?_ ?X_z9; (case B_z9 => k_asm); (case F_z9 => k_asm); (case N_z9 => k_asm); (case T_z9 => k_asm); (case X_z9 => k_asm); (case hk_z9 => first | exact rfl | assumption); (case hdp_z9 => exact Nat.le_of_ble_eq_true rfl); (case hun_z9 => exact Nat.le_of_ble_eq_true rfl); (case x0_z9 => k_mem); (case x1_z9 => k_mem); (case x2_z9 => k_mem); (case D1_z9 => ((repeat' ((with_reducible show DropE _ _ _ _); first | with_reducible refine' DropE.head ?_ | with_reducible refine' DropE.tail ?_ ?_)); all_goals (first | ((with_reducible show @Ne _ _ _); k_ne) | k_all))); (case D2_z9 => ((repeat' ((with_reducible show DropE _ _ _ _); first | with_reducible refine' DropE.head ?_ | with_reducible refine' DropE.tail ?_ ?_)); all_goals (first | ((with_reducible show @Ne _ _ _); k_ne) | k_all))); (case D3_z9 => k_mem);  k_whole; intro h' tk' F' N'; (try simp only [List.nil_append, List.cons_append] at N'); (try k_sweep)) | (refine' m_lock_wait ?B_z9 ?F_z9 ?N_z9 ?T_z9 ?hk_z9 ?hdp_z9 ?hun_z9 ?x0_z9 ?x1_z9 ?x2_z9 ?D1_z9 ?D2_z9 ?D3_z9 ?iw_z9 ?lw_z9 ?hin_z9 ?_ ?X_z9; (case B_z9 => k_asm); (case F_z9 => k_asm); (case N_z9 => k_asm); (case T_z9 => k_asm); (case X_z9 => k_asm); (case hk_z9 => first | exact rfl | assumption); (case hdp_z9 => exact Nat.le_of_ble_eq_true rfl); (case hun_z9 => exact Nat.le_of_ble_eq_true rfl); (case x0_z9 => k_mem); (case x1_z9 => k_mem); (case x2_z9 => k_mem); (case D1_z9 => ((repeat' ((with_reducible show DropE _ _ _ _); first | with_reducible refine' DropE.head ?_ | with_reducible refine' DropE.tail ?_ ?_)); all_goals (first | ((with_reducible show @Ne _ _ _); k_ne) | k_all))); (case D2_z9 => ((repeat' ((with_reducible show DropE _ _ _ _); first | with_reducible refine' DropE.head ?_ | with_reducible refine' DropE.tail ?_ ?_)); all_goals (first | ((with_reducible show @Ne _ _ _); k_ne) | k_all))); (case D3_z9 => k_mem); (case iw_z9 => first | with_reducible assumption | exact IntsAre.nil | exact IntsAre.cons _ _ IntsAre.nil | exact IntsAre.cons _ _ (IntsAre.cons _ _ IntsAre.nil) | exact IntsAre.cons _ _ (IntsAre.cons _ _ (IntsAre.cons _ _ IntsAre.nil))); (case lw_z9 => first | omega | (simp only [List.length_nil, List.length_cons, List.length_append]; omega)); (case hin_z9 => first | with_reducible assumption | exact rfl | decide); k_whole; intro h' tk' F' N'; (try simp only [List.nil_append, List.cons_append] at N'); (try k_sweep)))
    | ((with_reducible show wpAny _ _ (call (Value.ref 118) _) _ _ _); first | (refine' m_unlock_one ?B_z9 ?F_z9 ?N_z9 ?T_z9 ?hk_z9 ?hdp_z9 ?hun_z9 ?x0_z9 ?x1_z9 ?x2_z9 ?D1_z9 ?D2_z9 ?D3_z9  ?_ ?X_z9; (case B_z9 => k_asm); (case F_z9 => k_asm); (case N_z9 => k_asm); (case T_z9 => k_asm); (case X_z9 => k_asm); (case hk_z9 => first | exact rfl | assumption); (case hdp_z9 => exact Nat.le_of_ble_eq_true rfl); (case hun_z9 => exact Nat.le_of_ble_eq_true rfl); (case x0_z9 => k_mem); (case x1_z9 => k_mem); (case x2_z9 => k_mem); (case D1_z9 => ((repeat' ((with_reducible show DropE _ _ _ _); first | with_reducible refine' DropE.head ?_ | with_reducible refine' DropE.tail ?_ ?_)); all_goals (first | ((with_reducible show @Ne _ _ _); k_ne) | k_all))); (case D2_z9 => ((repeat' ((with_reducible show DropE _ _ _ _); first | with_reducible refine' DropE.head ?_ | with_reducible refine' DropE.tail ?_ ?_)); all_goals (first | ((with_reducible show @Ne _ _ _); k_ne) | k_all))); (case D3_z9 => k_mem);  k_whole; intro h' tk' F' N'; (try simp only [List.nil_append, List.cons_append] at N'); (try k_sweep)) | (refine' m_unlock_more ?B_z9 ?F_z9 ?N_z9 ?T_z9 ?hk_z9 ?hdp_z9 ?hun_z9 ?x0_z9 ?x1_z9 ?x2_z9 ?D1_z9 ?D2_z9 ?D3_z9 ?iw_z9 ?lw_z9 ?_ ?X_z9; (case B_z9 => k_asm); (case F_z9 => k_asm); (case N_z9 => k_asm); (case T_z9 => k_asm); (case X_z9 => k_asm); (case hk_z9 => first | exact rfl | assumption); (case hdp_z9 => exact Nat.le_of_ble_eq_true rfl); (case hun_z9 => exact Nat.le_of_ble_eq_true rfl); (case x0_z9 => k_mem); (case x1_z9 => k_mem); (case x2_z9 => k_mem); (case D1_z9 => ((repeat' ((with_reducible show DropE _ _ _ _); first | with_reducible refine' DropE.head ?_ | with_reducible refine' DropE.tail ?_ ?_)); all_goals (first | ((with_reducible show @Ne _ _ _); k_ne) | k_all))); (case D2_z9 => ((repeat' ((with_reducible show DropE _ _ _ _); first | with_reducible refine' DropE.head ?_ | with_reducible refine' DropE.tail ?_ ?_)); all_goals (first | ((with_reducible show @Ne _ _ _); k_ne) | k_all))); (case D3_z9 => k_mem); (case iw_z9 => first | with_reducible assumption | exact IntsAre.nil | exact IntsAre.cons _ _ IntsAre.nil | exact IntsAre.cons _ _ (IntsAre.cons _ _ IntsAre.nil) | exact IntsAre.cons _ _ (IntsAre.cons _ _ (IntsAre.cons _ _ IntsAre.nil))); (case lw_z9 => first | omega | (simp only [List.length_nil, List.length_cons, List.length_append]; omega)); k_whole; intro h' tk' F' N'; (try simp only [List.nil_append, List.cons_append] at N'); (try k_sweep)))
    | ((with_reducible show wpAny _ _ (call (Value.ref 146) _) _ _ _); first | (refine' m_add_zero ?B_z9 ?F_z9 ?N_z9 ?T_z9 ?hk_z9 ?hdp_z9 ?x0_z9 ?x1_z9 ?x2_z9 ?D1_z9 ?D2_z9 ?D3_z9 ?hp_z9 ?_ ?X_z9; (case B_z9 => k_asm); (case F_z9 => k_asm); (case N_z9 => k_asm); (case T_z9 => k_asm); (case X_z9 => k_asm); (case hk_z9 => first | exact rfl | assumption); (case hdp_z9 => exact Nat.le_of_ble_eq_true rfl); (case x0_z9 => k_mem); (case x1_z9 => k_mem); (case x2_z9 => k_mem); (case D1_z9 => ((repeat' ((with_reducible show DropE _ _ _ _); first | with_reducible refine' DropE.head ?_ | with_reducible refine' DropE.tail ?_ ?_)); all_goals (first | ((with_reducible show @Ne _ _ _); k_ne) | k_all))); (case D2_z9 => ((repeat' ((with_reducible show DropE _ _ _ _); first | with_reducible refine' DropE.head ?_ | with_reducible refine' DropE.tail ?_ ?_)); all_goals (first | ((with_reducible show @Ne _ _ _); k_ne) | k_all))); (case D3_z9 => k_mem); (case hp_z9 => omega); k_whole; intro l' tc' h' tk' F' N' fr' of'; (dsimp only [OffAs] at of'); (k_lt fr'); (try k_sweep)) | (refine' m_add_pos ?B_z9 ?F_z9 ?N_z9 ?T_z9 ?hk_z9 ?hdp_z9 ?x0_z9 ?x1_z9 ?x2_z9 ?D1_z9 ?D2_z9 ?D3_z9 ?hp_z9 ?_ ?X_z9; (case B_z9 => k_asm); (case F_z9 => k_asm); (case N_z9 => k_asm); (case T_z9 => k_asm); (case X_z9 => k_asm); (case hk_z9 => first | exact rfl | assumption); (case hdp_z9 => exact Nat.le_of_ble_eq_true rfl); (case x0_z9 => k_mem); (case x1_z9 => k_mem); (case x2_z9 => k_mem); (case D1_z9 => ((repeat' ((with_reducible show DropE _ _ _ _); first | with_reducible refine' DropE.head ?_ | with_reducible refine' DropE.tail ?_ ?_)); all_goals (first | ((with_reducible show @Ne _ _ _); k_ne) | k_all))); (case D2_z9 => ((repeat' ((with_reducible show DropE _ _ _ _); first | with_reducible refine' DropE.head ?_ | with_reducible refine' DropE.tail ?_ ?_)); all_goals (first | ((with_reducible show @Ne _ _ _); k_ne) | k_all))); (case D3_z9 => k_mem); (case hp_z9 => omega); k_whole; intro l' tc' h' tk' F' N' fr' of'; (dsimp only [OffAs] at of'); (k_lt fr'); (try k_sweep)))
    | ((with_reducible show wpAny _ _ (call (Value.ref 160) _) _ _ _); first | (refine' m_wait_free ?B_z9 ?F_z9 ?N_z9 ?T_z9 ?hk_z9 ?hdp_z9 ?x0_z9 ?x1_z9 ?x2_z9 ?D1_z9 ?D2_z9 ?D3_z9 ?hc_z9 ?_ ?X_z9; (case B_z9 => k_asm); (case F_z9 => k_asm); (case N_z9 => k_asm); (case T_z9 => k_asm); (case X_z9 => k_asm); (case hk_z9 => first | exact rfl | assumption); (case hdp_z9 => exact Nat.le_of_ble_eq_true rfl); (case x0_z9 => k_mem); (case x1_z9 => k_mem); (case x2_z9 => k_mem); (case D1_z9 => ((repeat' ((with_reducible show DropE _ _ _ _); first | with_reducible refine' DropE.head ?_ | with_reducible refine' DropE.tail ?_ ?_)); all_goals (first | ((with_reducible show @Ne _ _ _); k_ne) | k_all))); (case D2_z9 => ((repeat' ((with_reducible show DropE _ _ _ _); first | with_reducible refine' DropE.head ?_ | with_reducible refine' DropE.tail ?_ ?_)); all_goals (first | ((with_reducible show @Ne _ _ _); k_ne) | k_all))); (case D3_z9 => k_mem); (case hc_z9 => omega); k_whole; intro h' tk' F' N'; (try simp only [List.nil_append, List.cons_append] at N'); (try k_sweep)) | (refine' m_wait_block ?B_z9 ?F_z9 ?N_z9 ?T_z9 ?hk_z9 ?hdp_z9 ?x0_z9 ?x1_z9 ?x2_z9 ?D1_z9 ?D2_z9 ?D3_z9 ?hc_z9 ?lw_z9 ?_ ?X_z9; (case B_z9 => k_asm); (case F_z9 => k_asm); (case N_z9 => k_asm); (case T_z9 => k_asm); (case X_z9 => k_asm); (case hk_z9 => first | exact rfl | assumption); (case hdp_z9 => exact Nat.le_of_ble_eq_true rfl); (case x0_z9 => k_mem); (case x1_z9 => k_mem); (case x2_z9 => k_mem); (case D1_z9 => ((repeat' ((with_reducible show DropE _ _ _ _); first | with_reducible refine' DropE.head ?_ | with_reducible refine' DropE.tail ?_ ?_)); all_goals (first | ((with_reducible show @Ne _ _ _); k_ne) | k_all))); (case D2_z9 => ((repeat' ((with_reducible show DropE _ _ _ _); first | with_reducible refine' DropE.head ?_ | with_reducible refine' DropE.tail ?_ ?_)); all_goals (first | ((with_reducible show @Ne _ _ _); k_ne) | k_all))); (case D3_z9 => k_mem); (case hc_z9 => omega); (case lw_z9 => first | omega | (simp only [List.length_nil, List.length_cons, List.length_append]; omega)); k_whole; intro h' tk' F' N'; (try simp only [List.nil_append, List.cons_append] at N'); (try k_sweep)))
    | ((with_reducible show wpAny _ _ (compareOp CmpOp.In (Value.int _ _) (Value.ref _)) _ _ _); (k_here; k_dflt (refine' inI ?k1_z9 ?k2_z9 ?k3_z9 ?_; (case k1_z9 => (apply isl9 <;> first | with_reducible assumption | k_mem)); (case k2_z9 => first | exact IntsAre.nil | exact IntsAre.cons _ _ IntsAre.nil | exact IntsAre.cons _ _ (IntsAre.cons _ _ IntsAre.nil) | exact IntsAre.cons _ _ (IntsAre.cons _ _ (IntsAre.cons _ _ IntsAre.nil))); (case k3_z9 => first | (show _ = true; decide) | (show _ = false; decide)); k_whole)))
    | ((with_reducible show wpAny _ _ (compareOp CmpOp.NotEq (Value.ref _) (Value.ref _)) _ _ _); (k_here; k_dflt (refine' neI ?k1_z9 ?k2_z9 ?k3_z9 ?k4_z9 ?k5_z9 ?k6_z9 ?_; (case k1_z9 => (apply isl9 <;> first | with_reducible assumption | k_mem)); (case k2_z9 => (apply isl9 <;> first | with_reducible assumption | k_mem)); (case k3_z9 => first | exact IntsAre.nil | exact IntsAre.cons _ _ IntsAre.nil | exact IntsAre.cons _ _ (IntsAre.cons _ _ IntsAre.nil) | exact IntsAre.cons _ _ (IntsAre.cons _ _ (IntsAre.cons _ _ IntsAre.nil))); (case k4_z9 => first | exact IntsAre.nil | exact IntsAre.cons _ _ IntsAre.nil | exact IntsAre.cons _ _ (IntsAre.cons _ _ IntsAre.nil) | exact IntsAre.cons _ _ (IntsAre.cons _ _ (IntsAre.cons _ _ IntsAre.nil))); (case k5_z9 => ke_room); (case k6_z9 => (first | exact congrArg not (decide_eq_true rfl) | (refine congrArg not (decide_eq_false ?_); (simp; done)) )))))
    | ((with_reducible show wpAny _ _ (call (Value.builtin "list.append") _ _) _ _ _); (k_here; k_dflt (refine' appendW ?k1_z9 ?k2_z9 ?k3_z9 ?e_z9 ?z_z9 ?_; (case k1_z9 => k_asm); (case k2_z9 => k_asm); (case k3_z9 => k_upd); (case e_z9 => ((try simp only [List.nil_append, List.cons_append]); exact rfl)); (case z_z9 => (simp only [List.length_nil, List.length_cons]; omega)); k_whole); intro h' F' N'; (try k_sweep)))
    | ((k_here; (first | ((with_reducible show wpAny _ _ (callWith _ (Value.ref _) _ (backTo _ (starEach [] _)) []) _ _ _); k_dflt (refine' callWith_K0 ?k1_z9 ?k2_z9 ?_; (case k1_z9 => exact Frag.In.keeps (by with_reducible assumption) (Fr.keep (by with_reducible assumption))); (case k2_z9 => k_is); k_whole)) | ((with_reducible show wpAny _ _ (callWith _ (Value.ref _) _ (backTo _ (starEach (_ :: _) _)) []) _ _ _); k_dflt (refine' callWith_K ?k1_z9 ?k2_z9 ?_; (case k1_z9 => with_reducible assumption); (case k2_z9 => k_is); k_whole)))))
    | ((with_reducible show wpAny _ _ (compareOp CmpOp.NotEq (Value.ref _) (Value.ref _)) _ _ _); (k_here; (k_dflt (refine' ne_dataH ?a_z9 ?b_z9 ?c_z9 ?d_z9 ?e_z9 ?_; (case a_z9 => ke_read); (case b_z9 => ke_read); (case c_z9 => ke_shaped); (case d_z9 => ke_shaped); (case e_z9 => ke_room))); ke_norm))
    | ((with_reducible show wpAny _ _ (compareOp CmpOp.Eq (Value.ref _) (Value.ref _)) _ _ _); (k_here; (k_dflt (refine' eq_dataH ?a_z9 ?b_z9 ?c_z9 ?d_z9 ?e_z9 ?_; (case a_z9 => ke_read); (case b_z9 => ke_read); (case c_z9 => ke_shaped); (case d_z9 => ke_shaped); (case e_z9 => ke_room))); ke_norm))
    | ((with_reducible show wpAny _ _ (compareOp CmpOp.NotEq (Value.int _ _) (Value.int _ _)) _ _ _); (k_here; first | (with_reducible refine' neT ?h_z9 ?_; (case h_z9 => omega)) | (with_reducible refine' neF ?h_z9 ?_; (case h_z9 => omega))))
    | ((with_reducible show wpAny _ _ (compareOp CmpOp.Gt (Value.int _ _) (Value.int _ _)) _ _ _); (k_here; first | (with_reducible refine' gtT ?h_z9 ?_; (case h_z9 => omega)) | (with_reducible refine' gtF ?h_z9 ?_; (case h_z9 => omega)) | (with_reducible refine' gtS ?_ ?_ <;> intro hq9)))
    | ((with_reducible show wpAny _ _ (compareOp CmpOp.Lt (Value.int _ _) (Value.int _ _)) _ _ _); (k_here; first | (with_reducible refine' ltT ?h_z9 ?_; (case h_z9 => omega)) | (with_reducible refine' ltF ?h_z9 ?_; (case h_z9 => omega)) | (with_reducible refine' ltS ?_ ?_ <;> intro hq9)))
    | ((with_reducible show wpAny _ _ (compareOp CmpOp.Eq (Value.int _ _) (Value.int _ _)) _ _ _); (k_here; first | (with_reducible refine' eqT ?h_z9 ?_; (case h_z9 => omega)) | (with_reducible refine' eqF ?h_z9 ?_; (case h_z9 => omega)) | (with_reducible refine' eqS ?_ ?_ <;> intro hq9)))
    | ((with_reducible show ite _ _ _); (k_here; first | (with_reducible refine' ite_posD ?h_z9 ?_; (case h_z9 => omega)) | (with_reducible refine' ite_negD ?h_z9 ?_; (case h_z9 => omega)) | (with_reducible refine' ite_posE ?h_z9 ?_; (case h_z9 => omega)) | (with_reducible refine' ite_negE ?h_z9 ?_; (case h_z9 => omega)) | (with_reducible refine' ite_posN ?h_z9 ?_; (case h_z9 => omega)) | (with_reducible refine' ite_negN ?h_z9 ?_; (case h_z9 => omega))))
    | ((with_reducible show wpAny _ _ (call (Value.builtin "list.pop") _ _) _ _ _); (k_here; k_dflt (refine' pop0 ?F_z9 ?N_z9 ?U_z9 ?z_z9 ?_; (case F_z9 => k_asm); (case N_z9 => k_asm); (case U_z9 => k_upd); (case z_z9 => (try simp only [List.length_nil, List.length_cons]); omega); k_whole); intro h' F' N'))
    | (k_end; kc_close)
    | walk1
    | (dsimp only; walk1)
    | (leave1; (try dsimp only))
    | fail "no step")
  all_goals (refine' hret _ _ ?F (news_sub ?N ?sub); (case F => assumption); (case N => assumption); (case sub => (intro p hp; repeat (first | exact hp | refine' List.Mem.tail _ ?_))))
set_option maxRecDepth 100000 in
set_option maxHeartbeats 8000000 in
set_option Elab.async true in
theorem whole : PySem.Challenge.rw_on0004_01.Holds := by
  (w_on; o_law; k_head; (case hw => w_witness2))
  k_go0
  all_goals (try k_fold)
  repeat' (first
    | (k_unfold; (try dsimp only))
    | (k_here; (with_reducible show wpAny _ _ (call (Value.ref 230) _) _ _ _); k_dflt (refine' fixed_right_spec ?B_z9 ?F_z9 ?N_z9 ?T_z9 ?hk_z9 ?_ ?X_z9; (case B_z9 => k_asm); (case F_z9 => k_asm); (case N_z9 => k_asm); (case T_z9 => k_asm); (case hk_z9 => exact rfl); (case X_z9 => k_asm); k_whole); intro h' tk' F' N'; (try k_sweep))
    | (k_here; (with_reducible show wpAny _ _ (call (Value.ref 223) _) _ _ _); k_dflt (refine' group_right_spec ?B_z9 ?F_z9 ?N_z9 ?T_z9 ?XB_z9 ?TB_z9 ?D_z9 ?hk_z9 ?C1_z9 ?l1_z9 ?hb_z9 ?hb2_z9 ?_ ?X_z9; (case B_z9 => k_asm); (case F_z9 => k_asm); (case N_z9 => k_asm); (case T_z9 => k_asm); (case XB_z9 => k_asm); (case TB_z9 => k_asm); (case D_z9 => exact fun b hb => nomatch hb); (case hk_z9 => exact rfl); (case C1_z9 => k_asm); (case l1_z9 => exact ⟨by omega, by omega⟩); (case hb_z9 => k_asm); (case hb2_z9 => k_asm); (case X_z9 => k_asm); k_whole); intro g' h' tk' a' ta' b' tb' ps' T' hb0' hb1' F' N'; (k_dflt (obtain ⟨F', N'⟩ := turn_nil T' F' N')); (try k_sweep))
    | (k_here; (with_reducible show wpAny _ _ (call (Value.ref 216) _) _ _ _); k_dflt (refine' lock_right_spec ?B_z9 ?F_z9 ?N_z9 ?T_z9 ?XB_z9 ?TB_z9 ?D_z9 ?hk_z9 ?C1_z9 ?l1_z9 ?hb_z9 ?hb2_z9 ?_ ?X_z9; (case B_z9 => k_asm); (case F_z9 => k_asm); (case N_z9 => k_asm); (case T_z9 => k_asm); (case XB_z9 => k_asm); (case TB_z9 => k_asm); (case D_z9 => exact fun b hb => nomatch hb); (case hk_z9 => exact rfl); (case C1_z9 => k_asm); (case l1_z9 => exact ⟨by omega, by omega⟩); (case hb_z9 => k_asm); (case hb2_z9 => k_asm); (case X_z9 => k_asm); k_whole); intro g' h' tk' a' ta' b' tb' ps' T' hb0' hb1' F' N'; (k_dflt (obtain ⟨F', N'⟩ := turn_nil T' F' N')); (try k_sweep))
    | (k_here; (with_reducible show wpAny _ _ (call (Value.ref 174) _) _ _ _); k_dflt (refine' pool_spec ?B_z9 ?F_z9 ?N_z9 ?T_z9 ?hk_z9 ?hl_z9 ?hi_z9 ?hn_z9 ?hdp_z9 ?hun_z9 ?_ ?X_z9; (case B_z9 => k_asm); (case F_z9 => k_asm); (case N_z9 => k_asm); (case T_z9 => k_asm); (case hk_z9 => exact rfl); (case hl_z9 => k_asm); (case hi_z9 => k_asm); (case hn_z9 => omega); (case hdp_z9 => exact Nat.le_of_ble_eq_true rfl); (case hun_z9 => exact Nat.le_of_ble_eq_true rfl); (case X_z9 => k_asm); k_whole); intro l' a' ta' b' tb' n' h' tk' hb0' hb1' F' N' l1; (try k_lt l1); (try k_sweep))
    | (k_end; wrow_close)
    | walk1
    | (dsimp only; walk1)
    | (leave1; (try dsimp only))
    | fail "no step")
end
end Mine
theorem PySem.Challenge.cw_on0004_01_holds : PySem.Challenge.rw_on0004_01.Holds := by
  exact Mine.whole
