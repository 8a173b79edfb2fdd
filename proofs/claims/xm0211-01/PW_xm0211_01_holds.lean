import PyProof.Rows.All
import Wide.All
import OpenK.AllK
import Wide.FinOn
import Lean
import PySem.Challenge.RW_xm0211_01
open PySem PySem.W PyProof.Rows
set_option Elab.async false
set_option maxRecDepth 100000
set_option maxHeartbeats 8000000
set_option bootstrap.genMatcherCode false
set_option genSizeOf false
set_option compiler.extract_closed false
set_option linter.all false
set_option autoImplicit false
set_option tactic.hygienic false
set_option genInjectivity false
namespace XM
noncomputable section
abbrev Lv{α β:Type}{o:Option α}{f:α->Option β}{b:β}:=(@Option.bind_eq_some_iff β b α o f).mp
abbrev Lw{α β:Type}{f:α->β}{o:Option α}{b:β}:=(@Option.map_eq_some_iff β b α o f).mp
abbrev Lx{α:Type}{a b:α}{l:List α}:=(@List.mem_cons α b l a).mp
abbrev Ly{α:Type}{a:α}{s t:List α}:=(@List.mem_append α a s t).mp
abbrev Lz{α:Type}{a b:α}:=(@List.mem_singleton α a b).mp
abbrev LA{α:Type}{l:List α}{i:Nat}{a:α}:=(@List.getElem?_eq_some_iff α i a l).mp
abbrev LB:=@wpAny_bind
abbrev LC:=@wpAny_pure
abbrev LD:=@Nat.le_of_ble_eq_true
abbrev LF:=@Option.some.inj
abbrev LG:=@List.mem_of_getElem?
abbrev LH:=@congrArg
abbrev LI:=@Nat.zero_le
abbrev LJ:=@PySem.mem_of_lookup
abbrev LK:=@Heap.get?_push_size
abbrev LL:=@Heap.get?_push_of_some
abbrev LM:=@Heap.lt_size
abbrev LN:=@Heap.get?_update_self
abbrev LP:=@Nat.le_refl
abbrev LQ:=@Heap.SameBut.update
abbrev LR:=@BindsTo.of_eq
abbrev LS:=@Nat.lt_of_lt_of_le
abbrev LU:=@wpAny_holding
abbrev LV:=@Nat.lt_irrefl
abbrev LW:=@absurd
abbrev LX:=@wpAny_standAt
abbrev LY:=@wpAny_mono
abbrev LZ:=@Nat.le_trans
abbrev L6:=@wpAny_newObj_type
abbrev L7:=@Nat.ne_of_gt
abbrev L8:=@Nat.lt_of_le_of_lt
section
section
local macro_rules |`(tactic| o_head $_)=>`(tactic| (exfalso;assumption))
theorem pre(f:False):PySem.Challenge.rw_xm0211_01.Holds:=by
 w_on
 refine holds_law f.elim λsaid=>?_
 k_head
end
namespace all
theorem tw10010884574175561002:True:=⟨⟩
theorem tw10142720068841064514:True:=⟨⟩
theorem tw102113395613515555:True:=⟨⟩
theorem tw10299947876094240172:True:=⟨⟩
theorem tw10427157883116955631:True:=⟨⟩
theorem tw10447197763023006018:True:=⟨⟩
theorem tw10458189271270700667:True:=⟨⟩
theorem tw10502645466951766721:True:=⟨⟩
theorem tw10594279779217265696:True:=⟨⟩
theorem tw10613243719342612914:True:=⟨⟩
theorem tw10621253930638833332:True:=⟨⟩
theorem tw10707435277459334581:True:=⟨⟩
theorem tw11028573235689746397:True:=⟨⟩
theorem tw11158180028336344438:True:=⟨⟩
theorem tw11338904592137159061:True:=⟨⟩
theorem tw1135695603417391963:True:=⟨⟩
theorem tw11373819942884509416:True:=⟨⟩
theorem tw1145989992300422740:True:=⟨⟩
theorem tw11601825098128308770:True:=⟨⟩
theorem tw11728107109349307878:True:=⟨⟩
theorem tw11742965696183846179:True:=⟨⟩
theorem tw11755628438551073522:True:=⟨⟩
theorem tw11835321142962630834:True:=⟨⟩
theorem tw11876092945784849933:True:=⟨⟩
theorem tw11887741172315710900:True:=⟨⟩
theorem tw11915271112404891601:True:=⟨⟩
theorem tw11983280838810670138:True:=⟨⟩
theorem tw119903317782427443:True:=⟨⟩
theorem tw12140311184697452779:True:=⟨⟩
theorem tw12156942069222957311:True:=⟨⟩
theorem tw12177648839646813144:True:=⟨⟩
theorem tw12223957430010522133:True:=⟨⟩
theorem tw12316393915103845135:True:=⟨⟩
theorem tw12456333859874596596:True:=⟨⟩
theorem tw12459069053659184790:True:=⟨⟩
theorem tw12575752772879911325:True:=⟨⟩
theorem tw12621308994684165892:True:=⟨⟩
theorem tw1264336486655463059:True:=⟨⟩
theorem tw12665712259748318477:True:=⟨⟩
theorem tw12713583278941226611:True:=⟨⟩
theorem tw12730079989702204720:True:=⟨⟩
theorem tw12730874579650679765:True:=⟨⟩
theorem tw12738349797187598313:True:=⟨⟩
theorem tw12741568757185032592:True:=⟨⟩
theorem tw12799386219180424327:True:=⟨⟩
theorem tw12802173582349832598:True:=⟨⟩
theorem tw12843997543405762838:True:=⟨⟩
theorem tw12909445566806301726:True:=⟨⟩
theorem tw13059548367105917088:True:=⟨⟩
theorem tw13072164555579272615:True:=⟨⟩
theorem tw13079853408043202963:True:=⟨⟩
theorem tw1309585953368370724:True:=⟨⟩
theorem tw13162843134436796623:True:=⟨⟩
theorem tw13206239159472451456:True:=⟨⟩
theorem tw13225471493099693595:True:=⟨⟩
theorem tw13256293513264194719:True:=⟨⟩
theorem tw13296927127745405787:True:=⟨⟩
theorem tw13335814821933464945:True:=⟨⟩
theorem tw13518960147100019632:True:=⟨⟩
theorem tw13549126814453610352:True:=⟨⟩
theorem tw13597581021955770485:True:=⟨⟩
theorem tw13621983305034028555:True:=⟨⟩
theorem tw13630304511610743504:True:=⟨⟩
theorem tw13740749716862495765:True:=⟨⟩
theorem tw13791086260593014212:True:=⟨⟩
theorem tw1383024622251252511:True:=⟨⟩
theorem tw13861322906120787527:True:=⟨⟩
theorem tw13900335018666291070:True:=⟨⟩
theorem tw13958074448212237881:True:=⟨⟩
theorem tw14056371865960851331:True:=⟨⟩
theorem tw14189441847901067550:True:=⟨⟩
theorem tw14199283994095329626:True:=⟨⟩
theorem tw14232039873328313856:True:=⟨⟩
theorem tw14267103264516335190:True:=⟨⟩
theorem tw14312391991203274986:True:=⟨⟩
theorem tw14497446411122984062:True:=⟨⟩
theorem tw14523289448673812015:True:=⟨⟩
theorem tw14547949053991361241:True:=⟨⟩
theorem tw14621398164536200529:True:=⟨⟩
theorem tw14661536344405281861:True:=⟨⟩
theorem tw14670193517622623449:True:=⟨⟩
theorem tw14760689674022748922:True:=⟨⟩
theorem tw14773019286684598450:True:=⟨⟩
theorem tw14792014322131801316:True:=⟨⟩
theorem tw14837206886961445999:True:=⟨⟩
theorem tw14851980499537179875:True:=⟨⟩
theorem tw1485519523671749642:True:=⟨⟩
theorem tw14871273735532801468:True:=⟨⟩
theorem tw14975661941678283313:True:=⟨⟩
theorem tw14995889566112899215:True:=⟨⟩
theorem tw15027224875480678414:True:=⟨⟩
theorem tw15033996059448187374:True:=⟨⟩
theorem tw1506972123725302456:True:=⟨⟩
theorem tw15094981303752954934:True:=⟨⟩
theorem tw15116755411571543646:True:=⟨⟩
theorem tw15185055521751792682:True:=⟨⟩
theorem tw15205158394705329565:True:=⟨⟩
theorem tw15237900935663668665:True:=⟨⟩
theorem tw15294113084826305982:True:=⟨⟩
theorem tw15444315207115664933:True:=⟨⟩
theorem tw15491326602503631076:True:=⟨⟩
theorem tw15493538602653325840:True:=⟨⟩
theorem tw15503398172801741034:True:=⟨⟩
theorem tw15528643867180573818:True:=⟨⟩
theorem tw15562347635966137933:True:=⟨⟩
theorem tw1564086442747904714:True:=⟨⟩
theorem tw15710594664624705648:True:=⟨⟩
theorem tw15726029795024910077:True:=⟨⟩
theorem tw15777417023689552662:True:=⟨⟩
theorem tw15841649489063568515:True:=⟨⟩
theorem tw15920999277146444808:True:=⟨⟩
theorem tw16102052167655554366:True:=⟨⟩
theorem tw16112015277896870226:True:=⟨⟩
theorem tw16129947917762834390:True:=⟨⟩
theorem tw16295393012746072981:True:=⟨⟩
theorem tw1632123207352795449:True:=⟨⟩
theorem tw16341807670986030332:True:=⟨⟩
theorem tw16352093207784191988:True:=⟨⟩
theorem tw16363731723562525735:True:=⟨⟩
theorem tw16436641912010580887:True:=⟨⟩
theorem tw16452195514905134466:True:=⟨⟩
theorem tw16563200790372288546:True:=⟨⟩
theorem tw16630167531039090447:True:=⟨⟩
theorem tw16683586179295190600:True:=⟨⟩
theorem tw16815951658160477038:True:=⟨⟩
theorem tw16969854506082103253:True:=⟨⟩
theorem tw16999521403493630987:True:=⟨⟩
theorem tw17028117991332781068:True:=⟨⟩
theorem tw17028429257377849707:True:=⟨⟩
theorem tw17063524713988180498:True:=⟨⟩
theorem tw17063943744079099590:True:=⟨⟩
theorem tw17104312792817915951:True:=⟨⟩
theorem tw17160875482565060884:True:=⟨⟩
theorem tw17201765102614946468:True:=⟨⟩
theorem tw17222323104484734993:True:=⟨⟩
theorem tw17282915481243820242:True:=⟨⟩
theorem tw17283028893885554426:True:=⟨⟩
theorem tw1734549978112270100:True:=⟨⟩
theorem tw1739186230366691295:True:=⟨⟩
theorem tw17443152625835307993:True:=⟨⟩
theorem tw17519951868130426249:True:=⟨⟩
theorem tw17552729316214370191:True:=⟨⟩
theorem tw17626954571765025376:True:=⟨⟩
theorem tw17722984852823041356:True:=⟨⟩
theorem tw17790169676462303628:True:=⟨⟩
theorem tw17797665169418261358:True:=⟨⟩
theorem tw17901057702191332465:True:=⟨⟩
theorem tw179926817449653364:True:=⟨⟩
theorem tw18034024858251969208:True:=⟨⟩
theorem tw18123269115239385746:True:=⟨⟩
theorem tw18160506457069896098:True:=⟨⟩
theorem tw18164886930240779687:True:=⟨⟩
theorem tw1872254769657291818:True:=⟨⟩
theorem tw192576220116902396:True:=⟨⟩
theorem tw1935703136837410122:True:=⟨⟩
theorem tw1964488824034805842:True:=⟨⟩
theorem tw1993265591012147786:True:=⟨⟩
theorem tw1997094780552188109:True:=⟨⟩
theorem tw2130395617001742048:True:=⟨⟩
theorem tw2147940451150274625:True:=⟨⟩
theorem tw2201416097053193423:True:=⟨⟩
theorem tw2422019897219015238:True:=⟨⟩
theorem tw2450424754721219299:True:=⟨⟩
theorem tw2470115388807555318:True:=⟨⟩
theorem tw2588718658722786245:True:=⟨⟩
theorem tw2666990209552648459:True:=⟨⟩
theorem tw2722946838691858519:True:=⟨⟩
theorem tw276881840967074616:True:=⟨⟩
theorem tw2783789321635379782:True:=⟨⟩
theorem tw2813492020823643587:True:=⟨⟩
theorem tw2857363257242209698:True:=⟨⟩
theorem tw2880332847094538833:True:=⟨⟩
theorem tw3011135870058947450:True:=⟨⟩
theorem tw3081009281868166348:True:=⟨⟩
theorem tw3133125971203097021:True:=⟨⟩
theorem tw3142268940373931248:True:=⟨⟩
theorem tw3154045731987294306:True:=⟨⟩
theorem tw3235709675239668025:True:=⟨⟩
theorem tw3249477237819019570:True:=⟨⟩
theorem tw3316354540568259500:True:=⟨⟩
theorem tw3352055280236686988:True:=⟨⟩
theorem tw3356866076118780367:True:=⟨⟩
theorem tw3454464315102520779:True:=⟨⟩
theorem tw3529269839219166890:True:=⟨⟩
theorem tw3616658442047936481:True:=⟨⟩
theorem tw3618717158450444158:True:=⟨⟩
theorem tw3686599731626183230:True:=⟨⟩
theorem tw3772992118064314532:True:=⟨⟩
theorem tw3828605517087968414:True:=⟨⟩
theorem tw3982417188812687571:True:=⟨⟩
theorem tw3997345583780640384:True:=⟨⟩
theorem tw4027014541237678573:True:=⟨⟩
theorem tw4160285280313238013:True:=⟨⟩
theorem tw4166855410560836007:True:=⟨⟩
theorem tw4168773253976344650:True:=⟨⟩
theorem tw4179332426393658082:True:=⟨⟩
theorem tw4196501591081228997:True:=⟨⟩
theorem tw4279311487150473997:True:=⟨⟩
theorem tw4347244383626289381:True:=⟨⟩
theorem tw4352171486292636686:True:=⟨⟩
theorem tw4532426142357150552:True:=⟨⟩
theorem tw4542605478286145919:True:=⟨⟩
theorem tw4576107362007480682:True:=⟨⟩
theorem tw462477936208526789:True:=⟨⟩
theorem tw4728425095362125644:True:=⟨⟩
theorem tw4752532334817233379:True:=⟨⟩
theorem tw4819700758209038361:True:=⟨⟩
theorem tw4835374243902526794:True:=⟨⟩
theorem tw4864792478852200069:True:=⟨⟩
theorem tw4888721407332106276:True:=⟨⟩
theorem tw4917905582673163191:True:=⟨⟩
theorem tw4988324432584390859:True:=⟨⟩
theorem tw5000954781323280547:True:=⟨⟩
theorem tw5006796494704976660:True:=⟨⟩
theorem tw5105201001117160412:True:=⟨⟩
theorem tw5247273471444955879:True:=⟨⟩
theorem tw5247521696369754014:True:=⟨⟩
theorem tw5309111857137078225:True:=⟨⟩
theorem tw5329200584641935676:True:=⟨⟩
theorem tw5427999102158376796:True:=⟨⟩
theorem tw5594609364158409208:True:=⟨⟩
theorem tw5601224474628461053:True:=⟨⟩
theorem tw5652731034020805991:True:=⟨⟩
theorem tw5663225824469192131:True:=⟨⟩
theorem tw5663281420183354588:True:=⟨⟩
theorem tw574151755725991556:True:=⟨⟩
theorem tw5787837848966661665:True:=⟨⟩
theorem tw5798891801111214684:True:=⟨⟩
theorem tw5814775194882325964:True:=⟨⟩
theorem tw5853112200062007285:True:=⟨⟩
theorem tw5861137765207199207:True:=⟨⟩
theorem tw5983485712945929031:True:=⟨⟩
theorem tw6132386875503149885:True:=⟨⟩
theorem tw6145491256843808909:True:=⟨⟩
theorem tw6210177843746355506:True:=⟨⟩
theorem tw6215866354560697180:True:=⟨⟩
theorem tw6233532201451569825:True:=⟨⟩
theorem tw6306949590640574937:True:=⟨⟩
theorem tw6350560179187567888:True:=⟨⟩
theorem tw63837971120210598:True:=⟨⟩
theorem tw6431495153343724968:True:=⟨⟩
theorem tw6493591238397196362:True:=⟨⟩
theorem tw6682810251426531593:True:=⟨⟩
theorem tw6796206229147354324:True:=⟨⟩
theorem tw6801645435232445147:True:=⟨⟩
theorem tw6819506359250864050:True:=⟨⟩
theorem tw6896422737902848612:True:=⟨⟩
theorem tw6932575180184235951:True:=⟨⟩
theorem tw6953968090979041071:True:=⟨⟩
theorem tw6975504295982460418:True:=⟨⟩
theorem tw6998512946336346858:True:=⟨⟩
theorem tw7171903391232158535:True:=⟨⟩
theorem tw7303022075880782781:True:=⟨⟩
theorem tw7325590995828547287:True:=⟨⟩
theorem tw7335907710152682397:True:=⟨⟩
theorem tw7466690669467546303:True:=⟨⟩
theorem tw7500460572120979254:True:=⟨⟩
theorem tw7524080841289229791:True:=⟨⟩
theorem tw7600151789714566957:True:=⟨⟩
theorem tw763416448063723504:True:=⟨⟩
theorem tw7655904060668192485:True:=⟨⟩
theorem tw7668745645205223817:True:=⟨⟩
theorem tw7698123708288750552:True:=⟨⟩
theorem tw776399176018892147:True:=⟨⟩
theorem tw7771128217851012148:True:=⟨⟩
theorem tw7838499823906888865:True:=⟨⟩
theorem tw7883568416981217044:True:=⟨⟩
theorem tw7951868644499799717:True:=⟨⟩
theorem tw7989525211428751669:True:=⟨⟩
theorem tw8173738719445219981:True:=⟨⟩
theorem tw8204224002688047555:True:=⟨⟩
theorem tw8211339246834403742:True:=⟨⟩
theorem tw823044830351169368:True:=⟨⟩
theorem tw8296277262119957083:True:=⟨⟩
theorem tw8477043905231380918:True:=⟨⟩
theorem tw8567154902038099819:True:=⟨⟩
theorem tw8647563512052361240:True:=⟨⟩
theorem tw8672293879918912918:True:=⟨⟩
theorem tw8699946591519560760:True:=⟨⟩
theorem tw8718898010444355863:True:=⟨⟩
theorem tw8731759153397463463:True:=⟨⟩
theorem tw8871720137362411546:True:=⟨⟩
theorem tw8915363889890516338:True:=⟨⟩
theorem tw8915620224827479930:True:=⟨⟩
theorem tw8992756862615086967:True:=⟨⟩
theorem tw9003687943567310227:True:=⟨⟩
theorem tw9063405118641694414:True:=⟨⟩
theorem tw9105671664983406539:True:=⟨⟩
theorem tw912899548279591403:True:=⟨⟩
theorem tw9200481898866730384:True:=⟨⟩
theorem tw9212695032168530672:True:=⟨⟩
theorem tw9271328566333571433:True:=⟨⟩
theorem tw9285396176974401113:True:=⟨⟩
theorem tw9293121659630725126:True:=⟨⟩
theorem tw9371622162154903337:True:=⟨⟩
theorem tw9381770002673226511:True:=⟨⟩
theorem tw9391465771442037680:True:=⟨⟩
theorem tw9426408380610789559:True:=⟨⟩
theorem tw9481038115360174933:True:=⟨⟩
theorem tw9491572295382696758:True:=⟨⟩
theorem tw9623555120473604078:True:=⟨⟩
theorem tw9641657510623967214:True:=⟨⟩
theorem tw9762553726639634199:True:=⟨⟩
theorem tw9866539068196914263:True:=⟨⟩
end all
end
set_option genInjectivity true in
inductive V where
 |none|bool (b:Bool)|int (i:Int)|str (s:Str)|bytes (b:Array UInt8)
 |tup (l:List V)|obj (i:Nat)|ref (a:Addr)|bi (id:String)|ty (n:String)
theorem n5{k:Nat}(h:Nat.beq k 5=false):k≠5:=λe=>by rw[e] at h;exact Bool.noConfusion (show true=false from h)
noncomputable def V.tS(v:V):Nat×Int×Str×Array UInt8×String:=
 V.casesOn v (0,0,default,#[],"") (λb=>(1,bif b then 1 else 0,default,#[],"")) (λi=>(2,i,default,#[],"")) (λs=>(3,0,s,#[],"")) (λb=>(4,0,default,b,"")) (λu=>(5,0,default,#[],"")) (λi=>(6,i,default,#[],"")) (λa=>(7,a,default,#[],"")) (λs=>(8,0,default,#[],s)) (λs=>(9,0,default,#[],s))
noncomputable def V.DE(p:Nat×Int×Str×Array UInt8×String):V:=
 bif p.1==0 then .none else bif p.1==1 then .bool (p.2.1==1) else bif p.1==2 then .int p.2.1 else bif p.1==3 then .str p.2.2.1 else bif p.1==4 then .bytes p.2.2.2.1 else bif p.1==6 then .obj p.2.1.toNat else bif p.1==7 then .ref p.2.1.toNat else bif p.1==8 then .bi p.2.2.2.2 else .ty p.2.2.2.2
theorem V.xU(v:V):v.tS.1≠5->V.DE v.tS=v:=
 V.casesOn (motive_1:=λv=>v.tS.1≠5->V.DE v.tS=v) v (λu=>rfl) (λb u=>by cases b<;>rfl) (λu u=>rfl) (λu u=>rfl) (λu u=>rfl) (λu h=>(h rfl).elim) (λu u=>rfl) (λu u=>rfl) (λu u=>rfl) (λu u=>rfl)
noncomputable def V.items(v:V):List V:=V.casesOn v [] (λu=>[]) (λu=>[]) (λu=>[]) (λu=>[]) (λl=>l) (λu=>[]) (λu=>[]) (λu=>[]) (λu=>[])
theorem V.EK(v:V):v.tS.1=5->v=.tup v.items:=
 V.casesOn (motive_1:=λv=>v.tS.1=5->v=.tup v.items) v (λh=>LW h (n5 rfl)) (λu h=>LW h (n5 rfl)) (λu h=>LW h (n5 rfl)) (λu h=>LW h (n5 rfl)) (λu h=>LW h (n5 rfl)) (λu u=>rfl) (λu h=>LW h (n5 rfl)) (λu h=>LW h (n5 rfl)) (λu h=>LW h (n5 rfl)) (λu h=>LW h (n5 rfl))
noncomputable def V.flat(a:V)(h:a.tS.1≠5)(b:V):Decidable (a=b):=
 if e:a.tS=b.tS then .isTrue ((V.xU a h).symm.trans ((LH V.DE e).trans (V.xU b (e▸h)))) else .isFalse λz=>e (LH _ z)
instance V.dec:DecidableEq V:=λa=>
 V.rec (motive_1:=λa=>∀ b,Decidable (a=b)) (motive_2:=λl=>∀ r,Decidable (l=r)) (V.flat _ (n5 rfl)) (λu=>V.flat _ (n5 rfl)) (λu=>V.flat _ (n5 rfl)) (λu=>V.flat _ (n5 rfl)) (λu=>V.flat _ (n5 rfl))
  (λl ih b=>if h:b.tS.1=5 then @decidable_of_iff _ (l=b.items) ⟨λe=>e▸(V.EK b h).symm,λe=>e▸rfl⟩ (ih b.items) else .isFalse λe=>h (e▸rfl))
  (λu=>V.flat _ (n5 rfl)) (λu=>V.flat _ (n5 rfl)) (λu=>V.flat _ (n5 rfl)) (λu=>V.flat _ (n5 rfl))
  (λr=>List.casesOn r (.isTrue rfl) λu u=>.isFalse λh=>nomatch h)
  (λa l ia il r=>List.casesOn r (.isFalse λh=>nomatch h) λb r=>@decidable_of_iff _ (a=b/\l=r) ⟨λh=>h.1▸h.2▸rfl,λh=>List.cons.inj h⟩ (@instDecidableAnd _ _ (ia b) (il r))) a
set_option genInjectivity true in
inductive aq where
 |list (l:List V)
 |sd (l:List (Str×V))
 |idd (l:List (Int×V)) (ep:Nat)
 |td (l:List (List V×V))
 |inst (c:Addr) (d:Nat)
 |exc (c:Addr) (d:Option Nat) (raw:Bool)
 |tab (P:Addr) (l:List ((Nat×Nat)×Nat))
 |code (q:Str)
abbrev ai:=List aq
def M(α:Type):Type:=ai->Option (Except V α×ai)
noncomputable instance:Monad M where
 pure a:=λσ=>some (.ok a,σ)
 bind m f:=λσ=>match m σ with
  |none=>none
  |some (.error e,σ')=>some (.error e,σ')
  |some (.ok a,σ')=>f a σ'
noncomputable def M.fail{α:Type}:M α:=λu=>none
mutual
inductive VR(ρ:List Addr)(h:Heap):V->Value->Prop
 |none:VR ρ h .none .none
 |bool (b:Bool):VR ρ h (.bool b) (.bool b)
 |int (i:Int) (t:Tok):VR ρ h (.int i) (.int i t)
 |str (x:Str) (t:Tok):VR ρ h (.str x) (.str x t)
 |bytes (b:Array UInt8) (t:Tok):VR ρ h (.bytes b) (.bytes b t)
 |tup {a:Addr} {vs:Array Value} {n:Nat} {l:List V}:h.get? a=some {cls:=.type "tuple",data:=.seq vs n}->bq ρ h l vs.toList->VR ρ h (.tup l) (.ref a)
 |obj {i:Nat} {a:Addr}:ρ[i]?=some a->VR ρ h (.obj i) (.ref a)
 |ref (a:Addr):VR ρ h (.ref a) (.ref a)
 |bi (id:String):VR ρ h (.bi id) (.builtin id)
 |ty (n:String):VR ρ h (.ty n) (.type n)
inductive bq(ρ:List Addr)(h:Heap):List V->List Value->Prop
 |nil:bq ρ h [] []
 |cons {v:V} {x:Value} {l:List V} {xs:List Value}:VR ρ h v x->bq ρ h l xs->bq ρ h (v::l) (x::xs)
end
def JL(ρ:List Addr)(h:Heap)(x:Value):V->Prop
 |.none=>x=.none
 |.bool b=>x=.bool b
 |.int i=>∃ t,x=.int i t
 |.str s=>∃ t,x=.str s t
 |.bytes b=>∃ t,x=.bytes b t
 |.tup l=>∃ a vs n,x=.ref a/\h.get? a=some {cls:=.type "tuple",data:=.seq vs n}/\bq ρ h l vs.toList
 |.obj i=>∃ a,x=.ref a/\ρ[i]?=some a
 |.ref a=>x=.ref a
 |.bi s=>x=.builtin s
 |.ty n=>x=.type n
section
variable{ρ:List Addr}{h:Heap}{v:V}{x:Value}{G:Value->Prop}{i:Nat}{n:Int}{s:Str}{l:List V}{vs:List Value}
theorem VR.inv(r:VR ρ h v x):JL ρ h x v:=
 VR.casesOn (motive_1:=λv x u=>JL ρ h x v) r rfl (λu=>rfl) (λu t=>⟨t,rfl⟩) (λu t=>⟨t,rfl⟩) (λu t=>⟨t,rfl⟩) (λe r=>⟨_,_,_,rfl,e,r⟩) (λe=>⟨_,rfl,e⟩) (λu=>rfl) (λu=>rfl) (λu=>rfl)
@[elab_as_elim] theorem VR.objE(r:VR ρ h (.obj i) x)(k:∀ a,ρ[i]?=some a->G (.ref a)):G x:=Exists.elim r.inv λa q=>Eq.subst (motive:=G) (Eq.symm q.1) (k a q.2)
@[elab_as_elim] theorem VR.gw(r:VR ρ h (.int n) x)(k:∀ t,G (.int n t)):G x:=Exists.elim r.inv λt e=>Eq.subst (motive:=G) (Eq.symm e) (k t)
@[elab_as_elim] theorem VR.oJ(r:VR ρ h (.str s) x)(k:∀ t,G (.str s t)):G x:=Exists.elim r.inv λt e=>Eq.subst (motive:=G) (Eq.symm e) (k t)
@[elab_as_elim] theorem VR.rX(r:VR ρ h (.tup l) x)(k:∀ a vs n,h.get? a=some {cls:=.type "tuple",data:=.seq vs n}->bq ρ h l vs.toList->G (.ref a)):G x:=
 Exists.elim r.inv λa q=>Exists.elim q λvs q=>Exists.elim q λn q=>Eq.subst (motive:=G) (Eq.symm q.1) (k a vs n q.2.1 q.2.2)
@[elab_as_elim] theorem bq.bf{G:List Value->Prop}(r:bq ρ h (v::l) vs)(k:∀ x xs,VR ρ h v x->bq ρ h l xs->G (x::xs)):G vs:=
 bq.casesOn (motive_2:=λl' vs u=>l'=v::l->G vs) r (λe=>nomatch e) (λ{_ x _ xs} a b e=>by cases e;exact k x xs a b) rfl
theorem bq.Ky(r:bq ρ h [] vs):vs=[]:=bq.casesOn (motive_2:=λl' vs u=>l'=[]->vs=[]) r (λu=>rfl) (λu u e=>nomatch e) rfl
end
theorem bq.length{ρ:List Addr}{h:Heap}{l:List V}{xs:List Value}(H:bq ρ h l xs):l.length=xs.length:=by
 induction l generalizing xs with
 |nil=>cases H;rfl
 |cons v l ih=>cases H with|cons a b=>simp[ih b]
theorem bq.get{ρ:List Addr}{h:Heap}{l:List V}{xs:List Value}(H:bq ρ h l xs){i:Nat}{v:V}(e:l[i]?=some v):∃ x,xs[i]?=some x/\VR ρ h v x:=by
 induction l generalizing xs i with
 |nil=>simp at e
 |cons w l ih=>
  cases H with
  |cons a b=>
   cases i with
   |zero=>simp at e;subst e;exact⟨_,by simp,a⟩
   |succ i=>simp at e;simpa using ih b e
theorem bq.append{ρ:List Addr}{h:Heap}{l l':List V}{xs xs':List Value}(H:bq ρ h l xs)(H':bq ρ h l' xs'):bq ρ h (l++l') (xs++xs'):=by
 induction l generalizing xs with
 |nil=>cases H;exact H'
 |cons v l ih=>cases H with|cons a b=>exact .cons a (ih b)
theorem VR.mono{ρ ρ':List Addr}{h h':Heap}(hr:∀ (i:Nat) (a:Addr),ρ[i]?=some a->ρ'[i]?=some a)
 (ht:∀ a vs n,h.get? a=some {cls:=.type "tuple",data:=.seq vs n}->h'.get? a=some {cls:=.type "tuple",data:=.seq vs n}){v:V}{x:Value}(r:VR ρ h v x):VR ρ' h' v x:=
 VR.rec (motive_1:=λv x u=>VR ρ' h' v x) (motive_2:=λl xs u=>bq ρ' h' l xs) .none .bool .int .str .bytes (λe u i=>.tup (ht _ _ _ e) i) (λe=>.obj (hr _ _ e)) .ref .bi .ty .nil (λu u i j=>.cons i j) r
theorem bq.mono{ρ ρ':List Addr}{h h':Heap}(hr:∀ (i:Nat) (a:Addr),ρ[i]?=some a->ρ'[i]?=some a)
 (ht:∀ a vs n,h.get? a=some {cls:=.type "tuple",data:=.seq vs n}->h'.get? a=some {cls:=.type "tuple",data:=.seq vs n}){l:List V}{xs:List Value}(r:bq ρ h l xs):bq ρ' h' l xs:=
 bq.rec (motive_1:=λv x u=>VR ρ' h' v x) (motive_2:=λl xs u=>bq ρ' h' l xs) .none .bool .int .str .bytes (λe u i=>.tup (ht _ _ _ e) i) (λe=>.obj (hr _ _ e)) .ref .bi .ty .nil (λu u i j=>.cons i j) r
theorem au{α:Type}{x:α}{P:Prop}(h:(none:Option α)=some x):P:=nomatch h
section
variable{α:Type}{v:V}{i:Int}{n:Nat}{s:Str}{l:List V}
noncomputable def V.eX(v:V):Option Int:=V.casesOn v Option.none (λu=>Option.none) some (λu=>Option.none) (λu=>Option.none) (λu=>Option.none) (λu=>Option.none) (λu=>Option.none) (λu=>Option.none) (λu=>Option.none)
noncomputable def V.iC(v:V):Option Str:=V.casesOn v Option.none (λu=>Option.none) (λu=>Option.none) some (λu=>Option.none) (λu=>Option.none) (λu=>Option.none) (λu=>Option.none) (λu=>Option.none) (λu=>Option.none)
noncomputable def V.dh(v:V):Option (List V):=V.casesOn v Option.none (λu=>Option.none) (λu=>Option.none) (λu=>Option.none) (λu=>Option.none) some (λu=>Option.none) (λu=>Option.none) (λu=>Option.none) (λu=>Option.none)
noncomputable def V.bO(v:V):Option Nat:=V.casesOn v Option.none (λu=>Option.none) (λu=>Option.none) (λu=>Option.none) (λu=>Option.none) (λu=>Option.none) some (λu=>Option.none) (λu=>Option.none) (λu=>Option.none)
theorem V.f9:v.eX=some i->v=.int i:=V.casesOn (motive_1:=λv=>v.eX=some i->v=.int i) v au (λu=>au) (λu h=>LH V.int (LF h)) (λu=>au) (λu=>au) (λu=>au) (λu=>au) (λu=>au) (λu=>au) (λu=>au)
theorem V.jg:v.iC=some s->v=.str s:=V.casesOn (motive_1:=λv=>v.iC=some s->v=.str s) v au (λu=>au) (λu=>au) (λu h=>LH V.str (LF h)) (λu=>au) (λu=>au) (λu=>au) (λu=>au) (λu=>au) (λu=>au)
theorem V.fC:v.dh=some l->v=.tup l:=V.casesOn (motive_1:=λv=>v.dh=some l->v=.tup l) v au (λu=>au) (λu=>au) (λu=>au) (λu=>au) (λu h=>LH V.tup (LF h)) (λu=>au) (λu=>au) (λu=>au) (λu=>au)
theorem V.cu:v.bO=some n->v=.obj n:=V.casesOn (motive_1:=λv=>v.bO=some n->v=.obj n) v au (λu=>au) (λu=>au) (λu=>au) (λu=>au) (λu=>au) (λu h=>LH V.obj (LF h)) (λu=>au) (λu=>au) (λu=>au)
end
noncomputable def aq.AO(o:aq):Option (List V):=aq.casesOn o some (λu=>none) (λu u=>none) (λu=>none) (λu u=>none) (λu u u=>none) (λu u=>none) (λu=>none)
noncomputable def aq.Ex(o:aq):Option (List (Int×V)):=aq.casesOn o (λu=>none) (λu=>none) (λl u=>some l) (λu=>none) (λu u=>none) (λu u u=>none) (λu u=>none) (λu=>none)
noncomputable def listAt(σ:ai)(i:Nat):Option (List V):=σ[i]?.bind aq.AO
noncomputable def gp(σ:ai)(i:Nat):Option (List (Int×V)):=σ[i]?.bind aq.Ex
section
variable{σ:ai}{i:Nat}{l:List V}{r:List (Int×V)}{o:aq}
theorem aq.IZ:o.AO=some l->o=.list l:=aq.casesOn (motive:=λo=>o.AO=some l->o=.list l) o (λu h=>LH aq.list (LF h)) (λu=>au) (λu u=>au) (λu=>au) (λu u=>au) (λu u u=>au) (λu u=>au) (λu=>au)
theorem aq.JW:o.Ex=some r->∃ k,o=.idd r k:=aq.casesOn (motive:=λo=>o.Ex=some r->∃ k,o=.idd r k) o (λu=>au) (λu=>au) (λu k h=>⟨k,LH (aq.idd · k) (LF h)⟩) (λu=>au) (λu u=>au) (λu u u=>au) (λu u=>au) (λu=>au)
theorem listAt_eq(h:listAt σ i=some l):σ[i]?=some (.list l):=(Lv h).elim λu z=>z.1.trans (LH some (aq.IZ z.2))
theorem Ad(h:gp σ i=some r):∃ k,σ[i]?=some (.idd r k):=(Lv h).elim λu z=>(aq.JW z.2).imp λu e=>z.1.trans (LH some e)
theorem cj(h:σ[i]?=some (.list l)):listAt σ i=some l:=by unfold listAt;rw[h];rfl
theorem uM{k:Nat}(h:σ[i]?=some (.idd r k)):gp σ i=some r:=by unfold gp;rw[h];rfl
theorem Hq(h:σ[i]?=some (.list l)):gp σ i=none:=by unfold gp;rw[h];rfl
end
noncomputable def V.qV(v:V):Option Bool:=V.casesOn v Option.none some (λu=>Option.none) (λu=>Option.none) (λu=>Option.none) (λu=>Option.none) (λu=>Option.none) (λu=>Option.none) (λu=>Option.none) (λu=>Option.none)
noncomputable def V.Hf(v:V):Option String:=V.casesOn v Option.none (λu=>Option.none) (λu=>Option.none) (λu=>Option.none) (λu=>Option.none) (λu=>Option.none) (λu=>Option.none) (λu=>Option.none) (λu=>Option.none) some
noncomputable def V.asBytes(v:V):Option (Array UInt8):=V.casesOn v Option.none (λu=>Option.none) (λu=>Option.none) (λu=>Option.none) some (λu=>Option.none) (λu=>Option.none) (λu=>Option.none) (λu=>Option.none) (λu=>Option.none)
theorem V.Hu{v:V}{b:Array UInt8}:v.asBytes=some b->v=.bytes b:=V.casesOn (motive_1:=λv=>v.asBytes=some b->v=.bytes b) v au (λu=>au) (λu=>au) (λu=>au) (λu h=>LH V.bytes (LF h)) (λu=>au) (λu=>au) (λu=>au) (λu=>au) (λu=>au)
theorem V.wB{v:V}{b:Bool}:v.qV=some b->v=.bool b:=V.casesOn (motive_1:=λv=>v.qV=some b->v=.bool b) v au (λu h=>LH V.bool (LF h)) (λu=>au) (λu=>au) (λu=>au) (λu=>au) (λu=>au) (λu=>au) (λu=>au) (λu=>au)
theorem V.KV{v:V}{T:String}:v.Hf=some T->v=.ty T:=V.casesOn (motive_1:=λv=>v.Hf=some T->v=.ty T) v au (λu=>au) (λu=>au) (λu=>au) (λu=>au) (λu=>au) (λu=>au) (λu=>au) (λu=>au) (λu h=>LH V.ty (LF h))
noncomputable def aq.HQ(o:aq):Option (List (List V×V)):=aq.casesOn o (λu=>none) (λu=>none) (λu u=>none) some (λu u=>none) (λu u u=>none) (λu u=>none) (λu=>none)
theorem aq.K5{o:aq}{l:List (List V×V)}:o.HQ=some l->o=.td l:=aq.casesOn (motive:=λo=>o.HQ=some l->o=.td l) o (λu=>au) (λu=>au) (λu u=>au) (λu h=>LH aq.td (LF h)) (λu u=>au) (λu u u=>au) (λu u=>au) (λu=>au)
noncomputable def jC(σ:ai)(i:Nat):Option (List (List V×V)):=σ[i]?.bind aq.HQ
noncomputable def one(l:List V):Option V:=List.casesOn l none λa t=>List.casesOn t (some a) λu u=>none
noncomputable def two(l:List V):Option (V×V):=List.casesOn l none λa t=>(one t).map λb=>(a,b)
theorem pC{a:V}:∀ {l:List V},one l=some a->l=[a]:=λ{l}=>
 List.casesOn (motive:=λl=>one l=some a->l=[a]) l au λb t=>List.casesOn (motive:=λt=>one (b::t)=some a->b::t=[a]) t (λh=>LH (λx=>[x]) (LF h)) λu u=>au
theorem two_of{p:V×V}{l:List V}:two l=some p->l=[p.1,p.2]:=
 List.casesOn (motive:=λl=>two l=some p->l=[p.1,p.2]) l au λa t h=>(Lw h).elim λb z=>z.2▸LH (a::·) (pC z.1)
section
variable{β:Type}{l:List V}{r:β}{σ:ai}{i:Nat}
theorem sH{f:Nat->Option β}(h:((one l).bind λa=>a.bO.bind f)=some r):∃ i,l=[.obj i]/\f i=some r:=
 (Lv h).elim λa z=>(Lv z.2).elim λi y=>⟨i,(pC z.1).trans (LH (λx=>[x]) (V.cu y.1)),y.2⟩
theorem CS{f:List V->Option β}(h:((one l).bind λa=>a.dh.bind f)=some r):∃ m,l=[.tup m]/\f m=some r:=
 (Lv h).elim λa z=>(Lv z.2).elim λi y=>⟨i,(pC z.1).trans (LH (λx=>[x]) (V.fC y.1)),y.2⟩
theorem mS{f:Nat->V->Option β}(h:((two l).bind λp=>p.1.bO.bind λi=>f i p.2)=some r):∃ i v,l=[.obj i,v]/\f i v=some r:=
 (Lv h).elim λp z=>(Lv z.2).elim λi y=>⟨i,p.2,(two_of z.1).trans (LH (λx=>[x,p.2]) (V.cu y.1)),y.2⟩
theorem fO{f:List V->Option β}(h:(listAt σ i).bind f=some r):∃ m,σ[i]?=some (.list m)/\f m=some r:=(Lv h).elim λm z=>⟨m,listAt_eq z.1,z.2⟩
theorem Gf{f:List (Int×V)->Option β}(h:(gp σ i).bind f=some r):∃ m k,σ[i]?=some (.idd m k)/\f m=some r:=(Lv h).elim λm z=>(Ad z.1).elim λk e=>⟨m,k,e,z.2⟩
theorem sO{f:List (List V×V)->Option β}(h:(jC σ i).bind f=some r):∃ m,σ[i]?=some (.td m)/\f m=some r:=
 (Lv h).elim λm z=>(Lv z.1).elim λo y=>⟨m,y.1.trans (LH some (aq.K5 y.2)),z.2⟩
theorem or_some{o o':Option β}(h:o.or o'=some r):o=some r\/o'=some r:=by cases o with|none=>exact .inr h|some=>exact .inl h
theorem aE{c:Prop}[Decidable c]{o:Option β}(h:(if c then o else none)=some r):c/\o=some r:=by
 by_cases q:c
 ·rw[if_pos q] at h;exact⟨q,h⟩
 ·rw[if_neg q] at h;exact nomatch h
end
noncomputable def aq.HL(o:aq):Option (List (Str×V)):=aq.casesOn o (λu=>none) some (λu u=>none) (λu=>none) (λu u=>none) (λu u u=>none) (λu u=>none) (λu=>none)
theorem aq.KW{o:aq}{l:List (Str×V)}:o.HL=some l->o=.sd l:=aq.casesOn (motive:=λo=>o.HL=some l->o=.sd l) o (λu=>au) (λu h=>LH aq.sd (LF h)) (λu u=>au) (λu=>au) (λu u=>au) (λu u u=>au) (λu u=>au) (λu=>au)
noncomputable def jD(σ:ai)(i:Nat):Option (List (Str×V)):=σ[i]?.bind aq.HL
theorem tC{β:Type}{σ:ai}{i:Nat}{r:β}{f:List (Str×V)->Option β}(h:(jD σ i).bind f=some r):∃ m,σ[i]?=some (.sd m)/\f m=some r:=
 (Lv h).elim λm z=>(Lv z.1).elim λo y=>⟨m,y.1.trans (LH some (aq.KW y.2)),z.2⟩
theorem mF{σ:ai}{i:Nat}{l:List (Str×V)}(h:σ[i]?=some (.sd l)):jD σ i=some l:=by unfold jD;rw[h];rfl
noncomputable def aq.zT(o:aq):Option (Addr×Nat):=aq.casesOn o (λu=>none) (λu=>none) (λu u=>none) (λu=>none) (λc d=>some (c,d)) (λu u u=>none) (λu u=>none) (λu=>none)
theorem aq.Jd{o:aq}{p:Addr×Nat}:o.zT=some p->o=.inst p.1 p.2:=aq.casesOn (motive:=λo=>o.zT=some p->o=.inst p.1 p.2) o (λu=>au) (λu=>au) (λu u=>au) (λu=>au) (λu u h=>LF h▸rfl) (λu u u=>au) (λu u=>au) (λu=>au)
noncomputable def lW(σ:ai)(c:Addr)(i:Nat):Option (Nat×List (Str×V)):=(σ[i]?.bind aq.zT).bind λp=>if p.1=c then (jD σ p.2).bind λl=>some (p.2,l) else none
theorem ua{β:Type}{σ:ai}{c:Addr}{i:Nat}{r:β}{f:Nat×List (Str×V)->Option β}(h:(lW σ c i).bind f=some r):∃ d l,σ[i]?=some (.inst c d)/\σ[d]?=some (.sd l)/\f (d,l)=some r:=
 (Lv h).elim λq z=>(Lv z.1).elim λp y=>(Lv y.1).elim λo x=>(tC (aE y.2).2).elim λl w=>
  ⟨p.2,l,x.1.trans (LH some ((aq.Jd x.2).trans (LH (aq.inst · p.2) (aE y.2).1))),w.1,(LH f (LF w.2)).trans z.2⟩
theorem uE{σ:ai}{c:Addr}{i d:Nat}{l:List (Str×V)}(h:σ[i]?=some (.inst c d))(h2:σ[d]?=some (.sd l)):lW σ c i=some (d,l):=by
 unfold lW;rw[h];show (if c=c then (jD σ d).bind λl=>some (d,l) else none)=_;rw[if_pos rfl,mF h2];rfl
noncomputable def few(n:Nat)(v:V)(σ:ai):Option (Except V V×ai):=if n<=1000 then some (.ok v,σ) else none
theorem kT{n:Nat}{v:V}{σ:ai}{r:Except V V×ai}(h:few n v σ=some r):n<=1000/\(.ok v,σ)=r:=⟨(aE h).1,LF (aE h).2⟩
noncomputable def aq.jo(o:aq):Option (Addr×Option Nat×Bool):=aq.casesOn o (λu=>none) (λu=>none) (λu u=>none) (λu=>none) (λu u=>none) (λc d r=>some (c,d,r)) (λu u=>none) (λu=>none)
theorem aq.JB{o:aq}{p:Addr×Option Nat×Bool}:o.jo=some p->o=.exc p.1 p.2.1 p.2.2:=aq.casesOn (motive:=λo=>o.jo=some p->o=.exc p.1 p.2.1 p.2.2) o (λu=>au) (λu=>au) (λu u=>au) (λu=>au) (λu u=>au) (λu u u h=>LF h▸rfl) (λu u=>au) (λu=>au)
theorem q9{β:Type}{σ:ai}{i:Nat}{r:β}{f:Addr×Option Nat×Bool->Option β}(h:(σ[i]?.bind aq.jo).bind f=some r):∃ c d w,σ[i]?=some (.exc c d w)/\f (c,d,w)=some r:=
 (Lv h).elim λp z=>(Lv z.1).elim λo y=>⟨p.1,p.2.1,p.2.2,y.1.trans (LH some (aq.JB y.2)),z.2⟩
noncomputable def qh(σ:ai)(c:Addr)(i:Nat):Option (Nat×List (Str×V)):=(σ[i]?.bind aq.jo).bind λp=>if p.1=c then p.2.1.bind λd=>(jD σ d).bind λl=>some (d,l) else none
theorem Ah{β:Type}{σ:ai}{c:Addr}{i:Nat}{r:β}{f:Nat×List (Str×V)->Option β}(h:(qh σ c i).bind f=some r):∃ d l w,σ[i]?=some (.exc c (some d) w)/\σ[d]?=some (.sd l)/\f (d,l)=some r:=by
 obtain⟨q,h1,h2⟩:=Lv h;obtain⟨c',o,w,h3,h4⟩:=q9 h1;obtain⟨hc,h4⟩:=aE h4;obtain⟨d,hd,h5⟩:=Lv h4;cases hc;cases (show o=some d from hd);obtain⟨l,h6,h7⟩:=tC h5;cases h7;exact⟨d,l,w,h3,h6,h2⟩
theorem A0{σ:ai}{c:Addr}{i d:Nat}{w:Bool}{l:List (Str×V)}(h:σ[i]?=some (.exc c (some d) w))(h2:σ[d]?=some (.sd l)):qh σ c i=some (d,l):=by
 unfold qh;rw[h];show (if c=c then (jD σ d).bind λl=>some (d,l) else none)=_;rw[if_pos rfl,mF h2];rfl
noncomputable def three(l:List V):Option (V×V×V):=List.casesOn l none λa t=>(two t).map λb=>(a,b)
theorem Gw{p:V×V×V}{l:List V}:three l=some p->l=[p.1,p.2.1,p.2.2]:=
 List.casesOn (motive:=λl=>three l=some p->l=[p.1,p.2.1,p.2.2]) l au λa t h=>(Lw h).elim λb z=>z.2▸LH (a::·) (two_of z.1)
theorem AB{β:Type}{l:List V}{r:β}{f:Nat->V->V->Option β}(h:((three l).bind λp=>p.1.bO.bind λi=>f i p.2.1 p.2.2)=some r):∃ i v d,l=[.obj i,v,d]/\f i v d=some r:=
 (Lv h).elim λp z=>(Lv z.2).elim λi y=>⟨i,p.2.1,p.2.2,(Gw z.1).trans (LH (λx=>[x,p.2.1,p.2.2]) (V.cu y.1)),y.2⟩
noncomputable def aq.iO(o:aq):Option (List (Int×V)×Nat):=aq.casesOn o (λu=>none) (λu=>none) (λl u=>some (l,u)) (λu=>none) (λu u=>none) (λu u u=>none) (λu u=>none) (λu=>none)
theorem aq.IM{o:aq}{p:List (Int×V)×Nat}:o.iO=some p->o=.idd p.1 p.2:=aq.casesOn (motive:=λo=>o.iO=some p->o=.idd p.1 p.2) o (λu=>au) (λu=>au) (λu u h=>LF h▸rfl) (λu=>au) (λu u=>au) (λu u u=>au) (λu u=>au) (λu=>au)
theorem tD{β:Type}{σ:ai}{i:Nat}{r:β}{f:List (Int×V)×Nat->Option β}(h:(σ[i]?.bind aq.iO).bind f=some r):∃ m k,σ[i]?=some (.idd m k)/\f (m,k)=some r:=
 (Lv h).elim λm z=>(Lv z.1).elim λo y=>⟨m.1,m.2,y.1.trans (LH some (aq.IM y.2)),z.2⟩
theorem mE{σ:ai}{i:Nat}{l:List (List V×V)}(h:σ[i]?=some (.td l)):jC σ i=some l:=by unfold jC;rw[h];rfl
section
variable{α β:Type}(f:V->α)(t:β->α)(n:β)(c:α->β->β)
def V.fold(v:V):α:=
 V.rec (motive_1:=λu=>α) (motive_2:=λu=>β) (f .none) (λb=>f (.bool b)) (λb=>f (.int b)) (λb=>f (.str b)) (λb=>f (.bytes b)) (λu r=>t r) (λb=>f (.obj b)) (λb=>f (.ref b)) (λb=>f (.bi b)) (λb=>f (.ty b)) n (λu u a r=>c a r) v
def V.EF(v:List V):β:=
 V.rec_1 (motive_1:=λu=>α) (motive_2:=λu=>β) (f .none) (λb=>f (.bool b)) (λb=>f (.int b)) (λb=>f (.str b)) (λb=>f (.bytes b)) (λu r=>t r) (λb=>f (.obj b)) (λb=>f (.ref b)) (λb=>f (.bi b)) (λb=>f (.ty b)) n (λu u a r=>c a r) v
end
noncomputable def V.HW(v:V):Bool:=V.casesOn v true (λu=>true) (λu=>true) (λu=>true) (λu=>true) (λu=>false) (λu=>false) (λu=>false) (λu=>false) (λu=>false)
def plain:V->Bool:=V.fold V.HW (λx=>x) true and
def gZ:List V->Bool:=V.EF V.HW (λx=>x) true and
theorem fJ{v:V}{l:List V}(h:gZ (v::l)=true):plain v=true/\gZ l=true:=Bool.and_eq_true_iff.mp (show (plain v&&gZ l)=true from h)
theorem VR.plain_any{ρ ρ':List Addr}{h:Heap}{v:V}{x:Value}(r:VR ρ h v x):plain v=true->VR ρ' h v x:=
 VR.rec (motive_1:=λv x u=>plain v=true->VR ρ' h v x) (motive_2:=λl xs u=>gZ l=true->bq ρ' h l xs) (λu=>.none) (λb u=>.bool b) (λi t u=>.int i t) (λx t u=>.str x t) (λb t u=>.bytes b t)
  (λe u i p=>.tup e (i p)) (λu p=>Bool.noConfusion (p:false=true)) (λu p=>Bool.noConfusion (p:false=true)) (λu p=>Bool.noConfusion (p:false=true)) (λu p=>Bool.noConfusion (p:false=true))
  (λu=>.nil) (λu u i j p=>.cons (i (fJ p).1) (j (fJ p).2)) r
def J5(ρ:List Addr)(h:Heap)(v:V)(x:Value):Prop:=
 Value.casesOn x (v=.none) False False (λb=>v=.bool b) (λi u=>v=.int i) (λu u=>False) (λs u=>v=.str s) (λb u=>v=.bytes b) (λn=>v=.ty n) (λs=>v=.bi s)
  λa=>v=.ref a\/(∃ i,v=.obj i)\/∃ l vs n,v=.tup l/\h.get? a=some {cls:=.type "tuple",data:=.seq vs n}/\bq ρ h l vs.toList
theorem VR.lJ{ρ:List Addr}{h:Heap}{v:V}{x:Value}(r:VR ρ h v x):J5 ρ h v x:=
 VR.casesOn (motive_1:=λv x u=>J5 ρ h v x) r rfl (λu=>rfl) (λu u=>rfl) (λu u=>rfl) (λu u=>rfl) (λe r=>.inr (.inr ⟨_,_,_,rfl,e,r⟩)) (λu=>.inr (.inl ⟨_,rfl⟩)) (λu=>.inl rfl) (λu=>rfl) (λu=>rfl)
theorem zO{v w:V}{P:Prop}(e:w=v)(h:plain w=true)(n:plain v=false):P:=LW ((LH plain e).symm.trans h) (by rw[n];exact Bool.false_ne_true)
theorem VR.inj{ρ:List Addr}{h:Heap}{v w:V}{x:Value}(r:VR ρ h v x):VR ρ h w x->plain v=true->plain w=true->v=w:=
 VR.rec (motive_1:=λv x u=>∀ w,VR ρ h w x->plain v=true->plain w=true->v=w) (motive_2:=λl xs u=>∀ l',bq ρ h l' xs->gZ l=true->gZ l'=true->l=l')
  (λu b u u=>b.lJ.symm) (λu u b u u=>b.lJ.symm) (λu u u b u u=>b.lJ.symm) (λu u u b u u=>b.lJ.symm) (λu u u b u u=>b.lJ.symm)
  (λe u i w b p q=>b.lJ.elim (λz=>zO z q rfl) λz=>z.elim (λ⟨_,z⟩=>zO z q rfl) λ⟨l,vs,n,z,e',r'⟩=>by
   rw[e] at e';cases e';exact(LH V.tup (i _ r' p ((LH plain z).symm.trans q))).trans z.symm)
  (λu u u p u=>Bool.noConfusion (p:false=true)) (λu u u p u=>Bool.noConfusion (p:false=true)) (λu u u p u=>Bool.noConfusion (p:false=true)) (λu u u p u=>Bool.noConfusion (p:false=true))
  (λl' b u u=>by cases b;rfl) (λu u i j l' b p q=>by
   cases b with
   |cons c d=>
    have p:=fJ p;have q:=fJ q;rw[i _ c p.1 q.1,j _ d p.2 q.2]) r w
inductive dB{κ:Type}(KR:κ->Value->Prop)(H:κ->Int)(R:V->Value->Prop):List (κ×V)->List DictEntry->Prop
 |nil:dB KR H R [] []
 |cons {k:κ} {v:V} {e:DictEntry} {l:List (κ×V)} {es:List DictEntry}:KR k e.key->e.hash=H k->R v e.val->dB KR H R l es->dB KR H R ((k,v)::l) (e::es)
theorem dB.mono{κ:Type}{KR KR':κ->Value->Prop}{H:κ->Int}{R R':V->Value->Prop}(h1:∀ k x,KR k x->KR' k x)(h2:∀ v x,R v x->R' v x){l:List (κ×V)}{es:List DictEntry}(x:dB KR H R l es):dB KR' H R' l es:=by
 induction x with
 |nil=>exact .nil
 |cons a b c _ ih=>exact .cons (h1 _ _ a) b (h2 _ _ c) ih
theorem dB.length{κ:Type}{KR:κ->Value->Prop}{H:κ->Int}{R:V->Value->Prop}{l:List (κ×V)}{es:List DictEntry}(x:dB KR H R l es):l.length=es.length:=by
 induction x with
 |nil=>rfl
 |cons _ _ _ _ ih=>simp[ih]
noncomputable def HT(v:V):WData:=V.casesOn v .none (λb=>.bool b) (λi=>.int i) (λs=>.str s) (λb=>.bytes b.toList) (λu=>.none) (λu=>.none) (λu=>.none) (λu=>.none) (λu=>.none)
def pO(P:Params):V->WData:=V.fold HT .tuple [] List.cons
def Kx(P:Params):List V->List WData:=V.EF HT .tuple [] List.cons
def l0(x:Str)(v:Value):Prop:=∃ t,v=.str x t
def vt(i:Int)(v:Value):Prop:=∃ t,v=.int i t
def sZ(h:Heap)(l:List V)(v:Value):Prop:=∃ a,v=.ref a/\VR [] h (.tup l) (.ref a)/\gZ l=true
noncomputable def aN(es:Array DictEntry)(n:Nat):Obj:={cls:=.type "dict",data:=.dict es n}
noncomputable def aO(vs:Array Value)(n:Nat):Obj:={cls:=.type "list",data:=.seq vs n}
def KS(ρ:List Addr):Option Nat->Option Addr->Prop
 |none,da=>da=none
 |some i,da=>∃ b,da=some b/\ρ[i]?=some b
def DB(ρ:List Addr)(l:List ((Nat×Nat)×Nat))(ps:List Value):Prop:=∀ pos:Pos,match l.lookup (pos.line,pos.col) with
 |none=>codeAmong pos ps=none
 |some i=>∃ c,ρ[i]?=some c/\codeAmong pos ps=some (.ref c)
def jB(w:World)(ρ:List Addr)(h:Heap)(a:Addr):aq->Prop
 |.list l=>∃ vs n,h.get? a=some (aO vs n)/\bq ρ h l vs.toList
 |.sd l=>∃ es n,h.get? a=some (aN es n)/\dB l0 (hashStr w) (VR ρ h) l es.toList/\(l.map (·.1)).Nodup
 |.idd l n=>∃ es,h.get? a=some (aN es n)/\dB vt hashInt (VR ρ h) l es.toList/\(l.map (·.1)).Nodup
 |.td l=>∃ es n,h.get? a=some (aN es n)/\dB (sZ h) (λk=>hashW w.params (pO w.params (.tup k))) (VR ρ h) l es.toList/\(l.map (·.1)).Nodup
 |.inst c d=>∃ da,ρ[d]?=some da/\h.get? a=some {cls:=.ref c,dict:=some da,data:=.plain}
 |.exc c d raw=>∃ da vs sl,KS ρ d da/\h.get? a=some {cls:=.ref c,dict:=da,data:=.fields vs,slots:=sl}/\(raw=true->1<vs.size/\vs[1]?=some .none)
 |.tab P l=>a=P/\∃ ps,h.get? a=some (tabObj ps)/\TriplesOk ps.toList/\DB ρ l ps.toList
 |.code q=>h.CodeRec (.ref a) q
structure Rep(w:World)(base:Heap)(ρ:List Addr)(σ:ai)(h:Heap):Prop where
 len:ρ.length=σ.length
 nd:ρ.Nodup
 obj:∀ (i:Nat) (o:aq) (a:Addr),σ[i]?=some o->ρ[i]?=some a->jB w ρ h a o
 sub:∀ b o,base.get? b=some o->h.get? b=some o
 off:∀ a∈ρ,base.get? a=none
 glob:∃ o,base.get? mainGlobals=some o
 low:∀ a∈ρ,mainGlobals<a
theorem iI{o:Obj}(h:o.cls≠.type "tuple")(vs:Array Value)(n:Nat):o≠{cls:=.type "tuple",data:=.seq vs n}:=λe=>h (LH Obj.cls e)
theorem ty_list:Value.type "list"≠.type "tuple":=by decide
theorem ty_dict:Value.type "dict"≠.type "tuple":=by decide
theorem jB.get{w:World}{ρ:List Addr}{h:Heap}{a:Addr}{o:aq}(x:jB w ρ h a o):∃ ob,h.get? a=some ob/\∀ vs n,ob≠{cls:=.type "tuple",data:=.seq vs n}:=by
 cases o with
 |list l=>exact x.elim λu x=>x.elim λu x=>⟨_,x.1,iI ty_list⟩
 |sd l=>exact x.elim λu x=>x.elim λu x=>⟨_,x.1,iI ty_dict⟩
 |idd l n=>exact x.elim λu x=>⟨_,x.1,iI ty_dict⟩
 |td l=>exact x.elim λu x=>x.elim λu x=>⟨_,x.1,iI ty_dict⟩
 |inst c d=>exact x.elim λu x=>⟨_,x.2,iI (λe=>nomatch e)⟩
 |exc c d=>exact x.elim λu x=>x.elim λu x=>x.elim λu x=>⟨_,x.2.1,iI (λe=>nomatch e)⟩
 |tab P l=>exact x.2.elim λu x=>⟨_,x.1,iI (λe=>nomatch e)⟩
 |code q=>obtain⟨c,o,vs,t,e,e1,e2,_⟩:=x;cases e;exact⟨_,e1,λu u z=>by subst z;cases e2⟩
section
variable{w:World}{base:Heap}{ρ:List Addr}{σ:ai}{h:Heap}
theorem Rep.at(D:Rep w base ρ σ h){a:Addr}(ha:a∈ρ):∃ (i:Nat) (o:aq),σ[i]?=some o/\ρ[i]?=some a/\jB w ρ h a o:=by
 obtain⟨i,hi⟩:=List.mem_iff_getElem?.mp ha;have hlt:i<σ.length:=by rw[<- D.len];exact(LA hi).1
 exact⟨i,σ[i],List.getElem?_eq_getElem hlt,hi,D.obj i _ a (List.getElem?_eq_getElem hlt) hi⟩
theorem Rep.there(D:Rep w base ρ σ h){a:Addr}(ha:a∈ρ):∃ ob,h.get? a=some ob/\∀ vs n,ob≠{cls:=.type "tuple",data:=.seq vs n}:=by
 obtain⟨_,_,_,_,x⟩:=D.at ha;exact x.get
theorem Rep.lt(D:Rep w base ρ σ h){a:Addr}(ha:a∈ρ):a<h.objs.size:=by
 obtain⟨_,e,_⟩:=D.there ha;exact LM e
theorem Rep.JQ(D:Rep w base ρ σ h){a:Addr}{vs:Array Value}{n:Nat}(e:h.get? a=some {cls:=.type "tuple",data:=.seq vs n}):a∉ρ:=λha=>by
 obtain⟨ob,e',hc⟩:=D.there ha;rw[e] at e';cases e';exact hc _ _ rfl
theorem Rep.addr(D:Rep w base ρ σ h){i:Nat}{o:aq}(e:σ[i]?=some o):∃ a,ρ[i]?=some a/\jB w ρ h a o:=by
 have hlt:i<ρ.length:=by rw[D.len];exact(LA e).1
 exact⟨ρ[i],List.getElem?_eq_getElem hlt,D.obj i o _ e (List.getElem?_eq_getElem hlt)⟩
end
noncomputable def frs(A:Around):List Addr:=(A.frames.getD []).filterMap (·.frame)
structure Goes(FR X:List Addr)(ρ ρ':List Addr)(h h':Heap):Prop where
 pre:∃ l,ρ'=ρ++l
 keep:∀ a o,h.get? a=some o->a∉ρ->a∉X->∃ o',h'.get? a=some o'/\(o'=o\/(a∈FR/\∃ sl,o'={o with slots:=sl}))
 fresh:∀ a∈ρ',a∈ρ\/h.get? a=none
 xs:∀ a∈X,∀ o,h.get? a=some o->∃ o',h'.get? a=some o'/\((∀ vs n,o.data≠.seq vs n)->∀ vs n,o'.data≠.seq vs n)/\((∀ vs,o.data≠.fields vs)->∀ vs,o'.data≠.fields vs)
section
variable{FR X:List Addr}{ρ ρ' ρ'':List Addr}{h h' h'':Heap}
theorem Goes.refl:Goes FR X ρ ρ h h:=⟨⟨[],by simp⟩,λu o e u u=>⟨o,e,.inl rfl⟩,λu ha=>.inl ha,λu u o e=>⟨o,e,id,id⟩⟩
theorem Goes.idx(G:Goes FR X ρ ρ' h h'){i:Nat}{a:Addr}(e:ρ[i]?=some a):ρ'[i]?=some a:=by
 obtain⟨l,rfl⟩:=G.pre;rw[List.getElem?_append_left (List.getElem?_eq_some_iff.mp e).1];exact e
theorem Goes.gu(G:Goes FR X ρ ρ' h h'){a:Addr}{o:Obj}(e:h.get? a=some o)(n:a∉ρ):a∉ρ':=λq=>by
 rcases G.fresh a q with q|q
 ·exact n q
 ·rw[e] at q;cases q
theorem Goes.trans(G:Goes FR X ρ ρ' h h')(G':Goes FR X ρ' ρ'' h' h''):Goes FR X ρ ρ'' h h'':=by
 refine⟨?_,λa o e n x=>?_,λa ha=>?_,λa ha o e=>?_⟩
 ·obtain⟨l,rfl⟩:=G.pre;obtain⟨l',rfl⟩:=G'.pre;exact⟨l++l',by simp⟩
 ·obtain⟨o',e',q⟩:=G.keep a o e n x;obtain⟨o'',e'',q'⟩:=G'.keep a o' e' (G.gu e n) x;refine⟨o'',e'',?_⟩;rcases q with rfl|⟨f,sl,rfl⟩
  ·exact q'
  ·rcases q' with rfl|⟨_,sl',rfl⟩
   ·exact .inr ⟨f,sl,rfl⟩
   ·exact .inr ⟨f,sl',rfl⟩
 ·rcases G'.fresh a ha with q|q
  ·exact G.fresh a q
  ·by_cases r:a∈ρ
   ·exact .inl r
   ·right;exact Option.eq_none_iff_forall_ne_some.mpr λo e=>by
     have z:∃ o',h'.get? a=some o':=by
      by_cases x:a∈X
      ·exact(G.xs a x o e).imp λu z=>z.1
      ·exact(G.keep a o e r x).imp λu z=>z.1
     exact z.elim λu z=>nomatch q.symm.trans z
 ·obtain⟨o',e',c',d'⟩:=G.xs a ha o e;obtain⟨o'',e'',c'',d''⟩:=G'.xs a ha o' e';exact⟨o'',e'',λz=>c'' (c' z),λz=>d'' (d' z)⟩
theorem Goes.there{w:World}{base:Heap}{σ:ai}(G:Goes FR X ρ ρ' h h')(D:Rep w base ρ' σ h'){a:Addr}{o:Obj}(e:h.get? a=some o):∃ o',h'.get? a=some o':=by
 by_cases r:a∈ρ
 ·obtain⟨l,rfl⟩:=G.pre;obtain⟨o',e',_⟩:=D.there (List.mem_append_left _ r);exact⟨o',e'⟩
 ·by_cases x:a∈X
  ·obtain⟨o',e',_⟩:=G.xs a x o e;exact⟨o',e'⟩
  ·obtain⟨o',e',_⟩:=G.keep a o e r x;exact⟨o',e'⟩
theorem Goes.mono{FR' X':List Addr}(G:Goes FR X ρ ρ' h h')(hf:∀ a o,h.get? a=some o->a∈FR->a∈FR')(hx:∀ a o,h.get? a=some o->a∈X->a∈X')(hX:∀ a o,h.get? a=some o->a∈X'->a∈X\/a∉ρ):Goes FR' X' ρ ρ' h h':=by
 refine⟨G.pre,λa o e n x=>?_,G.fresh,λa ha o e=>?_⟩
 ·obtain⟨o',e',q⟩:=G.keep a o e n λq=>x (hx a o e q);exact⟨o',e',q.imp id λ⟨f,sl⟩=>⟨hf a o e f,sl⟩⟩
 ·by_cases q:a∈X
  ·exact G.xs a q o e
  ·obtain⟨o',e',r⟩:=G.keep a o e ((hX a o e ha).resolve_left q) q;refine⟨o',e',?_⟩;rcases r with rfl|⟨_,sl,rfl⟩<;>exact⟨id,id⟩
theorem Goes.exact(G:Goes FR X ρ ρ' h h'){a:Addr}{o:Obj}(e:h.get? a=some o)(n:a∉ρ)(x:a∉X)(f:a∉FR):h'.get? a=some o:=by
 obtain⟨o',e',q⟩:=G.keep a o e n x;rcases q with rfl|⟨f',_⟩
 ·exact e'
 ·exact LW f' f
end
def zp(α:Type){i:Nonempty α}{p:α->Prop}:α:=@Classical.epsilon α i p
theorem lU{α:Type}[i:Nonempty α]{p:α->Prop}{G:Prop}(h:∃ x,p x)(k:p (zp α (i:=i) (p:=p))->G):G:=k (Classical.epsilon_spec h)
def A1(α:Type){i:Nonempty α}{P:α->Prop}:α:=zp α (i:=i) (p:=λx=>¬P x)
theorem n8{α:Type}[i:Nonempty α]{P:α->Prop}(h:P (A1 α (i:=i) (P:=P))):∀ x,P x:=λx=>Classical.byContradiction λn=>(@Classical.epsilon_spec α (λx=>¬P x) ⟨x,n⟩) h
def PT(P:(γ:Type)->Nonempty γ->Prop):(γ:Type) ×' Nonempty γ:=@Classical.epsilon _ ⟨⟨Nat,⟨0⟩⟩⟩ λx=>¬P x.1 x.2
theorem Ia{P:(γ:Type)->Nonempty γ->Prop}(h:P (PT P).1 (PT P).2):∀ γ i,P γ i:=λγ i=>Classical.byContradiction λn=>(Classical.epsilon_spec (p:=λx:(γ:Type) ×' Nonempty γ=>¬P x.1 x.2) ⟨⟨γ,i⟩,n⟩) h
instance (c:(γ:Type) ×' Nonempty γ):Nonempty c.1:=c.2
def nj(α0:Type){α1:Type}{i0:Nonempty α0}{i1:Nonempty α1}{P:α0->α1->Prop}:α0:=A1 α0 (i:=i0) (P:=λx0=>∀ x1,P  x0 x1)
def oO(α1:Type){α0:Type}{i0:Nonempty α0}{i1:Nonempty α1}{P:α0->α1->Prop}:α1:=A1 α1 (i:=i1) (P:=λx1=>P (nj α0 (i0:=i0) (i1:=i1) (P:=P)) x1)
theorem uU{α0 α1:Type}[i0:Nonempty α0][i1:Nonempty α1]{P:α0->α1->Prop}(h:P (nj α0 (i0:=i0) (i1:=i1) (P:=P)) (oO α1 (i0:=i0) (i1:=i1) (P:=P))):∀ x0 x1,P x0 x1:=
 n8 (n8 (h))
def BD(α0:Type){α1:Type}{i0:Nonempty α0}{i1:Nonempty α1}{P:α0->α1->Prop}:α0:=zp α0 (i:=i0) (p:=λx0=>∃ x1,P  x0 x1)
def Ds(α1:Type){α0:Type}{i0:Nonempty α0}{i1:Nonempty α1}{P:α0->α1->Prop}:α1:=zp α1 (i:=i1) (p:=λx1=>P (BD α0 (i0:=i0) (i1:=i1) (P:=P)) x1)
theorem JV{α0 α1:Type}[i0:Nonempty α0][i1:Nonempty α1]{P:α0->α1->Prop}{G:Prop}(h:∃ x0 x1,P x0 x1)(k:P (BD α0 (i0:=i0) (i1:=i1) (P:=P)) (Ds α1 (i0:=i0) (i1:=i1) (P:=P))->G):G:=
 lU h λh1=>lU h1 λh2=>k h2
def D0(α0:Type){α1 α2:Type}{i0:Nonempty α0}{i1:Nonempty α1}{i2:Nonempty α2}{P:α0->α1->α2->Prop}:α0:=A1 α0 (i:=i0) (P:=λx0=>∀ x1 x2,P  x0 x1 x2)
def GK(α1:Type){α0 α2:Type}{i0:Nonempty α0}{i1:Nonempty α1}{i2:Nonempty α2}{P:α0->α1->α2->Prop}:α1:=A1 α1 (i:=i1) (P:=λx1=>∀ x2,P (D0 α0 (i0:=i0) (i1:=i1) (i2:=i2) (P:=P)) x1 x2)
def JP(α2:Type){α0 α1:Type}{i0:Nonempty α0}{i1:Nonempty α1}{i2:Nonempty α2}{P:α0->α1->α2->Prop}:α2:=A1 α2 (i:=i2) (P:=λx2=>P (D0 α0 (i0:=i0) (i1:=i1) (i2:=i2) (P:=P)) (GK α1 (i0:=i0) (i1:=i1) (i2:=i2) (P:=P)) x2)
theorem Lu{α0 α1 α2:Type}[i0:Nonempty α0][i1:Nonempty α1][i2:Nonempty α2]{P:α0->α1->α2->Prop}(h:P (D0 α0 (i0:=i0) (i1:=i1) (i2:=i2) (P:=P)) (GK α1 (i0:=i0) (i1:=i1) (i2:=i2) (P:=P)) (JP α2 (i0:=i0) (i1:=i1) (i2:=i2) (P:=P))):∀ x0 x1 x2,P x0 x1 x2:=
 n8 (n8 (n8 (h)))
def EC(α0:Type){α1 α2:Type}{i0:Nonempty α0}{i1:Nonempty α1}{i2:Nonempty α2}{P:α0->α1->α2->Prop}:α0:=zp α0 (i:=i0) (p:=λx0=>∃ x1 x2,P  x0 x1 x2)
def Gm(α1:Type){α0 α2:Type}{i0:Nonempty α0}{i1:Nonempty α1}{i2:Nonempty α2}{P:α0->α1->α2->Prop}:α1:=zp α1 (i:=i1) (p:=λx1=>∃ x2,P (EC α0 (i0:=i0) (i1:=i1) (i2:=i2) (P:=P)) x1 x2)
def J1(α2:Type){α0 α1:Type}{i0:Nonempty α0}{i1:Nonempty α1}{i2:Nonempty α2}{P:α0->α1->α2->Prop}:α2:=zp α2 (i:=i2) (p:=λx2=>P (EC α0 (i0:=i0) (i1:=i1) (i2:=i2) (P:=P)) (Gm α1 (i0:=i0) (i1:=i1) (i2:=i2) (P:=P)) x2)
theorem Lq{α0 α1 α2:Type}[i0:Nonempty α0][i1:Nonempty α1][i2:Nonempty α2]{P:α0->α1->α2->Prop}{G:Prop}(h:∃ x0 x1 x2,P x0 x1 x2)(k:P (EC α0 (i0:=i0) (i1:=i1) (i2:=i2) (P:=P)) (Gm α1 (i0:=i0) (i1:=i1) (i2:=i2) (P:=P)) (J1 α2 (i0:=i0) (i1:=i1) (i2:=i2) (P:=P))->G):G:=
 lU h λh1=>lU h1 λh2=>lU h2 λh3=>k h3
def pZ(α0:Type){α1 α2 α3:Type}{i0:Nonempty α0}{i1:Nonempty α1}{i2:Nonempty α2}{i3:Nonempty α3}{P:α0->α1->α2->α3->Prop}:α0:=A1 α0 (i:=i0) (P:=λx0=>∀ x1 x2 x3,P  x0 x1 x2 x3)
def rU(α1:Type){α0 α2 α3:Type}{i0:Nonempty α0}{i1:Nonempty α1}{i2:Nonempty α2}{i3:Nonempty α3}{P:α0->α1->α2->α3->Prop}:α1:=A1 α1 (i:=i1) (P:=λx1=>∀ x2 x3,P (pZ α0 (i0:=i0) (i1:=i1) (i2:=i2) (i3:=i3) (P:=P)) x1 x2 x3)
def uP(α2:Type){α0 α1 α3:Type}{i0:Nonempty α0}{i1:Nonempty α1}{i2:Nonempty α2}{i3:Nonempty α3}{P:α0->α1->α2->α3->Prop}:α2:=A1 α2 (i:=i2) (P:=λx2=>∀ x3,P (pZ α0 (i0:=i0) (i1:=i1) (i2:=i2) (i3:=i3) (P:=P)) (rU α1 (i0:=i0) (i1:=i1) (i2:=i2) (i3:=i3) (P:=P)) x2 x3)
def wQ(α3:Type){α0 α1 α2:Type}{i0:Nonempty α0}{i1:Nonempty α1}{i2:Nonempty α2}{i3:Nonempty α3}{P:α0->α1->α2->α3->Prop}:α3:=A1 α3 (i:=i3) (P:=λx3=>P (pZ α0 (i0:=i0) (i1:=i1) (i2:=i2) (i3:=i3) (P:=P)) (rU α1 (i0:=i0) (i1:=i1) (i2:=i2) (i3:=i3) (P:=P)) (uP α2 (i0:=i0) (i1:=i1) (i2:=i2) (i3:=i3) (P:=P)) x3)
theorem F5{α0 α1 α2 α3:Type}[i0:Nonempty α0][i1:Nonempty α1][i2:Nonempty α2][i3:Nonempty α3]{P:α0->α1->α2->α3->Prop}(h:P (pZ α0 (i0:=i0) (i1:=i1) (i2:=i2) (i3:=i3) (P:=P)) (rU α1 (i0:=i0) (i1:=i1) (i2:=i2) (i3:=i3) (P:=P)) (uP α2 (i0:=i0) (i1:=i1) (i2:=i2) (i3:=i3) (P:=P)) (wQ α3 (i0:=i0) (i1:=i1) (i2:=i2) (i3:=i3) (P:=P))):∀ x0 x1 x2 x3,P x0 x1 x2 x3:=
 n8 (n8 (n8 (n8 (h))))
def Br(α0:Type){α1 α2 α3:Type}{i0:Nonempty α0}{i1:Nonempty α1}{i2:Nonempty α2}{i3:Nonempty α3}{P:α0->α1->α2->α3->Prop}:α0:=zp α0 (i:=i0) (p:=λx0=>∃ x1 x2 x3,P  x0 x1 x2 x3)
def Dq(α1:Type){α0 α2 α3:Type}{i0:Nonempty α0}{i1:Nonempty α1}{i2:Nonempty α2}{i3:Nonempty α3}{P:α0->α1->α2->α3->Prop}:α1:=zp α1 (i:=i1) (p:=λx1=>∃ x2 x3,P (Br α0 (i0:=i0) (i1:=i1) (i2:=i2) (i3:=i3) (P:=P)) x1 x2 x3)
def HN(α2:Type){α0 α1 α3:Type}{i0:Nonempty α0}{i1:Nonempty α1}{i2:Nonempty α2}{i3:Nonempty α3}{P:α0->α1->α2->α3->Prop}:α2:=zp α2 (i:=i2) (p:=λx2=>∃ x3,P (Br α0 (i0:=i0) (i1:=i1) (i2:=i2) (i3:=i3) (P:=P)) (Dq α1 (i0:=i0) (i1:=i1) (i2:=i2) (i3:=i3) (P:=P)) x2 x3)
def JT(α3:Type){α0 α1 α2:Type}{i0:Nonempty α0}{i1:Nonempty α1}{i2:Nonempty α2}{i3:Nonempty α3}{P:α0->α1->α2->α3->Prop}:α3:=zp α3 (i:=i3) (p:=λx3=>P (Br α0 (i0:=i0) (i1:=i1) (i2:=i2) (i3:=i3) (P:=P)) (Dq α1 (i0:=i0) (i1:=i1) (i2:=i2) (i3:=i3) (P:=P)) (HN α2 (i0:=i0) (i1:=i1) (i2:=i2) (i3:=i3) (P:=P)) x3)
theorem Lr{α0 α1 α2 α3:Type}[i0:Nonempty α0][i1:Nonempty α1][i2:Nonempty α2][i3:Nonempty α3]{P:α0->α1->α2->α3->Prop}{G:Prop}(h:∃ x0 x1 x2 x3,P x0 x1 x2 x3)(k:P (Br α0 (i0:=i0) (i1:=i1) (i2:=i2) (i3:=i3) (P:=P)) (Dq α1 (i0:=i0) (i1:=i1) (i2:=i2) (i3:=i3) (P:=P)) (HN α2 (i0:=i0) (i1:=i1) (i2:=i2) (i3:=i3) (P:=P)) (JT α3 (i0:=i0) (i1:=i1) (i2:=i2) (i3:=i3) (P:=P))->G):G:=
 lU h λh1=>lU h1 λh2=>lU h2 λh3=>lU h3 λh4=>k h4
instance:Nonempty World:=⟨aWorld 1⟩
instance:Nonempty Around:=⟨callerA⟩
instance:Nonempty Shared:=⟨(start PySem.Challenge.pw_xm0211_01).1⟩
instance:Nonempty V:=⟨.none⟩
instance:Nonempty aq:=⟨.list []⟩
instance {α:Type}:Nonempty (M α):=⟨λu=>none⟩
instance:Nonempty Drawn:=⟨{}⟩
instance {α ε:Type} [i:Nonempty ε]:Nonempty (Except ε α):=i.elim λe=>⟨.error e⟩
def ee{α:Type}(i:Nonempty α)(P:α->Prop):α:=@Classical.epsilon α i λx=>¬P x
theorem zJ{α:Type}{i:Nonempty α}{P:α->Prop}(h:P (ee i P)):∀ x,P x:=λx=>Classical.byContradiction λn=>(@Classical.epsilon_spec α (λx=>¬P x) ⟨x,n⟩) h
def dm{a0 a1 a2 a3 a4 a5 a6 a7 a8 a9:Type}{i:Nonempty (((a0×a1)×a2×a3×a4)×(a5×a6)×a7×a8×a9)}{P:a0->a1->a2->a3->a4->a5->a6->a7->a8->a9->Prop}:=ee i λt=>P t.1.1.1 t.1.1.2 t.1.2.1 t.1.2.2.1 t.1.2.2.2 t.2.1.1 t.2.1.2 t.2.2.1 t.2.2.2.1 t.2.2.2.2
theorem cK{a0 a1 a2 a3 a4 a5 a6 a7 a8 a9:Type}[i:Nonempty (((a0×a1)×a2×a3×a4)×(a5×a6)×a7×a8×a9)]{P:a0->a1->a2->a3->a4->a5->a6->a7->a8->a9->Prop}(h:P (dm (i:=i) (P:=P)).1.1.1 (dm (i:=i) (P:=P)).1.1.2 (dm (i:=i) (P:=P)).1.2.1 (dm (i:=i) (P:=P)).1.2.2.1 (dm (i:=i) (P:=P)).1.2.2.2 (dm (i:=i) (P:=P)).2.1.1 (dm (i:=i) (P:=P)).2.1.2 (dm (i:=i) (P:=P)).2.2.1 (dm (i:=i) (P:=P)).2.2.2.1 (dm (i:=i) (P:=P)).2.2.2.2):∀ x0 x1 x2 x3 x4 x5 x6 x7 x8 x9,P x0 x1 x2 x3 x4 x5 x6 x7 x8 x9:=λx0 x1 x2 x3 x4 x5 x6 x7 x8 x9=>zJ (i:=i) (P:=λt=>P t.1.1.1 t.1.1.2 t.1.2.1 t.1.2.2.1 t.1.2.2.2 t.2.1.1 t.2.1.2 t.2.2.1 t.2.2.2.1 t.2.2.2.2) h (((x0,x1),(x2,(x3,x4))),((x5,x6),(x7,(x8,x9))))
def cM{a0 a1 a2 a3 a4 a5 a6 a7 a8 a9 a10 a11 a12 a13:Type}{i:Nonempty (((a0×a1×a2)×(a3×a4)×a5×a6)×(a7×a8×a9)×(a10×a11)×a12×a13)}{P:a0->a1->a2->a3->a4->a5->a6->a7->a8->a9->a10->a11->a12->a13->Prop}:=ee i λt=>P t.1.1.1 t.1.1.2.1 t.1.1.2.2 t.1.2.1.1 t.1.2.1.2 t.1.2.2.1 t.1.2.2.2 t.2.1.1 t.2.1.2.1 t.2.1.2.2 t.2.2.1.1 t.2.2.1.2 t.2.2.2.1 t.2.2.2.2
theorem b9{a0 a1 a2 a3 a4 a5 a6 a7 a8 a9 a10 a11 a12 a13:Type}[i:Nonempty (((a0×a1×a2)×(a3×a4)×a5×a6)×(a7×a8×a9)×(a10×a11)×a12×a13)]{P:a0->a1->a2->a3->a4->a5->a6->a7->a8->a9->a10->a11->a12->a13->Prop}(h:P (cM (i:=i) (P:=P)).1.1.1 (cM (i:=i) (P:=P)).1.1.2.1 (cM (i:=i) (P:=P)).1.1.2.2 (cM (i:=i) (P:=P)).1.2.1.1 (cM (i:=i) (P:=P)).1.2.1.2 (cM (i:=i) (P:=P)).1.2.2.1 (cM (i:=i) (P:=P)).1.2.2.2 (cM (i:=i) (P:=P)).2.1.1 (cM (i:=i) (P:=P)).2.1.2.1 (cM (i:=i) (P:=P)).2.1.2.2 (cM (i:=i) (P:=P)).2.2.1.1 (cM (i:=i) (P:=P)).2.2.1.2 (cM (i:=i) (P:=P)).2.2.2.1 (cM (i:=i) (P:=P)).2.2.2.2):∀ x0 x1 x2 x3 x4 x5 x6 x7 x8 x9 x10 x11 x12 x13,P x0 x1 x2 x3 x4 x5 x6 x7 x8 x9 x10 x11 x12 x13:=λx0 x1 x2 x3 x4 x5 x6 x7 x8 x9 x10 x11 x12 x13=>zJ (i:=i) (P:=λt=>P t.1.1.1 t.1.1.2.1 t.1.1.2.2 t.1.2.1.1 t.1.2.1.2 t.1.2.2.1 t.1.2.2.2 t.2.1.1 t.2.1.2.1 t.2.1.2.2 t.2.2.1.1 t.2.2.1.2 t.2.2.2.1 t.2.2.2.2) h (((x0,(x1,x2)),((x3,x4),(x5,x6))),((x7,(x8,x9)),((x10,x11),(x12,x13))))
def gm{a0 a1 a2 a3 a4 a5 a6 a7 a8 a9 a10 a11 a12 a13 a14 a15 a16 a17 a18 a19:Type}{i:Nonempty ((((a0×a1)×a2×a3×a4)×(a5×a6)×a7×a8×a9)×((a10×a11)×a12×a13×a14)×(a15×a16)×a17×a18×a19)}{P:a0->a1->a2->a3->a4->a5->a6->a7->a8->a9->a10->a11->a12->a13->a14->a15->a16->a17->a18->a19->Prop}:=ee i λt=>P t.1.1.1.1 t.1.1.1.2 t.1.1.2.1 t.1.1.2.2.1 t.1.1.2.2.2 t.1.2.1.1 t.1.2.1.2 t.1.2.2.1 t.1.2.2.2.1 t.1.2.2.2.2 t.2.1.1.1 t.2.1.1.2 t.2.1.2.1 t.2.1.2.2.1 t.2.1.2.2.2 t.2.2.1.1 t.2.2.1.2 t.2.2.2.1 t.2.2.2.2.1 t.2.2.2.2.2
theorem nS{a0 a1 a2 a3 a4 a5 a6 a7 a8 a9 a10 a11 a12 a13 a14 a15 a16 a17 a18 a19:Type}[i:Nonempty ((((a0×a1)×a2×a3×a4)×(a5×a6)×a7×a8×a9)×((a10×a11)×a12×a13×a14)×(a15×a16)×a17×a18×a19)]{P:a0->a1->a2->a3->a4->a5->a6->a7->a8->a9->a10->a11->a12->a13->a14->a15->a16->a17->a18->a19->Prop}(h:P (gm (i:=i) (P:=P)).1.1.1.1 (gm (i:=i) (P:=P)).1.1.1.2 (gm (i:=i) (P:=P)).1.1.2.1 (gm (i:=i) (P:=P)).1.1.2.2.1 (gm (i:=i) (P:=P)).1.1.2.2.2 (gm (i:=i) (P:=P)).1.2.1.1 (gm (i:=i) (P:=P)).1.2.1.2 (gm (i:=i) (P:=P)).1.2.2.1 (gm (i:=i) (P:=P)).1.2.2.2.1 (gm (i:=i) (P:=P)).1.2.2.2.2 (gm (i:=i) (P:=P)).2.1.1.1 (gm (i:=i) (P:=P)).2.1.1.2 (gm (i:=i) (P:=P)).2.1.2.1 (gm (i:=i) (P:=P)).2.1.2.2.1 (gm (i:=i) (P:=P)).2.1.2.2.2 (gm (i:=i) (P:=P)).2.2.1.1 (gm (i:=i) (P:=P)).2.2.1.2 (gm (i:=i) (P:=P)).2.2.2.1 (gm (i:=i) (P:=P)).2.2.2.2.1 (gm (i:=i) (P:=P)).2.2.2.2.2):∀ x0 x1 x2 x3 x4 x5 x6 x7 x8 x9 x10 x11 x12 x13 x14 x15 x16 x17 x18 x19,P x0 x1 x2 x3 x4 x5 x6 x7 x8 x9 x10 x11 x12 x13 x14 x15 x16 x17 x18 x19:=λx0 x1 x2 x3 x4 x5 x6 x7 x8 x9 x10 x11 x12 x13 x14 x15 x16 x17 x18 x19=>zJ (i:=i) (P:=λt=>P t.1.1.1.1 t.1.1.1.2 t.1.1.2.1 t.1.1.2.2.1 t.1.1.2.2.2 t.1.2.1.1 t.1.2.1.2 t.1.2.2.1 t.1.2.2.2.1 t.1.2.2.2.2 t.2.1.1.1 t.2.1.1.2 t.2.1.2.1 t.2.1.2.2.1 t.2.1.2.2.2 t.2.2.1.1 t.2.2.1.2 t.2.2.2.1 t.2.2.2.2.1 t.2.2.2.2.2) h ((((x0,x1),(x2,(x3,x4))),((x5,x6),(x7,(x8,x9)))),(((x10,x11),(x12,(x13,x14))),((x15,x16),(x17,(x18,x19)))))
def fH{a0 a1 a2 a3 a4 a5 a6 a7 a8 a9 a10 a11 a12 a13 a14 a15 a16 a17 a18 a19 a20 a21 a22 a23 a24 a25 a26 a27:Type}{i:Nonempty ((((a0×a1×a2)×(a3×a4)×a5×a6)×(a7×a8×a9)×(a10×a11)×a12×a13)×((a14×a15×a16)×(a17×a18)×a19×a20)×(a21×a22×a23)×(a24×a25)×a26×a27)}{P:a0->a1->a2->a3->a4->a5->a6->a7->a8->a9->a10->a11->a12->a13->a14->a15->a16->a17->a18->a19->a20->a21->a22->a23->a24->a25->a26->a27->Prop}:=ee i λt=>P t.1.1.1.1 t.1.1.1.2.1 t.1.1.1.2.2 t.1.1.2.1.1 t.1.1.2.1.2 t.1.1.2.2.1 t.1.1.2.2.2 t.1.2.1.1 t.1.2.1.2.1 t.1.2.1.2.2 t.1.2.2.1.1 t.1.2.2.1.2 t.1.2.2.2.1 t.1.2.2.2.2 t.2.1.1.1 t.2.1.1.2.1 t.2.1.1.2.2 t.2.1.2.1.1 t.2.1.2.1.2 t.2.1.2.2.1 t.2.1.2.2.2 t.2.2.1.1 t.2.2.1.2.1 t.2.2.1.2.2 t.2.2.2.1.1 t.2.2.2.1.2 t.2.2.2.2.1 t.2.2.2.2.2
theorem zD{a0 a1 a2 a3 a4 a5 a6 a7 a8 a9 a10 a11 a12 a13 a14 a15 a16 a17 a18 a19 a20 a21 a22 a23 a24 a25 a26 a27:Type}[i:Nonempty ((((a0×a1×a2)×(a3×a4)×a5×a6)×(a7×a8×a9)×(a10×a11)×a12×a13)×((a14×a15×a16)×(a17×a18)×a19×a20)×(a21×a22×a23)×(a24×a25)×a26×a27)]{P:a0->a1->a2->a3->a4->a5->a6->a7->a8->a9->a10->a11->a12->a13->a14->a15->a16->a17->a18->a19->a20->a21->a22->a23->a24->a25->a26->a27->Prop}(h:P (fH (i:=i) (P:=P)).1.1.1.1 (fH (i:=i) (P:=P)).1.1.1.2.1 (fH (i:=i) (P:=P)).1.1.1.2.2 (fH (i:=i) (P:=P)).1.1.2.1.1 (fH (i:=i) (P:=P)).1.1.2.1.2 (fH (i:=i) (P:=P)).1.1.2.2.1 (fH (i:=i) (P:=P)).1.1.2.2.2 (fH (i:=i) (P:=P)).1.2.1.1 (fH (i:=i) (P:=P)).1.2.1.2.1 (fH (i:=i) (P:=P)).1.2.1.2.2 (fH (i:=i) (P:=P)).1.2.2.1.1 (fH (i:=i) (P:=P)).1.2.2.1.2 (fH (i:=i) (P:=P)).1.2.2.2.1 (fH (i:=i) (P:=P)).1.2.2.2.2 (fH (i:=i) (P:=P)).2.1.1.1 (fH (i:=i) (P:=P)).2.1.1.2.1 (fH (i:=i) (P:=P)).2.1.1.2.2 (fH (i:=i) (P:=P)).2.1.2.1.1 (fH (i:=i) (P:=P)).2.1.2.1.2 (fH (i:=i) (P:=P)).2.1.2.2.1 (fH (i:=i) (P:=P)).2.1.2.2.2 (fH (i:=i) (P:=P)).2.2.1.1 (fH (i:=i) (P:=P)).2.2.1.2.1 (fH (i:=i) (P:=P)).2.2.1.2.2 (fH (i:=i) (P:=P)).2.2.2.1.1 (fH (i:=i) (P:=P)).2.2.2.1.2 (fH (i:=i) (P:=P)).2.2.2.2.1 (fH (i:=i) (P:=P)).2.2.2.2.2):∀ x0 x1 x2 x3 x4 x5 x6 x7 x8 x9 x10 x11 x12 x13 x14 x15 x16 x17 x18 x19 x20 x21 x22 x23 x24 x25 x26 x27,P x0 x1 x2 x3 x4 x5 x6 x7 x8 x9 x10 x11 x12 x13 x14 x15 x16 x17 x18 x19 x20 x21 x22 x23 x24 x25 x26 x27:=λx0 x1 x2 x3 x4 x5 x6 x7 x8 x9 x10 x11 x12 x13 x14 x15 x16 x17 x18 x19 x20 x21 x22 x23 x24 x25 x26 x27=>zJ (i:=i) (P:=λt=>P t.1.1.1.1 t.1.1.1.2.1 t.1.1.1.2.2 t.1.1.2.1.1 t.1.1.2.1.2 t.1.1.2.2.1 t.1.1.2.2.2 t.1.2.1.1 t.1.2.1.2.1 t.1.2.1.2.2 t.1.2.2.1.1 t.1.2.2.1.2 t.1.2.2.2.1 t.1.2.2.2.2 t.2.1.1.1 t.2.1.1.2.1 t.2.1.1.2.2 t.2.1.2.1.1 t.2.1.2.1.2 t.2.1.2.2.1 t.2.1.2.2.2 t.2.2.1.1 t.2.2.1.2.1 t.2.2.1.2.2 t.2.2.2.1.1 t.2.2.2.1.2 t.2.2.2.2.1 t.2.2.2.2.2) h ((((x0,(x1,x2)),((x3,x4),(x5,x6))),((x7,(x8,x9)),((x10,x11),(x12,x13)))),(((x14,(x15,x16)),((x17,x18),(x19,x20))),((x21,(x22,x23)),((x24,x25),(x26,x27)))))
section
local macro_rules
  |`(tactic| intros $x:ident)=>`(tactic| (apply n8;generalize A1 _=$x))
  |`(tactic| intros $x:ident $y:ident)=>`(tactic| (apply uU;generalize nj _=$x,oO _=$y))
  |`(tactic| intros $x:ident $y:ident $z:ident)=>`(tactic| (apply Lu;generalize D0 _=$x,GK _=$y,JP _=$z))
  |`(tactic| intros $x:ident $y:ident $z:ident $w:ident)=>`(tactic| (apply F5;generalize pZ _=$x,rU _=$y,uP _=$z,wQ _=$w))
local macro_rules
  |`(tactic| injection $e with $c:ident $x:ident $h:ident)=>`(tactic| (refine lU $e ?_;(try clear $c);generalize zp _=$x;intro $h:ident))
  |`(tactic| injection $e with $c:ident $x:ident $y:ident $h:ident)=>`(tactic| (refine JV $e ?_;(try clear $c);generalize BD _=$x,Ds _=$y;intro $h:ident))
  |`(tactic| injection $e with $c:ident $x:ident $y:ident $z:ident $h:ident)=>`(tactic| (refine Lq $e ?_;(try clear $c);generalize EC _=$x,Gm _=$y,J1 _=$z;intro $h:ident))
  |`(tactic| injection $e with $c:ident $x:ident $y:ident $z:ident $w:ident $h:ident)=>`(tactic| (refine Lr $e ?_;(try clear $c);generalize Br _=$x,Dq _=$y,HN _=$z,JT _=$w;intro $h:ident))
structure fj(base:Heap)(A:Around)(ρ:List Addr)(h:Heap):Prop where
 fr:∃ fs,A.frames=some fs/\h.FunFrames base fs
 off:∀ a∈frs A,a∉ρ
 cls:∀ a∈frs A,∃ o,h.get? a=some o/\∀ vs n,o.data≠.seq vs n
structure c7(n:Nat)(A:Around):Prop where
 depth:A.depth+3*n<=600
 units:A.units+60*n<=9000
 handled:1<=n->A.handled=none
def ja(X:List Addr)(h:Heap):Prop:=∀ a∈X,∃ o,h.get? a=some o/\∀ vs n,o.data≠.seq vs n
section
variable{w:World}{base:Heap}{A:Around}{X ρ ρ':List Addr}{σ:ai}{h h':Heap}
theorem Goes.tup(D:Rep w base ρ σ h)(S:fj base A ρ h)(hX:ja X h)(G:Goes (frs A) X ρ ρ' h h'){a:Addr}{vs:Array Value}{n:Nat}
 (e:h.get? a=some {cls:=.type "tuple",data:=.seq vs n}):h'.get? a=some {cls:=.type "tuple",data:=.seq vs n}:=by
 refine G.exact e (D.JQ e) (λq=>?_) λq=>?_
 ·obtain⟨o,e',hc⟩:=hX a q;rw[e] at e';cases e';exact hc _ _ rfl
 ·obtain⟨o,e',hc⟩:=S.cls a q;rw[e] at e';cases e';exact hc _ _ rfl
theorem VR.step(D:Rep w base ρ σ h)(S:fj base A ρ h)(hX:ja X h)(G:Goes (frs A) X ρ ρ' h h'){v:V}{x:Value}(r:VR ρ h v x):VR ρ' h' v x:=
 r.mono (λu u e=>G.idx e) λu u u e=>G.tup D S hX e
theorem bq.step(D:Rep w base ρ σ h)(S:fj base A ρ h)(hX:ja X h)(G:Goes (frs A) X ρ ρ' h h'){v:List V}{x:List Value}(r:bq ρ h v x):bq ρ' h' v x:=
 r.mono (λu u e=>G.idx e) λu u u e=>G.tup D S hX e
theorem o6{base h h':Heap}:∀ {fs:List Env},h.FunFrames base fs->(∀ env∈fs,∀ a,env.frame=some a->∀ o,h.get? a=some o->(∀ vs,o.data≠.fields vs)->∃ o',h'.get? a=some o'/\∀ vs,o'.data≠.fields vs)->h'.FunFrames base fs
 |[],_,_=>trivial
 |env::fs,⟨hk,⟨L,o,hf,hn,ho,hd⟩,r⟩,k=>by
  obtain⟨o',ho',hd'⟩:=k env (.head _) L hf o ho hd;exact⟨hk,⟨L,o',hf,hn,ho',hd'⟩,o6 r λe he=>k e (.tail _ he)⟩
theorem sV{A:Around}{fs:List Env}(e:A.frames=some fs){a:Addr}:a∈frs A↔∃ env∈fs,env.frame=some a:=by
 unfold frs;rw[e];simp[List.mem_filterMap]
theorem fj.step(S:fj base A ρ h)(G:Goes (frs A) X ρ ρ' h h'):fj base A ρ' h':=by
 obtain⟨fs,e,hf⟩:=S.fr;have get:∀ a∈frs A,∀ o,h.get? a=some o->∃ o',h'.get? a=some o'/\((∀ vs n,o.data≠.seq vs n)->∀ vs n,o'.data≠.seq vs n)/\((∀ vs,o.data≠.fields vs)->∀ vs,o'.data≠.fields vs):=by
  intro a ha o ho;by_cases x:a∈X
  ·exact G.xs a x o ho
  ·obtain⟨o',ho',q⟩:=G.keep a o ho (S.off a ha) x;refine⟨o',ho',?_⟩;rcases q with rfl|⟨_,sl,rfl⟩<;>exact⟨id,id⟩
 refine⟨⟨fs,e,o6 hf λenv he a hfa o ho hd=>?_⟩,λa ha=>?_,λa ha=>?_⟩
 ·obtain⟨o',ho',_,q⟩:=get a ((sV e).mpr ⟨env,he,hfa⟩) o ho;exact⟨o',ho',q hd⟩
 ·obtain⟨o,ho,_⟩:=S.cls a ha;exact G.gu ho (S.off a ha)
 ·obtain⟨o,ho,hc⟩:=S.cls a ha;obtain⟨o',ho',hc',_⟩:=get a ha o ho;exact⟨o',ho',hc' hc⟩
end
def Trace(B h:Heap)(e:Addr)(l:Option Addr):Prop:=
 ∃ oe vs,h.get? e=some oe/\oe.data=.fields vs/\1<vs.size/\(vs[1]?=some .none\/∃ T oT ts fl,vs[1]?=some (.ref T)/\B.get? T=none/\T≠e/\h.get? T=some oT/\oT.data=.fields ts/\ts[3]?=some fl /\
  (fl=.none\/∃ L:Addr,l=some L/\fl=rawInt L))
noncomputable def headOf(A:Around):Option Addr:=((A.frames.getD []).head?).bind (·.frame)
structure jk(base:Heap)(A:Around)(h:Heap)(ρ':List Addr)(h':Heap)(e:Addr)(B:Heap):Prop where
 over:base.StaysIn B
 stays:B.StaysIn h'
 new:B.get? e=none
 fr:∃ fs,A.frames=some fs/\h'.FunFrames B fs
 jK:∀ a o,h'.get? a=some o->((h.get? a).isSome=true\/a∈ρ')->a∉frs A->a≠e->B.get? a=some o
 trace:Trace B h' e (headOf A)
def fT(base:Heap)(A:Around)(h:Heap)(ρ':List Addr)(σ':ai)(h':Heap)(v:V)(x:Value):Prop:=
 ∃ (i:Nat) (e:Addr) (B:Heap),v=.obj i/\x=.ref e/\ρ'[i]?=some e/\h.get? e=none/\(∃ c d,σ'[i]?=some (.exc c d false))/\jk base A h ρ' h' e B
theorem fT.older{w:World}{base:Heap}{A:Around}{FR X:List Addr}{ρ0 ρ:List Addr}{σ:ai}{h0a h:Heap}{ρ':List Addr}{σ':ai}{h':Heap}{v:V}{x:Value}(G:Goes FR X ρ0 ρ h0a h)(D:Rep w base ρ σ h)
 (H:fT base A h ρ' σ' h' v x):fT base A h0a ρ' σ' h' v x:=by
 revert G D H;revert x;revert w base A FR X ρ0 ρ σ h0a h ρ' σ' h' v;apply b9;generalize cM=zt;generalize zt.1.1.1=w,zt.1.1.2.1=base,zt.1.1.2.2=A,zt.1.2.1.1=FR,zt.1.2.1.2=X,zt.1.2.2.1=ρ0,zt.1.2.2.2=ρ,zt.2.1.1=σ,zt.2.1.2.1=h0a,zt.2.1.2.2=h,zt.2.2.1.1=ρ',zt.2.2.1.2=σ',zt.2.2.2.1=h',zt.2.2.2.2=v;intros x;intro G D H;injection H with H i e B hz;obtain⟨h1,h2,h3,h4,h5,F⟩:=hz
 refine⟨i,e,B,h1,h2,h3,?_,h5,F.over,F.stays,F.new,F.fr,λa o q r=>F.jK a o q (r.imp ?_ id),F.trace⟩
 ·cases q:h0a.get? e with
  |none=>rfl
  |some o=>
   revert o;intros o;intro q;injection G.there D q with x0 o' e'
   rw[h4] at e';cases e'
 ·intro z;revert a o;intros a o;intro q r z;injection Option.isSome_iff_exists.mp z with x0 o0 q0a
  injection G.there D q0a with x0 o' e'
  rw[e'];rfl
section
variable(prog:Program)(w:World)(base:Heap)(A:Around)(X:List Addr)
def Runs{α β:Type}(t:Sem α)(s:Shared)(ρ:List Addr)(r:Option (Except V β×ai))(R:List Addr->Heap->β->α->Prop):Prop:=
 match r with
 |none=>True
 |some (.ok b,σ')=>∀ (Q:α->Shared->Prop) (E:Value->Shared->Prop),
   (∀ ρ' h' tk a,Goes (frs A) X ρ ρ' s.heap h'->Rep w base ρ' σ' h'->R ρ' h' b a->Q a {s with heap:=h',toks:=tk})->wpAny (model prog w) A t Q E s
 |some (.error v,σ')=>∀ (Q:α->Shared->Prop) (E:Value->Shared->Prop),
   (∀ ρ' h' tk x,Goes (frs A) X ρ ρ' s.heap h'->Rep w base ρ' σ' h'->fT base A s.heap ρ' σ' h' v x->E x {s with heap:=h',toks:=tk})->wpAny (model prog w) A t Q E s
end
section
variable{prog:Program}{w:World}{base:Heap}{A:Around}{X:List Addr}{α β γ δ:Type}{t:Sem α}{s:Shared}{ρ:List Addr}{σ:ai}{R:List Addr->Heap->β->α->Prop}
theorem Runs.bind{f:α->Sem γ}{m:M β}{g:β->M δ}{R':List Addr->Heap->δ->γ->Prop}(h1:Runs prog w base A X t s ρ (m σ) R)
 (h2:∀ b σ',m σ=some (.ok b,σ')->∀ ρ' h' tk a,Goes (frs A) X ρ ρ' s.heap h'->Rep w base ρ' σ' h'->R ρ' h' b a->Runs prog w base A X (f a) {s with heap:=h',toks:=tk} ρ' (g b σ') R') :
  Runs prog w base A X (t>>=f) s ρ ((m>>=g) σ) R':=by
 show Runs prog w base A X (t>>=f) s ρ (match m σ with|none=>none|some (.error e,σ')=>some (.error e,σ')|some (.ok a,σ')=>g a σ') R';cases hm:m σ with
 |none=>trivial
 |some r=>
  obtain⟨r,σ'⟩:=r;cases r with
  |error v=>
   rw[hm] at h1;intro Q E k;exact LB (h1 _ E k)
  |ok b=>
   rw[hm] at h1;show Runs prog w base A X (t>>=f) s ρ (g b σ') R';cases hg:g b σ' with
   |none=>trivial
   |some r'=>
    obtain⟨r',σ''⟩:=r';cases r' with
    |error v=>
     intro Q E k;refine LB (h1 _ E λρ' h' tk a G D r=>?_);have z:=h2 b σ' hm ρ' h' tk a G D r;rw[hg] at z;exact z Q E λρ'' h'' tk' x G' D' e=>k ρ'' h'' tk' x (G.trans G') D' (e.older G D)
    |ok d=>
     intro Q E k;refine LB (h1 _ E λρ' h' tk a G D r=>?_);have z:=h2 b σ' hm ρ' h' tk a G D r;rw[hg] at z;exact z Q E λρ'' h'' tk' x G' D' e=>k ρ'' h'' tk' x (G.trans G') D' e
theorem Runs.pure{a:α}{b:β}(D:Rep w base ρ σ s.heap)(r:R ρ s.heap b a):Runs prog w base A X (Pure.pure a) s ρ ((Pure.pure b:M β) σ) R:=
 λQ E k=>LC (k ρ s.heap s.toks a .refl D r)
theorem Runs.mono{R':List Addr->Heap->β->α->Prop}{r:Option (Except V β×ai)}(h1:Runs prog w base A X t s ρ r R)(h2:∀ ρ' h' b a,R ρ' h' b a->R' ρ' h' b a):Runs prog w base A X t s ρ r R':=by
 cases r with
 |none=>trivial
 |some r=>
  obtain⟨r,σ'⟩:=r;cases r with
  |error v=>exact h1
  |ok b=>intro Q E k;exact h1 Q E λρ' h' tk a G D r=>k ρ' h' tk a G D (h2 _ _ _ _ r)
theorem Runs.inv{r:Option (Except V β×ai)}(h:∀ q σ',r=some (q,σ')->Runs prog w base A X t s ρ (some (q,σ')) R):Runs prog w base A X t s ρ r R:=
 match r with
 |none=>trivial
 |some (q,σ')=>h q σ' rfl
theorem Runs.ok{r:Option (Except V β×ai)}{b:β}{σ':ai}(z:Runs prog w base A X t s ρ r R)(e:r=some (.ok b,σ'))(Q:α->Shared->Prop)(E:Value->Shared->Prop)
 (k:∀ ρ' h' tk a,Goes (frs A) X ρ ρ' s.heap h'->Rep w base ρ' σ' h'->R ρ' h' b a->Q a {s with heap:=h',toks:=tk}):wpAny (model prog w) A t Q E s:=by
 rw[e] at z;exact z Q E k
theorem Runs.er{r:Option (Except V β×ai)}{v:V}{σ':ai}(z:Runs prog w base A X t s ρ r R)(e:r=some (.error v,σ'))(Q:α->Shared->Prop)(E:Value->Shared->Prop)
 (k:∀ ρ' h' tk x,Goes (frs A) X ρ ρ' s.heap h'->Rep w base ρ' σ' h'->fT base A s.heap ρ' σ' h' v x->E x {s with heap:=h',toks:=tk}):wpAny (model prog w) A t Q E s:=by
 rw[e] at z;exact z Q E k
theorem Runs.of{r:Option (Except V β×ai)}(h1:∀ b σ',r=some (.ok b,σ')->∀ Q E,(∀ ρ' h' tk a,Goes (frs A) X ρ ρ' s.heap h'->Rep w base ρ' σ' h'->R ρ' h' b a->Q a {s with heap:=h',toks:=tk})->wpAny (model prog w) A t Q E s)
 (h2:∀ v σ',r=some (.error v,σ')->∀ Q E,(∀ ρ' h' tk x,Goes (frs A) X ρ ρ' s.heap h'->Rep w base ρ' σ' h'->fT base A s.heap ρ' σ' h' v x->E x {s with heap:=h',toks:=tk})->wpAny (model prog w) A t Q E s):Runs prog w base A X t s ρ r R:=
 match r with
 |none=>trivial
 |some (.ok b,σ')=>h1 b σ' rfl
 |some (.error v,σ')=>h2 v σ' rfl
theorem Runs.wp{r:Option (Except V β×ai)}{t':Sem α}{s':Shared}(h1:Runs prog w base A X t s ρ r R)(hh:s'.heap=s.heap)(hr:∀ tk,{s with toks:=tk}={s' with toks:=tk})
 (k:∀ (Q:α->Shared->Prop) E,wpAny (model prog w) A t Q E s->wpAny (model prog w) A t' Q E s'):Runs prog w base A X t' s' ρ r R:=by
 have e:∀ h tk,({s with heap:=h,toks:=tk}:Shared)={s' with heap:=h,toks:=tk}:=λh tk=>by
  have:=hr tk;obtain⟨a1,a2,a3,a4,a5⟩:=s;obtain⟨b1,b2,b3,b4,b5⟩:=s';simp only[Shared.mk.injEq] at this ⊢;exact⟨trivial,this.2.1,this.2.2.1,trivial,this.2.2.2.2⟩
 cases r with
 |none=>trivial
 |some r=>
  obtain⟨r,σ'⟩:=r;cases r with
  |error v=>
   intro Q E z;exact k Q E (h1 Q E λρ' h' tk x G D q=>e h' tk▸z ρ' h' tk x (hh▸G) D (hh▸q))
  |ok b=>
   intro Q E z;exact k Q E (h1 Q E λρ' h' tk x G D q=>e h' tk▸z ρ' h' tk x (hh▸G) D q)
end
structure br(env:Env)(le:List (Str×V))(ρ:List Addr)(h:Heap):Prop where
 ns:∃ m,h.Ns env.locals m/\∀ x v,le.lookup x=some v->env.kindOf x=some .local->∃ val,m x=some val/\VR ρ h v val
 cell:∀ x v,le.lookup x=some v->(env.kindOf x=some .cell\/env.kindOf x=some .free)->∃ c val,env.cells.lookup x=some c/\h.IsCell c (some val)/\VR ρ h v val
 kinds:∀ x v,le.lookup x=some v->env.kindOf x=some .local\/env.kindOf x=some .cell\/env.kindOf x=some .free
 offL:env.locals∉ρ
 offC:∀ p∈env.cells,p.2∉ρ/\p.2≠env.locals/\∃ v,h.IsCell p.2 v
 apart:env.cells.Pairwise λx y=>x.2≠y.2
 full:∀ x,env.kindOf x=some .cell\/env.kindOf x=some .free->∃ c,env.cells.lookup x=some c
 fn:env.scope.kind=.function
 gl:env.globals=mainGlobals
 bl:env.builtins=builtinsNs
structure Gd(K:Frag)(mg mb:Str->Option Value)(base:Heap):Prop where
 X:K.In base
 g:base.Ns mainGlobals mg
 b:base.Ns builtinsNs mb
 nolimit:base.NoLimit
 builtins:∀ x:Str,x≠"__name__"->mb x=bootBuiltins x
 bm:∃ bm ob,mg "__builtins__"=some (.ref bm)/\bm≠builtinsNs/\base.get? bm=some ob/\ob.cls=.type "module"/\ob.dict=some builtinsNs/\ob.data=.plain
structure Pre(w:World)(base:Heap)(n:Nat)(A:Around)(env:Env)(le:List (Str×V))(σ:ai)(ρ:List Addr)(h:Heap):Prop where
 D:Rep w base ρ σ h
 S:fj base A ρ h
 R:c7 n A
 Y:br env le ρ h
section
variable{w:World}{base:Heap}{n:Nat}{A:Around}{env:Env}{le:List (Str×V)}{σ σ':ai}{ρ ρ':List Addr}{h h':Heap}
theorem ja.nil:ja [] h:=λu ha=>nomatch ha
theorem tW{a:Addr}{v:Option Value}(x:h.IsCell a v)(n:a∉ρ){FR X:List Addr}(G:Goes FR X ρ ρ' h h')(nx:a∉X):h'.IsCell a v:=by
 obtain⟨o,ho,hd⟩:=x;obtain⟨o',ho',q⟩:=G.keep a o ho n nx;refine⟨o',ho',?_⟩;rcases q with rfl|⟨_,sl,rfl⟩<;>exact hd
theorem C6{a:Addr}{m:Str->Option Value}(x:h.Ns a m)(n:a∉ρ){FR X:List Addr}(G:Goes FR X ρ ρ' h h')(nx:a∉X):h'.Ns a m:=by
 obtain⟨o,es,ep,ho,hd,r⟩:=x;obtain⟨o',ho',q⟩:=G.keep a o ho n nx;refine⟨o',es,ep,ho',?_,r⟩;rcases q with rfl|⟨_,sl,rfl⟩<;>exact hd
theorem br.step(D:Rep w base ρ σ h)(S:fj base A ρ h)(Y:br env le ρ h)(G:Goes (frs A) [] ρ ρ' h h'):br env le ρ' h':=by
 have vr:∀ {v:V} {x:Value},VR ρ h v x->VR ρ' h' v x:=λr=>r.step D S ja.nil G;obtain⟨m,hm,hv⟩:=Y.ns;have hLin:∃ o,h.get? env.locals=some o:=let⟨o,_,_,ho,_⟩:=hm;⟨o,ho⟩;obtain⟨oL,hoL⟩:=hLin;refine⟨⟨m,C6 hm Y.offL G (by simp),λx v e k=>?_⟩,λx v e k=>?_,Y.kinds,G.gu hoL Y.offL,λp hp=>?_,Y.apart,Y.full,Y.fn,Y.gl,Y.bl⟩
 ·obtain⟨val,e1,r⟩:=hv x v e k;exact⟨val,e1,vr r⟩
 ·obtain⟨c,val,e1,e2,r⟩:=Y.cell x v e k;refine⟨c,val,e1,tW e2 ?_ G (by simp),vr r⟩;have:=(Y.offC _ (LJ e1)).1;exact this
 ·obtain⟨a,b,v,c⟩:=Y.offC p hp;obtain⟨o,ho,_⟩:=id c;exact⟨G.gu ho a,b,v,tW c a G (by simp)⟩
theorem Pre.step(P:Pre w base n A env le σ ρ h)(G:Goes (frs A) [] ρ ρ' h h')(D':Rep w base ρ' σ' h'):Pre w base n A env le σ' ρ' h':=
 ⟨D',P.S.step G,P.R,P.Y.step P.D P.S G⟩
theorem Pre.vr(P:Pre w base n A env le σ ρ h)(G:Goes (frs A) [] ρ ρ' h h'){v:V}{x:Value}(r:VR ρ h v x):VR ρ' h' v x:=r.step P.D P.S ja.nil G
theorem Pre.Ln(P:Pre w base n A env le σ ρ h)(G:Goes (frs A) [] ρ ρ' h h'){v:List V}{x:List Value}(r:bq ρ h v x):bq ρ' h' v x:=r.step P.D P.S ja.nil G
end
section
variable(prog:Program)(w:World)(base:Heap)(n:Nat)(env:Env)(le:List (Str×V))
def bI{α β:Type}(t:Sem α)(m:M β)(R:List Addr->Heap->β->α->Prop):Prop:=
 ∀ (A:Around) (σ:ai) (ρ:List Addr) (s:Shared),Pre w base n A env le σ ρ s.heap->Runs prog w base A [] t s ρ (m σ) R
abbrev aC(e:Expr)(m:M V):Prop:=bI prog w base n env le (eval e env) m VR
abbrev kD(e:Expr)(m:M Bool):Prop:=bI prog w base n env le (isTrue e env (eval e env)) m (λu u b a=>a=b)
abbrev ju(pos:Pos)(es:List Expr)(m:M (List V)):Prop:=bI prog w base n env le (spliced (backTo pos (starEach es env))) m bq
def bC(f:Value)(m:List V->M V):Prop:=
 ∀ (A:Around) (σ:ai) (ρ:List Addr) (s:Shared) (args:List V) (vals:List Value),Rep w base ρ σ s.heap->fj base A ρ s.heap->c7 n A->bq ρ s.heap args vals ->
  Runs prog w base A [] (call f vals []) s ρ (m args σ) VR
end
section
variable{prog:Program}{w:World}{base:Heap}{n:Nat}{env:Env}{le:List (Str×V)}{α β γ δ:Type}
theorem bI.bind{t:Sem α}{f:α->Sem γ}{m:M β}{g:β->M δ}{R:List Addr->Heap->β->α->Prop}{R':List Addr->Heap->δ->γ->Prop}
 (h1:bI prog w base n env le t m R)
 (h2:∀ b a (A:Around) (σ:ai) (ρ:List Addr) (s:Shared),Pre w base n A env le σ ρ s.heap->R ρ s.heap b a->Runs prog w base A [] (f a) s ρ (g b σ) R') :
  bI prog w base n env le (t>>=f) (m>>=g) R':=λA σ ρ s P=>
 Runs.bind (h1 A σ ρ s P) λb σ' u ρ' h' tk a G D r=>h2 b a A σ' ρ' _ (P.step G D) r
theorem bI.wp{t t':Sem α}{m:M β}{R:List Addr->Heap->β->α->Prop}(h1:bI prog w base n env le t m R)
 (k:∀ (A:Around) (s:Shared) (Q:α->Shared->Prop) E,wpAny (model prog w) A t Q E s->wpAny (model prog w) A t' Q E s):bI prog w base n env le t' m R:=
 λA σ ρ s P=>Runs.wp (h1 A σ ρ s P) rfl (λu=>rfl) λQ E=>k A s Q E
end
section
variable{w:World}{base:Heap}{A:Around}{FR X ρ ρ':List Addr}{σ:ai}{h h':Heap}
set_option tactic.hygienic true in
theorem jB.move{a:Addr}{o:aq}(x:jB w ρ h a o)(hr:∀ (i:Nat) (a:Addr),ρ[i]?=some a->ρ'[i]?=some a)
 (ht:∀ a vs n,h.get? a=some {cls:=.type "tuple",data:=.seq vs n}->h'.get? a=some {cls:=.type "tuple",data:=.seq vs n})
 (ha:∀ ob,h.get? a=some ob->h'.get? a=some ob):jB w ρ' h' a o:=by
 revert x hr ht ha;revert w ρ ρ' h h' a o;intros w ρ ρ' h;intros h' a o;intro x hr ht ha;have vr:∀ (v:V) (x:Value),VR ρ h v x->VR ρ' h' v x:=λv x r=>r.mono hr ht;have tk:∀ (k:List V) (x:Value),sZ h k x->sZ h' k x:=λk x ⟨a,e,r,p⟩=>⟨a,e,r.mono (λu u z=>z) ht,p⟩
 cases o with
 |list l=>
  revert l;intros l;intro x;injection x with x vs n hz;obtain⟨e,r⟩:=hz
  exact⟨vs,n,ha _ e,r.mono hr ht⟩
 |sd l=>
  revert l;intros l;intro x;injection x with x es n hz;obtain⟨e,r,d⟩:=hz
  exact⟨es,n,ha _ e,r.mono (λu u z=>z) vr,d⟩
 |idd l n=>
  revert l n;intros l n;intro x;injection x with x es hz;obtain⟨e,r,d⟩:=hz
  exact⟨es,ha _ e,r.mono (λu u z=>z) vr,d⟩
 |td l=>
  revert l;intros l;intro x;injection x with x es n hz;obtain⟨e,r,d⟩:=hz
  exact⟨es,n,ha _ e,r.mono tk vr,d⟩
 |inst c d=>
  revert c d;intros c d;intro x;injection x with x da hz;obtain⟨e1,e2⟩:=hz
  exact⟨da,hr _ _ e1,ha _ e2⟩
 |exc c d=>
  rename_i u1;revert c d u1;intros c d u1;intro x;injection x with x da vs sl hz;obtain⟨e1,e2,e3⟩:=hz
  exact⟨da,vs,sl,by cases d with|none=>exact e1|some i=>exact let⟨b,q1,q2⟩:=e1;⟨b,q1,hr _ _ q2⟩,ha _ e2,e3⟩
 |tab P l=>
  revert P l;intros P l;intro x;obtain⟨e0,hz⟩:=x;injection hz with hz ps hz;obtain⟨e1,e2,e3⟩:=hz
  refine⟨e0,ps,ha _ e1,e2,λpos=>?_⟩;have z:=e3 pos;cases q:l.lookup (pos.line,pos.col) with
  |none=>rw[q] at z;exact z
  |some i=>
   revert z q;revert pos i;intros pos i;intro z q;rw[q] at z;injection z with z c hz;obtain⟨z1,z2⟩:=hz
   exact⟨c,hr _ _ z1,z2⟩
 |code q=>
  revert q;intros q;intro x;injection x with x c ob vs t hz;obtain⟨e,e1,e2⟩:=hz
  cases e;exact⟨_,ob,vs,t,rfl,ha _ e1,e2⟩
theorem Rep.list(D:Rep w base ρ σ h){i:Nat}{a:Addr}{l:List V}(h1:σ[i]?=some (.list l))(hi:ρ[i]?=some a):∃ vs n,h.get? a=some (aO vs n)/\h.IsList a vs/\bq ρ h l vs.toList:=
 let⟨vs,n,e,r⟩:=D.obj _ _ _ h1 hi
 ⟨vs,n,e,⟨_,e,rfl,n,rfl⟩,r⟩
theorem Rep.keeps(D:Rep w base ρ σ h)(k:∀ a o,h.get? a=some o->h'.get? a=some o):Rep w base ρ σ h':=
 ⟨D.len,D.nd,λi o a e1 e2=>(D.obj i o a e1 e2).move (λu u z=>z) (λu u u z=>k _ _ z) λu z=>k _ _ z,λb o e=>k _ _ (D.sub b o e),D.off,D.glob,D.low⟩
theorem Goes.keeps(k:∀ a o,h.get? a=some o->h'.get? a=some o):Goes FR X ρ ρ h h':=
 ⟨⟨[],by simp⟩,λa o e u u=>⟨o,k a o e,.inl rfl⟩,λu ha=>.inl ha,λu u o e=>⟨o,k _ _ e,id,id⟩⟩
theorem aP{o:Obj}:∀ a ob,h.get? a=some ob->(h.push o).get? a=some ob:=λu u e=>LL _ e
theorem Goes.push{o:Obj}:Goes FR X ρ ρ h (h.push o):=Goes.keeps aP
theorem Rep.alloc(D:Rep w base ρ σ h){o:aq}(k:∀ a ob,h.get? a=some ob->h'.get? a=some ob){a:Addr}(ha:h.objs.size<=a)
 (r:jB w (ρ++[a]) h' a o):Rep w base (ρ++[a]) (σ++[o]) h':=by
 have hr:∀ (i:Nat) (b:Addr),ρ[i]?=some b->(ρ++[a])[i]?=some b:=λi b e=>by rw[List.getElem?_append_left (List.getElem?_eq_some_iff.mp e).1];exact e
 have hn:a∉ρ:=λq=>LV _ (LS (D.lt q) ha);refine⟨by simp[D.len],?_,λi o' b e1 e2=>?_,λb o e=>k _ _ (D.sub b o e),λb hb=>?_,D.glob,λb hb=>?_⟩
 ·rw[List.nodup_append];exact⟨D.nd,by simp,λx hx y hy=>by simp at hy;subst hy;exact λe=>hn (e▸hx)⟩
 ·rcases Nat.lt_or_ge i σ.length with hi|hi
  ·rw[List.getElem?_append_left hi] at e1;rw[List.getElem?_append_left (by rw[D.len];exact hi)] at e2;exact(D.obj i o' b e1 e2).move hr (λu u u z=>k _ _ z) λu z=>k _ _ z
  ·rw[List.getElem?_append_right hi] at e1;rw[List.getElem?_append_right (by rw[D.len];exact hi)] at e2;have h0:i - σ.length=0:=by
    rcases Nat.eq_zero_or_pos (i - σ.length) with q|q
    ·exact q
    ·rw[List.getElem?_eq_none (by simp;lia)] at e1;cases e1
   rw[h0] at e1;rw[D.len,h0] at e2;simp at e1 e2;subst e1;subst e2;exact r
 ·rcases Ly hb with hb|hb
  ·exact D.off b hb
  ·simp at hb;subst hb;cases q:base.get? b with
   |none=>rfl
   |some ob=>exact LW (LS (LM (D.sub _ _ q)) ha) (LV _)
 ·rcases Ly hb with hb|hb
  ·exact D.low b hb
  ·simp at hb;subst hb;obtain⟨o,ho⟩:=D.glob;exact LS (LM (D.sub _ _ ho)) ha
theorem Goes.alloc(k:∀ a o,h.get? a=some o->h'.get? a=some o){a:Addr}(ha:h.objs.size<=a):Goes FR X ρ (ρ++[a]) h h':=
 ⟨⟨[a],rfl⟩,λa o e u u=>⟨o,k a o e,.inl rfl⟩,λb hb=>by
  rcases Ly hb with hb|hb
  ·exact .inl hb
  ·simp at hb;subst hb;exact .inr (by cases e:h.get? b with|none=>rfl|some o=>exact LW (LS (LM e) ha) (LV _)),λu u o e=>⟨o,k _ _ e,id,id⟩⟩
theorem Rep.update(D:Rep w base ρ σ h){i:Nat}{a:Addr}(hi:ρ[i]?=some a){o':aq}(hs:Heap.SameBut a h h')(ht:∃ ob,h.get? a=some ob/\ob.cls≠.type "tuple")
 (r:jB w ρ h' a o'):Rep w base ρ (σ.set i o') h':=by
 have tp:∀ b vs n,h.get? b=some {cls:=.type "tuple",data:=.seq vs n}->h'.get? b=some {cls:=.type "tuple",data:=.seq vs n}:=λb vs n e=>by
  refine(hs.2 b λq=>?_).trans e;obtain⟨ob,e',hc⟩:=ht;subst q;rw[e] at e';cases e';exact hc rfl
 refine⟨by simp[D.len],D.nd,λj o b e1 e2=>?_,λb o e=>(hs.2 b λq=>?_).trans (D.sub b o e),D.off,D.glob,D.low⟩
 ·rw[List.getElem?_set] at e1;by_cases q:i=j
  ·subst q;rw[hi] at e2;cases e2;split at e1
   ·simp at e1;rw[<- e1.2];exact r
   ·simp_all
  ·rw[if_neg q] at e1;have hb:b≠a:=λz=>q ((List.getElem?_inj (LA hi).1 D.nd).mp (hi.trans (z▸e2).symm));exact(D.obj j o b e1 e2).move (λu u z=>z) tp λob z=>(hs.2 b hb).trans z
 ·have:=D.off a (LG hi);rw[<- q,e] at this;cases this
theorem Goes.update{a:Addr}(ha:a∈ρ)(hs:Heap.SameBut a h h')(hx:a∉X):Goes FR X ρ ρ h h':=
 ⟨⟨[],by simp⟩,λb o e n u=>⟨o,(hs.2 b λq=>n (q▸ha)).trans e,.inl rfl⟩,λu hb=>.inl hb,λb hb o e=>⟨o,(hs.2 b λq=>hx (q▸hb)).trans e,id,id⟩⟩
theorem Rep.hidden(D:Rep w base ρ σ h)(k:∀ b o,h.get? b=some o->b∈ρ\/(base.get? b).isSome=true\/(∃ vs n,o={cls:=.type "tuple",data:=.seq vs n})->h'.get? b=some o):Rep w base ρ σ h':=by
 refine⟨D.len,D.nd,λi o a e1 e2=>(D.obj i o a e1 e2).move (λu u z=>z) (λu u u z=>k _ _ z (.inr (.inr ⟨_,_,rfl⟩))) λu z=>k _ _ z (.inl (LG e2)),λb o e=>?_,D.off,D.glob,D.low⟩;exact k _ _ (D.sub b o e) (.inr (.inl (by rw[e];rfl)))
end
section
variable{prog:Program}{w:World}{base:Heap}{A:Around}{X:List Addr}{α β γ δ:Type}{t:Sem α}{s:Shared}{ρ:List Addr}{R:List Addr->Heap->β->α->Prop}{r:Option (Except V β×ai)}
theorem Runs.holding{vs:List Value}(h1:Runs prog w base A X t s ρ r R):Runs prog w base A X (PySem.holding vs t) s ρ r R:=Runs.wp h1 rfl (λu=>rfl) λu u q=>LU q
end
section
variable{prog:Program}{w:World}{base:Heap}{n:Nat}{env:Env}{le:List (Str×V)}{A:Around}{X:List Addr}{σ:ai}{ρ:List Addr}{s:Shared}
theorem E7{l:List V}{xs:List Value}(D:Rep w base ρ σ s.heap)(r:bq ρ s.heap l xs)(hn:l.length<=1000) :
  Runs prog w base A X (newTuple xs) s ρ ((pure (.tup l):M V) σ) VR:=by
 intro Q E k;refine L6 (k ρ _ s.toks _ Goes.push (D.keeps aP) ?_) ?_
 ·refine .tup (vs:=xs.toArray) (n:=0) (LK _ rfl) ?_;exact r.mono (λu u z=>z) λu u u z=>aP _ _ z
 ·show xs.toArray.size<=sizeLine;rw[List.size_toArray,<- r.length];exact LZ hn (by decide)
noncomputable def mV(l:List V):M V:=λσ=>if l.length<=1000 then some (.ok (.obj σ.length),σ++[.list l]) else none
theorem Hr{l:List V}{xs:List Value}(D:Rep w base ρ σ s.heap)(r:bq ρ s.heap l xs) :
  Runs prog w base A X (newList xs) s ρ (mV l σ) VR:=by
 unfold mV;split
 ·rename_i hn;intro Q E k;have hr:∀ (i:Nat) (b:Addr),ρ[i]?=some b->(ρ++[s.heap.objs.size])[i]?=some b:=λi b e=>by rw[List.getElem?_append_left (List.getElem?_eq_some_iff.mp e).1];exact e
  refine L6 (k (ρ++[s.heap.objs.size]) _ s.toks _ (Goes.alloc aP (LP _)) (D.alloc aP (LP _) ?_) ?_) ?_
  ·exact⟨xs.toArray,0,LK _ rfl,r.mono hr λu u u z=>aP _ _ z⟩
  ·exact .obj (by rw[List.getElem?_append_right (by rw[D.len];exact Nat.le_refl _)];simp[D.len])
  ·show xs.toArray.size<=sizeLine;rw[List.size_toArray,<- r.length];exact LZ hn (by decide)
 ·trivial
theorem bg{k:Nat}{pos:Pos}:aC prog w base n env le (.Constant .none k pos) (pure .none):=λu u ρ s P=>
 Runs.pure (a:=Value.none) P.D .none
theorem bu{b:Bool}{k:Nat}{pos:Pos}:aC prog w base n env le (.Constant (.bool b) k pos) (pure (.bool b)):=λu u ρ s P=>
 Runs.pure (a:=Value.bool b) P.D (.bool b)
theorem q8{α:Type}{f:Tok->α}{b:V}{R:List Addr->Heap->V->α->Prop}(D:Rep w base ρ σ s.heap)(r:∀ t,R ρ s.heap b (f t)):Runs prog w base A X (do return f (<- fresh)) s ρ ((pure b:M V) σ) R:=by
 intro Q E k;refine LB (λΓ p u=>?_);exact(LC (k ρ s.heap (s.toks+1) (f s.toks) .refl D (r _)):wpAny (model prog w) A (pure (f s.toks)) Q E {s with toks:=s.toks+1})
theorem ak{i:Int}{k:Nat}{pos:Pos}:aC prog w base n env le (.Constant (.int i) k pos) (pure (.int i)):=λu u ρ s P=>
 q8 (f:=λt=>Value.int i t) P.D λt=>.int i t
theorem av{x:Str}{k:Nat}{pos:Pos}:aC prog w base n env le (.Constant (.str x) k pos) (pure (.str x)):=λu u ρ s P=>
 q8 (f:=λt=>Value.str x t) P.D λt=>.str x t
theorem c9{x:List UInt8}{k:Nat}{pos:Pos}:aC prog w base n env le (.Constant (.bytes x) k pos) (pure (.bytes x.toArray)):=λu u ρ s P=>
 q8 (f:=λt=>Value.bytes x.toArray t) P.D λt=>.bytes x.toArray t
theorem ah{x:Str}{pos:Pos}{v:V}(e:le.lookup x=some v)(hd:(x==("__debug__":Str))=false)(hc:(x==("__classdict__":Str))=false):aC prog w base n env le (.Name x pos) (pure v):=by
 intro A σ ρ s P Q E k;rcases P.Y.kinds x v e with q|q|q
 ·obtain⟨m,hm,hv⟩:=P.Y.ns;obtain⟨val,e',r⟩:=hv x v e q;exact wpAny_Name (wpAny_loadName_local P.Y.fn q hm e' (k ρ s.heap s.toks _ .refl P.D r)) hd
 ·obtain⟨c,val,e1,e2,r⟩:=P.Y.cell x v e (.inl q);exact wpAny_Name (wpAny_loadName_cell P.Y.fn q e1 e2 (k ρ s.heap s.toks _ .refl P.D r)) hd
 ·obtain⟨c,val,e1,e2,r⟩:=P.Y.cell x v e (.inr q);exact wpAny_Name (wpAny_loadName_free P.Y.fn q e1 e2 (k ρ s.heap s.toks _ .refl P.D r) hc) hd
theorem bK{K:Frag}{mg mb:Str->Option Value}(G:Gd K mg mb base){x:Str}{pos:Pos}{a:Addr}(hx:env.kindOf x=some .globalImplicit)(e:nsIn K mainGlobals x=some (some (.ref a)))
 (hd:(x==("__debug__":Str))=false):aC prog w base n env le (.Name x pos) (pure (.ref a)):=by
 intro A σ ρ s P Q E k;refine Calls.Name_function_global P.Y.fn hx (Calls.loadGlobal_global (mg:=mg) ?_ (mg_of G.X G.g e) (k ρ s.heap s.toks _ .refl P.D (.ref a))) hd;rw[P.Y.gl];exact G.g.keeps P.D.sub
theorem dU{K:Frag}{mg mb:Str->Option Value}(G:Gd K mg mb base){x:Str}{pos:Pos}{v:V}{val:Value}(hx:env.kindOf x=some .globalImplicit)(e:nsIn K mainGlobals x=some none)(hv:bootBuiltins x=some val)(hn:x≠"__name__")
 (hd:(x==("__debug__":Str))=false)(r:∀ ρ h,VR ρ h v val):aC prog w base n env le (.Name x pos) (pure v):=by
 intro A σ ρ s P Q E k;refine Calls.Name_function_global P.Y.fn hx (Calls.loadGlobal_builtin (mg:=mg) (mb:=mb) ?_ (mg_none_of G.X G.g e) ?_ ((G.builtins x hn).trans hv) (k ρ s.heap s.toks _ .refl P.D (r _ _))) hd
 ·rw[P.Y.gl];exact G.g.keeps P.D.sub
 ·rw[P.Y.bl];exact G.b.keeps P.D.sub
theorem aj{pos:Pos}:ju prog w base n env le pos [] (pure []):=λu u ρ s P=>Runs.pure (a:=([]:List Value)) P.D .nil
theorem aa{pos:Pos}{e:Expr}{es:List Expr}{m:M V}{ms:M (List V)}(hs:starEach (e::es) env=(false,eval e env)::starEach es env)
 (h1:aC prog w base n env le e m)(h2:ju prog w base n env le pos es ms):ju prog w base n env le pos (e::es) (do let v<-m;let l<-ms;pure (v::l)):=by
 unfold ju;rw[hs];show bI _ _ _ _ _ _ (eval e env>>=λv=>(pure [v]:Sem (List Value))>>=λhere=>holding here (spliced (backTo pos (starEach es env)))>>=λr=>pure (here++r)) _ _;refine bI.bind h1 λv a A σ ρ s P r=>?_;show Runs _ _ _ _ _ (holding [a] (spliced (backTo pos (starEach es env)))>>=λr=>pure (a::r)) _ _ _ _;exact Runs.bind (Runs.holding (h2 A σ ρ s P)) λl σ' u ρ' h' tk xs G D' r'=>Runs.pure (a:=a::xs) D' (.cons (P.vr G r) r')
theorem aH{es:List Expr}{k:Nat}{pos:Pos}{ms:M (List V)}(h:ju prog w base n env le pos es ms)(hk:es.length<=1000):aC prog w base n env le (.Tuple es k pos) (do let l<-ms;if l.length<=1000 then pure (.tup l) else M.fail):=by
 refine bI.wp (t:=spliced (backTo pos (starEach es env))>>=λvs=>newTuple vs) (bI.bind h λl xs A σ ρ s P r=>?_) λA s Q E q=>?_
 ·split
  ·rename_i hl;exact E7 P.D r hl
  ·trivial
 ·show wpAny _ _ (do standAt pos;newTuple (<- spliced (backTo pos (starEach es env)))) Q E s;exact LB (LX q)
theorem ck{es:List Expr}{pos:Pos}{ms:M (List V)}(h:ju prog w base n env le pos es ms):aC prog w base n env le (.List es pos) (do let l<-ms;mV l):=by
 refine bI.wp (t:=spliced (backTo pos (starEach es env))>>=λvs=>newList vs) (bI.bind h λl xs A σ ρ s P r=>Hr P.D r) λA s Q E q=>?_;show wpAny _ _ (do standAt pos;newList (<- spliced (backTo pos (starEach es env)))) Q E s;exact LB (LX q)
end
section
open SeqAt AutoSeq1
theorem cF:Slot "bytes" (cmpInfo .Eq).2.2 "bytes.__eq__":=W.FB.slot_bytes_eq
theorem yl:isSubtype (.type "int") (.type "bytes")=pure false:=by rw[isSubtype_type];kernel_rfl
theorem vd:isSubtype (.type "bool") (.type "bytes")=pure false:=by rw[isSubtype_type];kernel_rfl
theorem wh:isSubtype (.type "NoneType") (.type "bytes")=pure false:=by rw[isSubtype_type];kernel_rfl
theorem tV:isSubtype (.type "tuple") (.type "bytes")=pure false:=by rw[isSubtype_type];kernel_rfl
theorem rS:isSubtype (.type "bytes") (.type "int")=pure false:=by rw[isSubtype_type];kernel_rfl
theorem Dy:isSubtype (.type "bytes") (.type "bool")=pure false:=by rw[isSubtype_type];kernel_rfl
theorem Ea:isSubtype (.type "bytes") (.type "NoneType")=pure false:=by rw[isSubtype_type];kernel_rfl
theorem tP:isSubtype (.type "bytes") (.type "tuple")=pure false:=by rw[isSubtype_type];kernel_rfl
section
variable(b:Array UInt8)(t:Tok)(i:Int)(u:Tok)(k:Bool)
theorem r8:Gives (Builtin.«bytes.__eq__» ⟨[.bytes b t,.int i u],[]⟩) (.val (Value.notImplemented)):=
 .of_wp λM A E s Q h=>by have f1:=yl;obtain⟨hp,g,d,tk,os⟩:=s;wp_walk;exact⟨_,rfl,h⟩
theorem qD:Gives (Builtin.«bytes.__eq__» ⟨[.bytes b t,.bool k],[]⟩) (.val (Value.notImplemented)):=
 .of_wp λM A E s Q h=>by have f1:=vd;obtain⟨hp,g,d,tk,os⟩:=s;wp_walk;exact⟨_,rfl,h⟩
theorem qH:Gives (Builtin.«bytes.__eq__» ⟨[.bytes b t,.none],[]⟩) (.val (Value.notImplemented)):=
 .of_wp λM A E s Q h=>by have f1:=wh;obtain⟨hp,g,d,tk,os⟩:=s;wp_walk;exact⟨_,rfl,h⟩
theorem r9:Gives (Builtin.«int.__eq__» ⟨[.int i u,.bytes b t],[]⟩) (.val (Value.notImplemented)):=
 .of_wp λM A E s Q h=>by have f1:=rS;obtain⟨hp,g,d,tk,os⟩:=s;wp_walk;exact⟨_,rfl,h⟩
theorem qJ:Gives (Builtin.«int.__eq__» ⟨[.bool k,.bytes b t],[]⟩) (.val (Value.notImplemented)):=
 .of_wp λM A E s Q h=>by have f1:=rS;obtain⟨hp,g,d,tk,os⟩:=s;wp_walk;exact⟨_,rfl,h⟩
theorem qE:Gives (Builtin.«NoneType.__eq__» ⟨[.none,.bytes b t],[]⟩) (.val (Value.notImplemented)):=
 .of_wp λM A E s Q h=>by obtain⟨hp,g,d,tk,os⟩:=s;wp_walk;exact⟨_,rfl,h⟩
theorem pn(l:Addr)(items:Array Value)(n:Nat)(dd:Option Addr)(sl:Array (Option Value)) :
  Meets (Builtin.«bytes.__eq__» ⟨[.bytes b t,.ref l],[]⟩) (λy R s=>s.heap.get? l=some {cls:=.type "tuple",dict:=dd,data:=.seq items n,slots:=sl}/\R (.ok (.ret .notImplemented)) s):=
 .of_wp λprog w A R s h=>by obtain⟨hp,g,d,tk,os⟩:=s;obtain⟨hl,h⟩:=h;have f1:=tV;wp_walk using wpAny_loadPart' hl;exact⟨_,rfl,h⟩
theorem pq(l:Addr)(items:Array Value)(n:Nat)(dd:Option Addr)(sl:Array (Option Value)) :
  Meets (Builtin.«tuple.__eq__» ⟨[.ref l,.bytes b t],[]⟩) (λy R s=>s.heap.get? l=some {cls:=.type "tuple",dict:=dd,data:=.seq items n,slots:=sl}/\R (.ok (.ret .notImplemented)) s):=
 .of_wp λprog w A R s h=>by obtain⟨hp,g,d,tk,os⟩:=s;obtain⟨hl,h⟩:=h;have f1:=tP;wp_walk using wpAny_loadPart' hl;exact⟨_,rfl,h⟩
end
section
variable{A:Around}{s:Shared}(b:Array UInt8)(t:Tok)(i:Int)(u:Tok)(k:Bool)
theorem i7{x y:Value}{r:Bool}(hne:(x==y)=false)(hf:∀ f g h k,(x,y)≠(.float f g,.float h k))(h:RcAt A s x y r):EqAt A s x y r:=λprog w E Q hq=>by
 unfold eqBool;refine LU ?_;rw[hne];simp only[Bool.false_eq_true,if_false];exact LB (h prog w E _ (wpAny_truthy_bool hq))
theorem EqAt.Cw(c:Array UInt8):EqAt A s (.bytes b t) (.bytes c u) (b==c):=λprog w E Q hq=>by
 have e:(b.toList==c.toList)=(b==c):=by
  rw[Bool.eq_iff_iff,beq_iff_eq,beq_iff_eq,Array.toList_inj]
 by_cases hab:(Value.bytes b t==Value.bytes c u)=true
 ·have q:Value.bytes b t=Value.bytes c u:=eq_of_beq hab;rw[q];injection q with q1 q2
  subst q1;exact EqAt.same _ prog w E Q (by simpa using hq)
 ·refine i7 (r:=b==c) (by simpa using hab) (by intros;simp) (λprog w E Q h=>?_) prog w E Q hq;rw[<- e] at h;exact richCompare_gives (typeIs_bytes s b t) (typeIs_bytes s c u) W.FB.slot_bytes_eq W.FB.entry_bytes_eq (W.FB.args_bytes_eq_2 _ _) (gives_bytes_eq b c t u) (λe=>nomatch e) h
theorem EqAt.Fy:EqAt A s (.bytes b t) (.int i u) false:=i7 (by rfl) (by intros;simp) λprog w E Q h=>
 rc_eq_decline_or (k:=false) (typeIs_bytes s b t) (typeIs_int s i u) (by decide) yl W.FB.slot_bytes_eq F.slot_int_eq_refl
  (λy hq=>call_gives W.FB.slot_bytes_eq (typeIs_bytes s b t) W.FB.entry_bytes_eq (W.FB.args_bytes_eq_2 _ _) (r8 b t i u) hq)
  (λy hq=>call_gives F.slot_int_eq_refl (typeIs_int s i u) F.entry_int_eq (F.args_int_eq_2 _ _) (r9 b t i u) hq)
  (λy hq=>wpAny_of_eq (rfl:isSame (.bytes b t) (.int i u)=pure false) hq) (.inl rfl) h
theorem EqAt.int_bytes:EqAt A s (.int i u) (.bytes b t) false:=i7 (by rfl) (by intros;simp) λprog w E Q h=>
 rc_eq_decline_or (k:=false) (typeIs_int s i u) (typeIs_bytes s b t) (by decide) rS F.slot_int_eq cF
  (λy hq=>call_gives F.slot_int_eq (typeIs_int s i u) F.entry_int_eq (F.args_int_eq_2 _ _) (r9 b t i u) hq)
  (λy hq=>call_gives cF (typeIs_bytes s b t) W.FB.entry_bytes_eq (W.FB.args_bytes_eq_2 _ _) (r8 b t i u) hq)
  (λy hq=>wpAny_of_eq (rfl:isSame (.int i u) (.bytes b t)=pure false) hq) (.inl rfl) h
theorem EqAt.D9:EqAt A s (.bytes b t) (.bool k) false:=i7 (by rfl) (by intros;simp) λprog w E Q h=>
 rc_eq_decline_or (Tb:="bool") (k:=false) (typeIs_bytes s b t) rfl (by decide) vd W.FB.slot_bytes_eq F.slot_bool_eq
  (λy hq=>call_gives W.FB.slot_bytes_eq (typeIs_bytes s b t) W.FB.entry_bytes_eq (W.FB.args_bytes_eq_2 _ _) (qD b t k) hq)
  (λy hq=>call_gives (T:="bool") F.slot_bool_eq rfl F.entry_int_eq (F.args_int_eq_2 _ _) (qJ b t k) hq)
  (λy hq=>wpAny_of_eq (rfl:isSame (.bytes b t) (.bool k)=pure false) hq) (.inl rfl) h
theorem EqAt.bool_bytes:EqAt A s (.bool k) (.bytes b t) false:=i7 (by rfl) (by intros;simp) λprog w E Q h=>
 rc_eq_decline_or (Ta:="bool") (k:=false) rfl (typeIs_bytes s b t) (by decide) Dy F.slot_bool_eq cF
  (λy hq=>call_gives (T:="bool") F.slot_bool_eq rfl F.entry_int_eq (F.args_int_eq_2 _ _) (qJ b t k) hq)
  (λy hq=>call_gives cF (typeIs_bytes s b t) W.FB.entry_bytes_eq (W.FB.args_bytes_eq_2 _ _) (qD b t k) hq)
  (λy hq=>wpAny_of_eq (rfl:isSame (.bool k) (.bytes b t)=pure false) hq) (.inl rfl) h
theorem EqAt.Eg:EqAt A s (.bytes b t) .none false:=i7 (by rfl) (by intros;simp) λprog w E Q h=>
 rc_eq_decline_or (Tb:="NoneType") (k:=false) (typeIs_bytes s b t) rfl (by decide) wh W.FB.slot_bytes_eq F.slot_NoneType_eq_refl
  (λy hq=>call_gives W.FB.slot_bytes_eq (typeIs_bytes s b t) W.FB.entry_bytes_eq (W.FB.args_bytes_eq_2 _ _) (qH b t) hq)
  (λy hq=>call_gives (T:="NoneType") F.slot_NoneType_eq_refl rfl F.entry_NoneType_eq (F.args_NoneType_eq_2 _ _) (qE b t) hq)
  (λy hq=>wpAny_of_eq (rfl:isSame (.bytes b t) .none=pure false) hq) (.inl rfl) h
theorem EqAt.D4:EqAt A s .none (.bytes b t) false:=i7 (by rfl) (by intros;simp) λprog w E Q h=>
 rc_eq_decline_or (Ta:="NoneType") (k:=false) rfl (typeIs_bytes s b t) (by decide) Ea F.slot_NoneType_eq cF
  (λy hq=>call_gives (T:="NoneType") F.slot_NoneType_eq rfl F.entry_NoneType_eq (F.args_NoneType_eq_2 _ _) (qE b t) hq)
  (λy hq=>call_gives cF (typeIs_bytes s b t) W.FB.entry_bytes_eq (W.FB.args_bytes_eq_2 _ _) (qH b t) hq)
  (λy hq=>wpAny_of_eq (rfl:isSame .none (.bytes b t)=pure false) hq) (.inl rfl) h
theorem EqAt.CI{l:Addr}{items:Array Value}{n:Nat}(ho:s.heap.get? l=some {cls:=.type "tuple",data:=.seq items n})(hu:A.units<cLine):EqAt A s (.bytes b t) (.ref l) false:=i7 (by rfl) (by intros;simp) λprog w E Q h=>
 rc_eq_decline_or (k:=false) (typeIs_bytes s b t) ⟨_,ho,rfl⟩ (by decide) tV W.FB.slot_bytes_eq F.slot_tuple_eq_refl
  (λy hq=>call_meets W.FB.slot_bytes_eq (typeIs_bytes s b t) W.FB.entry_bytes_eq (W.FB.args_bytes_eq_2 _ _) (pn b t l items n none #[]) ⟨ho,hq⟩)
  (λy hq=>call_meets F.slot_tuple_eq_refl ⟨_,ho,rfl⟩ F.entry_tuple_eq (F.args_tuple_eq_2 _ _) (pq b t l items n none #[]) ⟨ho,hq⟩)
  (λy hq=>wpAny_of_eq (rfl:isSame (.bytes b t) (.ref l)=pure false) hq) (.inr hu) h
theorem EqAt.tuple_bytes{l:Addr}{items:Array Value}{n:Nat}(ho:s.heap.get? l=some {cls:=.type "tuple",data:=.seq items n})(hu:A.units<cLine):EqAt A s (.ref l) (.bytes b t) false:=i7 (by rfl) (by intros;simp) λprog w E Q h=>
 rc_eq_decline_or (k:=false) ⟨_,ho,rfl⟩ (typeIs_bytes s b t) (by decide) tP F.slot_tuple_eq cF
  (λy hq=>call_meets F.slot_tuple_eq ⟨_,ho,rfl⟩ F.entry_tuple_eq (F.args_tuple_eq_2 _ _) (pq b t l items n none #[]) ⟨ho,hq⟩)
  (λy hq=>call_meets cF (typeIs_bytes s b t) W.FB.entry_bytes_eq (W.FB.args_bytes_eq_2 _ _) (pn b t l items n none #[]) ⟨ho,hq⟩)
  (λy hq=>wpAny_of_eq (rfl:isSame (.ref l) (.bytes b t)=pure false) hq) (.inr hu) h
end
noncomputable def i8(a b:V):Option Bool:=
 V.casesOn a (V.casesOn b (some true) (λu=>some false) (λu=>some false) (λu=>some false) (λu=>some false) (λu=>some false) (λu=>none) (λu=>none) (λu=>none) (λu=>none))
  (λa=>V.casesOn b (some false) (λb=>some (a==b)) (λb=>some ((if a then 1 else 0)==b)) (λu=>some false) (λu=>some false) (λu=>some false) (λu=>none) (λu=>none) (λu=>none) (λu=>none))
  (λa=>V.casesOn b (some false) (λb=>some (a==(if b then 1 else 0))) (λb=>some (a==b)) (λu=>some false) (λu=>some false) (λu=>some false) (λu=>none) (λu=>none) (λu=>none) (λu=>none))
  (λa=>V.casesOn b (some false) (λu=>some false) (λu=>some false) (λb=>some (a==b)) (λu=>none) (λu=>some false) (λu=>none) (λu=>none) (λu=>none) (λu=>none))
  (λa=>V.casesOn b (some false) (λu=>some false) (λu=>some false) (λu=>none) (λb=>some (a==b)) (λu=>some false) (λu=>none) (λu=>none) (λu=>none) (λu=>none))
  (λu=>V.casesOn b (some false) (λu=>some false) (λu=>some false) (λu=>some false) (λu=>some false) (λu=>none) (λu=>none) (λu=>none) (λu=>none) (λu=>none))
  (λu=>none)
  (λu=>none)
  (λu=>none)
  (λu=>none)
def Le(f:V->V->Option Bool)(l:List V):List V->Option Bool:=List.rec (motive:=λu=>List V->Option Bool) (λu=>some true) (λa u ih r=>List.casesOn r (some true) λb r=>(f a b).bind λx=>(ih r).map λy=>x&&y) l
def dM(n:Nat):V->V->Option Bool:=
 Nat.rec (motive:=λu=>V->V->Option Bool) i8 (λu ih a b=>(a.dh.bind λl=>b.dh.map λr=>(l,r)).elim (i8 a b) λp=>(Le ih p.1 p.2).map λr=>r&&p.1.length==p.2.length) n
def jx(n:Nat):List V->List V->Option Bool:=Le (dM n)
theorem iE{n:Nat}{a b:V}{l r:List V}:jx n (a::l) (b::r)=(dM n a b).bind λx=>(jx n l r).map λy=>x&&y:=rfl
theorem vB{n:Nat}{l r:List V}:dM (n+1) (.tup l) (.tup r)=(jx n l r).map λx=>x&&l.length==r.length:=rfl
theorem pX{n:Nat}{l r:List V}{x:Bool}(h:jx n l r=some x):∃ e:Nat->Bool,(∀ (j:Nat) (a b:V),l[j]?=some a->r[j]?=some b->dM n a b=some (e j))/\x=(List.range (min l.length r.length)).all e:=by
 revert r x
 induction l with
 |nil=>exact λh=>⟨λy=>true,λj a b q=>(by rw[List.getElem?_nil] at q;exact nomatch q),by rw[List.length_nil,Nat.zero_min];exact(LF h).symm⟩
 |cons a l ih=>
  intro r x h;cases r with
  |nil=>exact⟨λy=>true,λj a b u q=>(by rw[List.getElem?_nil] at q;exact nomatch q),by rw[List.length_nil,Nat.min_zero];exact(LF h).symm⟩
  |cons b r=>
   rw[iE] at h;obtain⟨u,h1,h⟩:=Lv h;obtain⟨v,h2,h3⟩:=Lw h;obtain⟨e,he,hv⟩:=ih h2;refine⟨λj=>Nat.casesOn j u e,λj=>Nat.casesOn (motive:=λj=>∀ a' b',(a::l)[j]?=some a'->(b::r)[j]?=some b'->dM n a' b'=some (Nat.casesOn j u e)) j (λa' b' q1 q2=>LF q1▸LF q2▸h1) λj a' b' q1 q2=>he j a' b' q1 q2,?_⟩;rw[List.length_cons,List.length_cons,Nat.succ_min_succ,List.range_succ_eq_map,List.all_cons,List.all_map,<- h3,hv];rfl
theorem VR.dZ{ρ:List Addr}{h:Heap}{a:Addr}{vs:Array Value}{n:Nat}(e:h.get? a=some {cls:=.type "tuple",data:=.seq vs n}):h.IsTuple a vs:=⟨_,e,rfl,n,rfl⟩
theorem aU{α:Type}{a:α}{P:Prop}(h:(none:Option α)=some a):P:=nomatch h
theorem EqAt.to{A:Around}{s:Shared}{x y:Value}{q r:Bool}(h:EqAt A s x y q)(e:some q=some r):EqAt A s x y r:=LF e▸h
theorem VR.JZ{ρ:List Addr}{h:Heap}{b:V}(r:VR ρ h b .none):b=.none:=r.lJ
theorem VR.JN{ρ:List Addr}{h:Heap}{b:V}{k:Bool}(r:VR ρ h b (.bool k)):b=.bool k:=r.lJ
theorem VR.KP{ρ:List Addr}{h:Heap}{b:V}{k:Int}{t:Tok}(r:VR ρ h b (.int k t)):b=.int k:=r.lJ
theorem VR.K7{ρ:List Addr}{h:Heap}{b:V}{k:Str}{t:Tok}(r:VR ρ h b (.str k t)):b=.str k:=r.lJ
theorem VR.I1{ρ:List Addr}{h:Heap}{b:V}{k:Array UInt8}{t:Tok}(r:VR ρ h b (.bytes k t)):b=.bytes k:=r.lJ
theorem pB{a b:V}{r:Bool}(h:b=a)(e:i8 a b=some r)(d:i8 a a=some true):r=true:=LF ((LH (i8 a) h▸e:i8 a a=some r).symm.trans d)
theorem A4{ρ:List Addr}{h:Heap}{a b:V}{r:Bool}{x:Value}(e:i8 a b=some r)(ra:VR ρ h a x)(rb:VR ρ h b x):r=true:=by
 revert e ra rb;revert ρ h a b r x;intros ρ h a b;intros r x;intro e ra rb;exact VR.casesOn (motive_1:=λa x u=>VR ρ h b x->i8 a b=some r->r=true) ra (λrb e=>pB rb.JZ e rfl) (λk rb e=>pB rb.JN e (LH some (beq_self_eq_true _))) (λk t rb e=>pB rb.KP e (LH some (beq_self_eq_true _)))
  (λk t rb e=>pB rb.K7 e (LH some (beq_self_eq_true _))) (λk t rb e=>pB rb.I1 e (LH some (beq_self_eq_true _)))
  (λu u rb e=>rb.lJ.elim (λz=>aU (z▸e)) λz=>z.elim (λz=>z.elim λi z=>aU (z▸e)) λz=>z.elim λl z=>aU (z.elim λu z=>z.elim λu z=>z.1▸e))
  (λu u=>aU) (λu u=>aU) (λu u=>aU) (λu u=>aU) rb e
theorem F4{ρ:List Addr}{s:Shared}{a b:V}{r:Bool}{x y:Value}{A:Around}(e:i8 a b=some r)(ra:VR ρ s.heap a x)(rb:VR ρ s.heap b y)(hu:A.units<cLine):EqAt A s x y r:=by
 revert e ra rb hu;revert ρ s a b r x y A;intros ρ s a b;intros r x y A;intro e ra rb hu;exact VR.casesOn (motive_1:=λa x u=>i8 a b=some r->EqAt A s x y r) ra
  (VR.casesOn (motive_1:=λb y u=>i8 V.none b=some r->EqAt A s Value.none y r) rb (EqAt.to (EqAt.same _)) (λu=>EqAt.to (EqAt.none_bool _)) (λu u=>EqAt.to (EqAt.none_int _ _)) (λu u=>EqAt.to (EqAt.none_str _ _)) (λu u=>EqAt.to (EqAt.D4 _ _)) (λz u=>EqAt.to (EqAt.none_tuple (VR.dZ (ρ:=ρ) z) hu)) (λu=>aU) (λu=>aU) (λu=>aU) (λu=>aU))
  (λa=>VR.casesOn (motive_1:=λb y u=>i8 (.bool a) b=some r->EqAt A s (.bool a) y r) rb (EqAt.to (EqAt.bool_none _)) (λu=>EqAt.to (EqAt.bool_bool _ _)) (λu u=>EqAt.to (EqAt.bool_int _ _ _)) (λu u=>EqAt.to (EqAt.bool_str _ _ _)) (λu u=>EqAt.to (EqAt.bool_bytes _ _ _)) (λz u=>EqAt.to (EqAt.bool_tuple _ (VR.dZ (ρ:=ρ) z) hu)) (λu=>aU) (λu=>aU) (λu=>aU) (λu=>aU))
  (λa t=>VR.casesOn (motive_1:=λb y u=>i8 (.int a) b=some r->EqAt A s (.int a t) y r) rb (EqAt.to (EqAt.int_none _ _)) (λu=>EqAt.to (EqAt.int_bool _ _ _)) (λu u=>EqAt.to (EqAt.int_int _ _ _ _)) (λu u=>EqAt.to (EqAt.int_str _ _ _ _)) (λu u=>EqAt.to (EqAt.int_bytes _ _ _ _)) (λz u=>EqAt.to (EqAt.int_tuple _ _ (VR.dZ (ρ:=ρ) z) hu)) (λu=>aU) (λu=>aU) (λu=>aU) (λu=>aU))
  (λa t=>VR.casesOn (motive_1:=λb y u=>i8 (.str a) b=some r->EqAt A s (.str a t) y r) rb (EqAt.to (EqAt.str_none _ _)) (λu=>EqAt.to (EqAt.str_bool _ _ _)) (λu u=>EqAt.to (EqAt.str_int _ _ _ _)) (λu u=>EqAt.to (EqAt.str_str _ _ _ _)) (λu u=>aU) (λz u=>EqAt.to (EqAt.str_tuple _ _ (VR.dZ (ρ:=ρ) z) hu)) (λu=>aU) (λu=>aU) (λu=>aU) (λu=>aU))
  (λa t=>VR.casesOn (motive_1:=λb y u=>i8 (.bytes a) b=some r->EqAt A s (.bytes a t) y r) rb (EqAt.to (EqAt.Eg _ _)) (λu=>EqAt.to (EqAt.D9 _ _ _)) (λu u=>EqAt.to (EqAt.Fy _ _ _ _)) (λu u=>aU) (λu u=>EqAt.to (EqAt.Cw _ _ _ _)) (λz u=>EqAt.to (EqAt.CI _ _ z hu)) (λu=>aU) (λu=>aU) (λu=>aU) (λu=>aU))
  (@λp vs k l z' u=>VR.casesOn (motive_1:=λb y u=>i8 (.tup l) b=some r->EqAt A s (.ref p) y r) rb (EqAt.to (EqAt.tuple_none (VR.dZ (ρ:=ρ) z') hu)) (λu=>EqAt.to (EqAt.tuple_bool _ (VR.dZ (ρ:=ρ) z') hu)) (λu u=>EqAt.to (EqAt.tuple_int _ _ (VR.dZ (ρ:=ρ) z') hu)) (λu u=>EqAt.to (EqAt.tuple_str _ _ (VR.dZ (ρ:=ρ) z') hu)) (λu u=>EqAt.to (EqAt.tuple_bytes _ _ z' hu)) (λz u=>aU) (λu=>aU) (λu=>aU) (λu=>aU) (λu=>aU))
  (λu=>aU)
  (λu=>aU)
  (λu=>aU)
  (λu=>aU)
  e
theorem nW{n:Nat}{a b:V}{r:Bool}(e:dM n a b=some r):i8 a b=some r\/∃ m l l',n=m+1/\a=.tup l/\b=.tup l'/\(jx m l l').map (λr=>r&&l.length==l'.length)=some r:=by
 cases n with
 |zero=>exact .inl e
 |succ m=>
  cases h:a.dh.bind λl=>b.dh.map λr=>(l,r) with
  |none=>exact .inl ((LH (λo:Option (List V×List V)=>o.elim (i8 a b) λp=>(jx m p.1 p.2).map λr=>r&&p.1.length==p.2.length) h).symm.trans e)
  |some p=>
   obtain⟨l,h1,h2⟩:=Lv h;obtain⟨l',h3,h4⟩:=Lw h2;exact .inr ⟨m,p.1,p.2,rfl,(V.fC h1).trans (LH (λq:List V×List V=>V.tup q.1) h4),(V.fC h3).trans (LH (λq:List V×List V=>V.tup q.2) h4),(LH (λo:Option (List V×List V)=>o.elim (i8 a b) λp=>(jx m p.1 p.2).map λr=>r&&p.1.length==p.2.length) h).symm.trans e⟩
theorem HM{ρ:List Addr}{h:Heap}:∀ (n:Nat) {a b:V} {r:Bool} {x:Value},dM n a b=some r->VR ρ h a x->VR ρ h b x->r=true:=by
 revert ρ h;intros ρ h;intros n
 induction n with
 |zero=>
  intros a b r x;intro e ra rb;rcases nW e with e|hz
  ·exact A4 e ra rb
  ·injection hz with hz m u3 u4 hz;obtain⟨q,_⟩:=hz
   cases q
 |succ n ih=>
  revert n;intros n;intro ih;intros a b r x;intro e ra rb;rcases nW e with e|hz
  ·exact A4 e ra rb
  injection hz with hz m l l' hz;obtain⟨q,rfl,rfl,e⟩:=hz
  cases q;cases ra with
  |@tup p vs k _ ho hv=>
   revert p vs k;intros p vs k;intro ho hv rb;cases rb with
   |@tup _ us k' _ ho' hv'=>
    revert us k';intros us k';intro hv' ho';rw[ho] at ho';cases ho';injection Lw e with x0 z hz;obtain⟨hz,rfl⟩:=hz
    injection pX hz with x0 f hz;obtain⟨hf,rfl⟩:=hz
    have n1:l.length=vs.size:=by rw[hv.length,Array.length_toList]
    have n2:l'.length=vs.size:=by rw[hv'.length,Array.length_toList]
    rw[n1,n2];simp only[Nat.min_self,beq_self_eq_true,Bool.and_true,List.all_eq_true,List.mem_range];intros j;intro hj;injection hv.get (i:=j) (v:=l[j]) (by simp[n1,hj]) with x0 x1 hz;obtain⟨e1,r1⟩:=hz
    injection hv'.get (i:=j) (v:=l'[j]) (by simp[n2,hj]) with x0 x2 hz;obtain⟨e2,r2⟩:=hz
    rw[e1] at e2;cases e2;exact ih (hf j _ _ (by simp[n1,hj]) (by simp[n2,hj])) r1 r2
theorem E4{ρ:List Addr}{s:Shared}:∀ (n:Nat) {a b:V} {r:Bool} {x y:Value} {A:Around},dM n a b=some r->VR ρ s.heap a x->VR ρ s.heap b y->A.units+n<cLine->EqAt A s x y r:=by
 revert ρ s;intros ρ s;intros n
 induction n with
 |zero=>
  intros a b r x;intros y A;intro e ra rb hu;rcases nW e with e|hz
  ·exact F4 e ra rb hu
  ·injection hz with hz m u1 u2 hz;obtain⟨q,_⟩:=hz
   cases q
 |succ n ih=>
  revert n;intros n;intro ih;intros a b r x;intros y A;intro e ra rb hu;have hu':A.units<cLine:=by lia
  rcases nW e with e|hz
  ·exact F4 e ra rb hu'
  injection hz with hz m l l' hz;obtain⟨q,rfl,rfl,e⟩:=hz
  cases q;refine ra.rX ?_;intros p vs k;intro ho hv;refine rb.rX ?_;intros q us k';intro ho' hv';injection Lw e with x0 z hz;obtain⟨hz,rfl⟩:=hz
  injection pX hz with x0 f hz;obtain⟨hf,rfl⟩:=hz
  have n1:l.length=vs.size:=by rw[hv.length,Array.length_toList]
  have n2:l'.length=us.size:=by rw[hv'.length,Array.length_toList]
  have elt:∀ (A':Around),A'.units+n<cLine->∀ j (h1:j<vs.size) (h2:j<us.size),EqAt A' s vs[j] us[j] (f j):=λA' hA j h1 h2=>by
   obtain⟨x1,e1,r1⟩:=hv.get (i:=j) (v:=l[j]) (by simp[n1,h1]);obtain⟨x2,e2,r2⟩:=hv'.get (i:=j) (v:=l'[j]) (by simp[n2,h2]);rw[Array.getElem?_toList] at e1 e2;have g1:vs[j]=x1:=by rw[Array.getElem?_eq_getElem h1] at e1;exact LF e1
   have g2:us[j]=x2:=by rw[Array.getElem?_eq_getElem h2] at e2;exact LF e2
   rw[g1,g2];exact ih (hf j _ _ (by simp[n1,h1]) (by simp[n2,h2])) r1 r2 hA
  rw[n1,n2];by_cases hpq:p=q
  ·subst hpq;have t:=HM (n+1) (a:=.tup l) (b:=.tup l') (r:=(List.range (min l.length l'.length)).all f&&l.length==l'.length) (by rw[vB,hz];rfl) (.tup ho hv) (.tup ho' hv');rw[n1,n2] at t;rw[t];exact EqAt.same _
  ·exact EqAt.of_refs hpq (RcAt.tuples (VR.dZ (ρ:=ρ) ho) (VR.dZ (ρ:=ρ) ho') hu' (elt A.in1 (by simp only[Around.in1_units];lia)))
end
section
open SeqAt AutoSeq1
theorem c7.u{n:Nat}{A:Around}(R:c7 n A){k:Nat}(h:k<=800):A.units+k<cLine:=by
 have:=R.units;have e:cLine=9900:=rfl;lia
theorem bq.size{ρ:List Addr}{h:Heap}{l:List V}{vs:Array Value}(H:bq ρ h l vs.toList):l.length=vs.size:=by rw[H.length,Array.length_toList]
def V.isStr(v:V):Bool:=v.iC.isSome
def V.isInt(v:V):Bool:=v.eX.isSome
noncomputable def V.Dz(x:Str)(v:V):Bool:=V.casesOn v false (λu=>false) (λu=>false) (λy=>y==x) (λu=>false) (λu=>false) (λu=>false) (λu=>false) (λu=>false) (λu=>false)
noncomputable def V.zv(x:Int)(v:V):Bool:=V.casesOn v false (λu=>false) (λy=>y==x) (λu=>false) (λu=>false) (λu=>false) (λu=>false) (λu=>false) (λu=>false) (λu=>false)
noncomputable def V.isNone(v:V):Bool:=V.casesOn v true (λu=>false) (λu=>false) (λu=>false) (λu=>false) (λu=>false) (λu=>false) (λu=>false) (λu=>false) (λu=>false)
theorem V.none_of{v:V}:v.isNone=true->v=.none:=V.casesOn (motive_1:=λv=>v.isNone=true->v=.none) v (λu=>rfl) (λu h=>nomatch h) (λu h=>nomatch h) (λu h=>nomatch h) (λu h=>nomatch h) (λu h=>nomatch h) (λu h=>nomatch h) (λu h=>nomatch h) (λu h=>nomatch h) (λu h=>nomatch h)
noncomputable def both{α:Type}(f:V->Option α)(g:α->α->Option Bool)(a b:V):Option Bool:=(f a).bind λx=>(f b).bind λy=>g x y
def iT(σ:ai)(a b:V):Option Bool:=
 (both V.eX (λx y=>some (x==y)) a b).or ((both V.iC (λx y=>some (x==y)) a b).or ((both V.dh (λx y=>dM 20 (.tup x) (.tup y)) a b).or
  (both V.bO (λi j=>(listAt σ i).bind λl=>(listAt σ j).bind λr=>if l.length=r.length then jx 20 l r else some false) a b)))
def gY(σ:ai)(a b:V):Option Bool:=
 (a.iC.bind λx=>b.dh.bind λl=>if l.all V.isStr=true then some (l.any (V.Dz x)) else none).or
  (a.eX.bind λx=>b.bO.bind λj=>((gp σ j).bind λl=>some (l.any λp=>p.1==x)).or ((listAt σ j).bind λl=>if l.all V.isInt=true then some (l.any (V.zv x)) else none))
def nG(op:CmpOp)(σ:ai)(a b:V):Option Bool:=match op with
 |.Eq=>iT σ a b
 |.NotEq=>(iT σ a b).map λr=>!r
 |.Lt=>both V.eX (λx y=>some (decide (x<y))) a b
 |.LtE=>both V.eX (λx y=>some (decide (x<=y))) a b
 |.Gt=>both V.eX (λx y=>some (decide (y<x))) a b
 |.GtE=>both V.eX (λx y=>some (decide (y<=x))) a b
 |.Is=>if b.isNone=true then some a.isNone else none
 |.IsNot=>if b.isNone=true then some (!a.isNone) else none
 |.In=>gY σ a b
 |.NotIn=>(gY σ a b).map λr=>!r
section
variable{α:Type}{f:V->Option α}{g:α->α->Option Bool}{a b:V}{r:Bool}{o o':Option Bool}{σ:ai}{i j k:Nat}{x:Int}{l l':List V}{m:List (Int×V)}
theorem pV(h:both f g a b=some r):∃ x y,f a=some x/\f b=some y/\g x y=some r:=
 let⟨x,h1,h⟩:=Lv h;let⟨y,h2,h⟩:=Lv h;⟨x,y,h1,h2,h⟩
theorem rH(h:o.or o'=some r):o=some r\/o'=some r:=by cases o with|none=>exact .inr h|some=>exact .inl h
theorem nq{q:Int->Int->Bool}(h:both V.eX (λx y=>some (q x y)) a b=some r):∃ x y,a=.int x/\b=.int y/\q x y=r:=
 let⟨x,y,h1,h2,h3⟩:=pV h;⟨x,y,V.f9 h1,V.f9 h2,LF h3⟩
theorem eq_inv(h:iT σ a b=some r):(∃ x y,a=.int x/\b=.int y/\(x==y)=r)\/(∃ x y,a=.str x/\b=.str y/\(x==y)=r)\/(∃ x y,a=.tup x/\b=.tup y/\dM 20 (.tup x) (.tup y)=some r) \/
  ∃ i j l l',a=.obj i/\b=.obj j/\σ[i]?=some (.list l)/\σ[j]?=some (.list l')/\(if l.length=l'.length then jx 20 l l' else some false)=some r:=
 (rH h).imp nq λh=>(rH h).imp (λh=>let⟨x,y,h1,h2,h3⟩:=pV h;⟨x,y,V.jg h1,V.jg h2,LF h3⟩) λh=>(rH h).imp (λh=>let⟨x,y,h1,h2,h3⟩:=pV h;⟨x,y,V.fC h1,V.fC h2,h3⟩)
  λh=>let⟨i,j,h1,h2,h3⟩:=pV h;let⟨l,e1,h3⟩:=Lv h3;let⟨l',e2,h3⟩:=Lv h3;⟨i,j,l,l',V.cu h1,V.cu h2,listAt_eq e1,listAt_eq e2,h3⟩
theorem mH{c:Prop}[Decidable c]{o:Option Bool}(h:(if c then o else none)=some r):c/\o=some r:=by
 by_cases q:c
 ·rw[if_pos q] at h;exact⟨q,h⟩
 ·rw[if_neg q] at h;exact nomatch h
theorem Ks(h:gY σ a b=some r):(∃ x l,a=.str x/\b=.tup l/\l.all V.isStr=true/\l.any (V.Dz x)=r)\/∃ x j,a=.int x/\b=.obj j /\
  ((∃ m k,σ[j]?=some (.idd m k)/\(m.any λp=>p.1==x)=r)\/∃ l,σ[j]?=some (.list l)/\l.all V.isInt=true/\l.any (V.zv x)=r):=
 (rH h).imp (λh=>let⟨x,h1,h⟩:=Lv h;let⟨l,h2,h⟩:=Lv h;⟨x,l,V.jg h1,V.fC h2,(mH h).1,LF (mH h).2⟩)
  λh=>let⟨x,h1,h⟩:=Lv h;let⟨j,h2,h⟩:=Lv h;⟨x,j,V.f9 h1,V.cu h2,(rH h).imp
   (λh=>let⟨m,e,h⟩:=Lv h;let⟨k,e⟩:=Ad e;⟨m,k,e,LF h⟩) λh=>let⟨l,e,h⟩:=Lv h;⟨l,listAt_eq e,(mH h).1,LF (mH h).2⟩⟩
theorem qm(h:σ[j]?=some (.idd m k)):gY σ (.int x) (.obj j)=some (m.any λp=>p.1==x):=by
 show ((gp σ j).bind _).or _=_;rw[uM h];rfl
theorem CA(h:σ[j]?=some (.list l))(ha:l.all V.isInt=true):gY σ (.int x) (.obj j)=some (l.any (V.zv x)):=by
 show ((gp σ j).bind _).or ((listAt σ j).bind _)=_;rw[Hq h,cj h];exact if_pos ha
theorem qY(h1:σ[i]?=some (.list l))(h2:σ[j]?=some (.list l')):iT σ (.obj i) (.obj j)=if l.length=l'.length then jx 20 l l' else some false:=by
 show (listAt σ i).bind _=_;rw[cj h1];show (listAt σ j).bind _=_;rw[cj h2];rfl
theorem uQ{x y:List V}(h:dM 20 (.tup x) (.tup y)=some r):iT σ (.tup x) (.tup y)=some r:=by
 show (dM 20 (.tup x) (.tup y)).or _=_;rw[h];rfl
theorem qg(h1:σ[i]?=some (.list l))(h2:σ[j]?=some (.list [])):iT σ (.obj i) (.obj j)=some l.isEmpty:=(qY h1 h2).trans (by cases l<;>rfl)
end
def kX(op:CmpOp)(a b:V):M Bool:=λσ=>match nG op σ a b with
 |some r=>some (.ok r,σ)
 |none=>none
section
variable{prog:Program}{w:World}{base:Heap}{n:Nat}{A:Around}{X:List Addr}{σ:ai}{ρ:List Addr}{s:Shared}
theorem BP{k:Nat}{l r:List V}{vs us:Array Value}{f:Nat->Bool}(h1:bq ρ s.heap l vs.toList)(h2:bq ρ s.heap r us.toList)
 (hf:∀ (j:Nat) (a b:V),l[j]?=some a->r[j]?=some b->dM k a b=some (f j))(hu:A.units+k<cLine):∀ j (h1:j<vs.size) (h2:j<us.size),EqAt A s vs[j] us[j] (f j):=λj g1 g2=>by
 have n1:=h1.size;have n2:=h2.size;obtain⟨x1,e1,r1⟩:=h1.get (i:=j) (v:=l[j]) (by simp[n1,g1]);obtain⟨x2,e2,r2⟩:=h2.get (i:=j) (v:=r[j]) (by simp[n2,g2]);rw[Array.getElem?_toList] at e1 e2;have q1:vs[j]=x1:=by rw[Array.getElem?_eq_getElem g1] at e1;exact LF e1
 have q2:us[j]=x2:=by rw[Array.getElem?_eq_getElem g2] at e2;exact LF e2
 rw[q1,q2];exact E4 k (hf j _ _ (by simp[n1,g1]) (by simp[n2,g2])) r1 r2 hu
theorem ye{a:Addr}{vs:Array Value}{k:Nat}{h:Heap}(e:h.get? a=some (aO vs k)):h.IsList a vs:=⟨_,e,rfl,k,rfl⟩
theorem Ih{a b:V}{x y:Value}{r:Bool}(D:Rep w base ρ σ s.heap)(R:c7 n A)(e:iT σ a b=some r)(ra:VR ρ s.heap a x)(rb:VR ρ s.heap b y):RcAt A s x y r/\RcNeAt A s x y (!r):=by
 revert D R e ra rb;revert y r;revert w base n A σ ρ s a b x;apply cK;generalize dm=zt;generalize zt.1.1.1=w,zt.1.1.2=base,zt.1.2.1=n,zt.1.2.2.1=A,zt.1.2.2.2=σ,zt.2.1.1=ρ,zt.2.1.2=s,zt.2.2.1=a,zt.2.2.2.1=b,zt.2.2.2.2=x;intros y r;intro D R e ra rb;rcases eq_inv e with hz|hz|hz|hz
 ·injection hz with x0 p q hz;obtain⟨rfl,rfl,rfl⟩:=hz
  refine ra.gw ?_;intros t;refine rb.gw ?_;intros u;exact⟨RcAt.int_int _ _ _ _,RcNeAt.int_int _ _ _ _⟩
 ·injection hz with x0 p q hz;obtain⟨rfl,rfl,rfl⟩:=hz
  refine ra.oJ ?_;intros t;refine rb.oJ ?_;intros u;exact⟨RcAt.str_str _ _ _ _,RcNeAt.str_str _ _ _ _⟩
 ·injection hz with hz l r' hz;obtain⟨rfl,rfl,ev⟩:=hz
  refine ra.rX ?_;intros a0 vs0 n0;intro ho hv;refine rb.rX ?_;intros a1 vs1 n1;intro ho' hv';replace e:(jx 19 l r').map (λq=>q&&l.length==r'.length)=some r:=ev;injection Lw e with x0 z hz;obtain⟨hz,rfl⟩:=hz
  injection pX hz with x0 f hz;obtain⟨hf,rfl⟩:=hz
  rw[hv.size,hv'.size];have el:=BP (A:=A.in1) hv hv' hf (by rw[Around.in1_units,Nat.add_assoc];exact R.u (k:=20) (by decide));have hu:A.units<cLine:=R.u (k:=0) (by decide);exact⟨RcAt.tuples (VR.dZ (ρ:=ρ) ho) (VR.dZ (ρ:=ρ) ho') hu el,RcNeAt.tuples (VR.dZ (ρ:=ρ) ho) (VR.dZ (ρ:=ρ) ho') hu el⟩
 ·injection hz with hz i j l r' hz;obtain⟨rfl,rfl,h1,h2,ev⟩:=hz
  replace e:=ev;clear ev;refine ra.objE ?_;intros a2;intro hi;refine rb.objE ?_;intros a3;intro hj;have hu:A.units<cLine:=R.u (k:=0) (by decide);injection D.list h1 hi with x0 vs u3 hz;obtain⟨_,e1,v1⟩:=hz
  injection D.list h2 hj with x0 us u4 hz;obtain⟨_,e2,v2⟩:=hz
  by_cases hl:l.length=r'.length
  ·rw[if_pos hl] at e;injection pX e with x0 f hz;obtain⟨hf,rfl⟩:=hz
   have hsz:vs.size=us.size:=v1.size.symm.trans (hl.trans v2.size);have el:=BP (A:=A.in1) v1 v2 hf (by rw[Around.in1_units,Nat.add_assoc];exact R.u (k:=21) (by decide));have hm:min l.length r'.length=vs.size:=(LH (min l.length) hl.symm).trans ((Nat.min_self _).trans v1.size);rw[hm];exact⟨RcAt.lists e1 e2 hsz hu el,RcNeAt.lists e1 e2 hsz hu el⟩
  ·rw[if_neg hl] at e;cases e;have hsz:(vs.size !=us.size)=true:=bne_iff_ne.mpr λz=>hl (v1.size.trans (z.trans v2.size.symm));exact⟨RcAt.lists_lengths e1 e2 hsz hu,RcNeAt.lists_lengths e1 e2 hsz hu⟩
theorem M.sS{α β:Type}{m:M α}{f:α->M β}{σ σ':ai}{a:α}(h:m σ=some (.ok a,σ')):(m>>=f) σ=f a σ':=by
 show (match m σ with|none=>none|some (Except.error e,σ')=>some (Except.error e,σ')|some (Except.ok a,σ')=>f a σ':Option (Except V β×ai))=_;rw[h]
theorem M.bind_none{α β:Type}{m:M α}{f:α->M β}{σ:ai}(h:m σ=none):(m>>=f) σ=none:=by
 show (match m σ with|none=>none|some (Except.error e,σ')=>some (Except.error e,σ')|some (Except.ok a,σ')=>f a σ':Option (Except V β×ai))=_;rw[h]
theorem IF{t:Sem Value}{m:M V}{v:V}{σ':ai}(e:m σ=some (.ok v,σ'))
 (h:∀ (Q:Value->Shared->Prop) E,(∀ ρ' h' tk a,Goes (frs A) X ρ ρ' s.heap h'->Rep w base ρ' σ' h'->VR ρ' h' v a->Q a {s with heap:=h',toks:=tk})->wpAny (model prog w) A t Q E s) :
  Runs prog w base A X t s ρ (m σ) VR:=by
 rw[e];exact h
theorem F0{t:Sem Value}{m:M V}{v:V}(D:Rep w base ρ σ s.heap)(e:m σ=some (.ok v,σ))
 (h:∀ (Q:Value->Shared->Prop) E,(∀ tk a,VR ρ s.heap v a->Q a {s with toks:=tk})->wpAny (model prog w) A t Q E s) :
  Runs prog w base A X t s ρ (m σ) VR:=IF e λQ E k=>h Q E λtk a r=>k ρ s.heap tk a .refl D r
noncomputable def oK(y:Value):Option Str:=Value.casesOn y none none none (λu=>none) (λu u=>none) (λu u=>none) (λs u=>some s) (λu u=>none) (λu=>none) (λu=>none) (λu=>none)
noncomputable def oG(y:Value):Option Int:=Value.casesOn y none none none (λu=>none) (λi u=>some i) (λu u=>none) (λu u=>none) (λu u=>none) (λu=>none) (λu=>none) (λu=>none)
theorem V.um{v:V}(h:v.isStr=true):∃ x,v=.str x:=(Option.isSome_iff_exists.mp h).imp λu e=>V.jg e
theorem V.pY{v:V}(h:v.isInt=true):∃ x,v=.int x:=(Option.isSome_iff_exists.mp h).imp λu e=>V.f9 e
theorem BI{f:V->Bool}{g:Value->Bool}{p:V->Bool}{h:Heap}(k:∀ v y,VR ρ h v y->p v=true->g y=f v):∀ {l:List V} {vs:List Value},bq ρ h l vs->l.all p=true->vs.any g=l.any f:=λ{l}=>by
 induction l with
 |nil=>intro vs r _;rw[r.Ky];rfl
 |cons v l ih=>
  intro vs r q;rw[List.all_cons,Bool.and_eq_true_iff] at q;refine r.bf λx xs a b=>?_;rw[List.any_cons,List.any_cons,k v x a q.1,ih b q.2]
theorem Bs{p:V->Bool}{P:Value->Prop}{h:Heap}(k:∀ v y,VR ρ h v y->p v=true->P y):∀ {l:List V} {vs:List Value},bq ρ h l vs->l.all p=true->∀ y∈vs,P y:=λ{l}=>by
 induction l with
 |nil=>intro vs r _ y hy;rw[r.Ky] at hy;exact nomatch hy
 |cons v l ih=>
  intro vs r q;rw[List.all_cons,Bool.and_eq_true_iff] at q;refine r.bf λx xs a b y hy=>?_;exact(Lx hy).elim (λe=>e▸k v x a q.1) (ih b q.2 y)
theorem Ff{a:Addr}{l:List (Int×V)}{es:Array DictEntry}{k:Nat}{h:Heap}(e:h.get? a=some (aN es k))(r:dB vt hashInt (VR ρ h) l es.toList) :
  h.MapOf (intKind prog w) a (λi=>findBy Value.isInt es i):=by
 refine⟨_,es,k,e,⟨rfl,rfl,rfl⟩,rfl,λen he=>?_,λu=>rfl⟩;have:∀ {l:List (Int×V)} {es:List DictEntry},dB vt hashInt (VR ρ h) l es->∀ en∈es,∃ i,Value.isInt i en.key=true/\en.hash=hashInt i:=by
  intro l es r
  induction r with
  |nil=>intro en h;cases h
  |cons h1 h2 _ _ ih=>
   intro en hen;rcases Lx hen with rfl|hen
   ·obtain⟨t,ht⟩:=h1;exact⟨_,by rw[ht];simp[Value.isInt],h2⟩
   ·exact ih en hen
 exact this r en (Array.mem_toList_iff.mpr he)
theorem z5{x:Int}{h:Heap}:∀ {l:List (Int×V)} {es:List DictEntry},dB vt hashInt (VR ρ h) l es->(es.find? λe=>Value.isInt x e.key).isSome=l.any λp=>p.1==x
 |_,_,.nil=>rfl
 |_,_,.cons (k:=k) h1 h2 h3 r=>by
  obtain⟨t,ht⟩:=h1;rw[List.find?_cons,List.any_cons,ht];have:Value.isInt x (.int k t)=(k==x):=by simp[Value.isInt,eq_comm]
  rw[this];cases q:k==x with
  |true=>simp
  |false=>simp[z5 r]
theorem low_ne{a:Addr}(D:Rep w base ρ σ s.heap)(ha:a∈ρ):(a==sysModules)=false:=
 beq_eq_false_iff_ne.mpr (L7 (Nat.lt_trans (show 1<3 by decide) (D.low a ha)))
theorem EV{a b:V}{x y:Value}{r:Bool}(D:Rep w base ρ σ s.heap)(R:c7 n A)(e:gY σ a b=some r)(ra:VR ρ s.heap a x)(rb:VR ρ s.heap b y) :
  (∀ (Q:Value->Shared->Prop) E,(∀ tk,Q (.bool r) {s with toks:=tk})->wpAny (model prog w) A (compareOp .In x y) Q E s) /\
  (∀ (Q:Value->Shared->Prop) E,(∀ tk,Q (.bool (!r)) {s with toks:=tk})->wpAny (model prog w) A (compareOp .NotIn x y) Q E s):=by
 revert D R e ra rb;revert x y r;revert prog w base n A σ ρ s a b;apply cK;generalize dm=zt;generalize zt.1.1.1=prog,zt.1.1.2=w,zt.1.2.1=base,zt.1.2.2.1=n,zt.1.2.2.2=A,zt.2.1.1=σ,zt.2.1.2=ρ,zt.2.2.1=s,zt.2.2.2.1=a,zt.2.2.2.2=b;intros x y r;intro D R e ra rb;rcases Ks e with hz|hz
 ·injection hz with hz p l hz;obtain⟨rfl,rfl,hall,rfl⟩:=hz
  refine ra.oJ ?_;intros t;refine rb.rX ?_;intros u3 vs u4;intro ho hv;have h1:=BI (f:=V.Dz p) (g:=λy=>(oK y).any (·==p)) (λv y r q=>by obtain⟨z,rfl⟩:=V.um q;exact r.oJ λc=>rfl) hv hall;rw[<- h1];have el:∀ y,y∈vs->EqAt A.in1 s y (Value.str p t) ((λy=>(oK y).any (·==p)) y):=λy hy=>
   Bs (P:=λy=>EqAt A.in1 s y (Value.str p t) ((λy=>(oK y).any (·==p)) y)) (λv y r q=>by obtain⟨z,rfl⟩:=V.um q;exact r.oJ λu=>EqAt.str_str _ _ _ _) hv hall y (Array.mem_toList_iff.mpr hy)
  rw[Array.any_toList];exact⟨λQ E k=>in_tupleAt _ (VR.dZ (ρ:=ρ) ho) el (k s.toks),λQ E k=>notIn_tupleAt _ (VR.dZ (ρ:=ρ) ho) el (k s.toks)⟩
 ·injection hz with hz p j hz;obtain⟨rfl,rfl,hz⟩:=hz
  refine ra.gw ?_;intros t;refine rb.objE ?_;intros a7;intro hj;rcases hz with hz|hz
  ·injection hz with hz l k hz;obtain⟨hl,rfl⟩:=hz
   injection D.obj _ _ _ hl hj with x0 es hz;obtain⟨e1,r1,_⟩:=hz
   have hm:=Ff (prog:=prog) (w:=w) e1 r1;have lo:=low_ne D (LG hj);have hf:(findBy Value.isInt es p).isSome=l.any λq=>q.1==p:=by
    unfold findBy;rw[Option.isSome_map,<- Array.find?_toList];exact z5 r1
   have is:(intKind prog w).is p (.int p t)=true:=by simp[intKind,Value.isInt]
   exact⟨λQ E k=>wpAny_in_of (knd:=intKind prog w) (k:=p) is lo hm (by rw[hf];exact k _),λQ E k=>wpAny_notIn_of (knd:=intKind prog w) (k:=p) is lo hm (by rw[hf];exact k _)⟩
  ·injection hz with hz l hz;obtain⟨hl,hall,rfl⟩:=hz
   injection D.list hl hj with x0 vs u9 hz;obtain⟨_,e1,v1⟩:=hz
   have h1:=BI (f:=V.zv p) (g:=λy=>(oG y).any (·==p)) (λv y r q=>by obtain⟨z,rfl⟩:=V.pY q;exact r.gw λc=>rfl) v1 hall;rw[<- h1];have el:∀ y,y∈vs->EqAt A.in1 s y (Value.int p t) ((λy=>(oG y).any (·==p)) y):=λy hy=>
    Bs (P:=λy=>EqAt A.in1 s y (Value.int p t) ((λy=>(oG y).any (·==p)) y)) (λv y r q=>by obtain⟨z,rfl⟩:=V.pY q;exact r.gw λu=>EqAt.int_int _ _ _ _) v1 hall y (Array.mem_toList_iff.mpr hy)
   rw[Array.any_toList];exact⟨λQ E k=>in_listAt _ e1 el (k s.toks),λQ E k=>notIn_listAt _ e1 el (k s.toks)⟩
theorem is_none{h:Heap}{a:V}{x:Value}(r:VR ρ h a x):isSame x .none=pure a.isNone:=
 VR.casesOn (motive_1:=λa x u=>isSame x .none=pure a.isNone) r rfl (λu=>rfl) (λu u=>rfl) (λu u=>rfl) (λu u=>rfl) (λu u=>rfl) (λu=>rfl) (λu=>rfl) (λu=>rfl) (λu=>rfl)
theorem Dj{op:CmpOp}{a b:V}{x y:Value}(D:Rep w base ρ σ s.heap)(R:c7 n A)(ra:VR ρ s.heap a x)(rb:VR ρ s.heap b y) :
  Runs prog w base A X (compareOp op x y) s ρ ((kX op a b>>=λr=>pure (.bool r)) σ) VR:=by
 revert D R ra rb;revert prog w base n A X σ ρ s op a b x y;apply b9;generalize cM=zt;generalize zt.1.1.1=prog,zt.1.1.2.1=w,zt.1.1.2.2=base,zt.1.2.1.1=n,zt.1.2.1.2=A,zt.1.2.2.1=X,zt.1.2.2.2=σ,zt.2.1.1=ρ,zt.2.1.2.1=s,zt.2.1.2.2=op,zt.2.2.1.1=a,zt.2.2.1.2=b,zt.2.2.2.1=x,zt.2.2.2.2=y;intro D R ra rb;cases e:nG op σ a b with
 |none=>rw[M.bind_none (by unfold kX;rw[e])];trivial
 |some r=>
  revert r;intros r;intro e;refine F0 D (v:=.bool r) (M.sS (by unfold kX;rw[e])) ?_;intros Q E;intro k;have fin:Q (.bool r) s:=k s.toks _ (.bool r);cases op with
  |Eq=>exact(Ih D R e ra rb).1 prog w E Q fin
  |NotEq=>
   injection Lw e with x0 z hz;obtain⟨hz,rfl⟩:=hz
   exact(Ih D R hz ra rb).2 prog w E Q fin
  |Lt=>
   injection nq e with x0 p q hz;obtain⟨rfl,rfl,rfl⟩:=hz
   refine ra.gw ?_;intros t;refine rb.gw ?_;intros u;exact lt_int fin
  |LtE=>
   injection nq e with x0 p q hz;obtain⟨rfl,rfl,rfl⟩:=hz
   refine ra.gw ?_;intros t;refine rb.gw ?_;intros u;exact le_int fin
  |Gt=>
   injection nq e with x0 p q hz;obtain⟨rfl,rfl,rfl⟩:=hz
   refine ra.gw ?_;intros t;refine rb.gw ?_;intros u;exact gt_int fin
  |GtE=>
   injection nq e with x0 p q hz;obtain⟨rfl,rfl,rfl⟩:=hz
   refine ra.gw ?_;intros t;refine rb.gw ?_;intros u;exact ge_int fin
  |Is=>
   obtain⟨hb,ha⟩:=mH e;cases V.none_of hb;cases LF ha;cases rb.inv;exact LB (wpAny_of_eq (is_none ra) (LC fin))
  |IsNot=>
   obtain⟨hb,ha⟩:=mH e;cases V.none_of hb;cases LF ha;cases rb.inv;exact LB (wpAny_of_eq (is_none ra) (LC fin))
  |In=>
   exact(EV D R e ra rb).1 Q E (λtk=>k tk _ (.bool r))
  |NotIn=>
   injection Lw e with x0 z hz;obtain⟨hz,rfl⟩:=hz
   exact(EV D R hz ra rb).2 Q E (λtk=>k tk _ (.bool _))
end
end
section
variable{prog:Program}{w:World}{base:Heap}{A:Around}{X:List Addr}{α β γ δ:Type}{t:Sem α}{s:Shared}{ρ:List Addr}{R:List Addr->Heap->β->α->Prop}{r:Option (Except V β×ai)}
theorem Runs.aY{pos:Pos}(h1:Runs prog w base A X t s ρ r R):Runs prog w base A X (standAt pos>>=λu=>t) s ρ r R:=Runs.wp h1 rfl (λu=>rfl) λu u q=>LB (LX q)
theorem Runs.rule{tag:String}(h1:Runs prog w base A X t s ρ r R):Runs prog w base A X (PySem.rule tag>>=λu=>t) s ρ r R:=Runs.wp h1 rfl (λu=>rfl) λu u q=>LB (wpAny_rule q)
theorem Runs.operate{t:Sem Value}{R:List Addr->Heap->β->Value->Prop}{vs:List Value}(h1:Runs prog w base A X t s ρ r R):Runs prog w base A X (PySem.operate vs t) s ρ r R:=Runs.wp h1 rfl (λu=>rfl) λu u q=>wpAny_operate' q
end
def pM:V->M Bool
 |.bool b=>pure b
 |_=>M.fail
section
variable{prog:Program}{w:World}{base:Heap}{n:Nat}{env:Env}{le:List (Str×V)}{A:Around}{X:List Addr}{σ:ai}{ρ:List Addr}{s:Shared}
abbrev kc:List Addr->Heap->Bool->Bool->Prop:=λu u b a=>a=b
theorem xW{v:V}{x:Value}(D:Rep w base ρ σ s.heap)(r:VR ρ s.heap v x):Runs prog w base A X (truthy x) s ρ (pM v σ) kc:=by
 cases r<;>first|trivial|skip
 intro Q E k;exact wpAny_truthy_bool (k ρ s.heap s.toks _ .refl D rfl)
theorem Hv{op:CmpOp}{a b:V}{x y:Value}(D:Rep w base ρ σ s.heap)(R:c7 n A)(ra:VR ρ s.heap a x)(rb:VR ρ s.heap b y) :
  Runs prog w base A X (operate [x,y] (compareOp op x y)>>=λc=>holding [c] (truthy c)) s ρ (kX op a b σ) kc:=by
 have z:=Dj (prog:=prog) (X:=X) (op:=op) D R ra rb;cases e:nG op σ a b with
 |none=>unfold kX;rw[e];trivial
 |some q=>
  have e1:kX op a b σ=some (.ok q,σ):=by unfold kX;rw[e]
  rw[M.sS e1] at z;rw[e1];intro Q E k;refine LB (wpAny_operate' (z _ E λρ' h' tk c G D' rc=>?_));cases rc;exact LU (wpAny_truthy_bool (k ρ' h' tk q G D' rfl))
theorem aQ{l r:Expr}{op:CmpOp}{pos:Pos}{ml mr:M V}(h1:aC prog w base n env le l ml)(h2:aC prog w base n env le r mr)(hb:behindInMarks op r=false) :
  kD prog w base n env le (.Compare l [op] [r] pos) (do let a<-ml;let b<-mr;kX op a b):=by
 have e:isTrue (.Compare l [op] [r] pos) env (eval (.Compare l [op] [r] pos) env)=(do
   let a<-eval l env
   let b<-holding [a] (markedBehindIn op r (eval r env))
   standAt pos
   let c<-operate [a,b] (compareOp op a b)
   holding [c] (truthy c)):=rfl
 unfold kD;rw[e];have m:markedBehindIn op r (eval r env)=eval r env:=by unfold markedBehindIn;rw[hb]
 rw[m];refine bI.bind h1 λa x A σ ρ s P rx=>?_;exact Runs.bind (Runs.holding (h2 A σ ρ s P)) λb σ' u ρ' h' tk y G D ry=>Runs.aY (Hv D P.R (P.vr G rx) ry)
theorem eO{l r:Expr}{op:CmpOp}{pos:Pos}{ml mr:M V}(h1:aC prog w base n env le l ml)(h2:aC prog w base n env le r mr)(hb:behindInMarks op r=false) :
  aC prog w base n env le (.Compare l [op] [r] pos) (do let a<-ml;let b<-mr;let q<-kX op a b;pure (.bool q)):=by
 have e:eval (.Compare l [op] [r] pos) env=(do
   let a<-eval l env
   let b<-holding [a] (markedBehindIn op r (eval r env))
   standAt pos
   operate [a,b] (compareOp op a b)):=rfl
 unfold aC;rw[e];have m:markedBehindIn op r (eval r env)=eval r env:=by unfold markedBehindIn;rw[hb]
 rw[m];refine bI.bind h1 λa x A σ ρ s P rx=>?_;exact Runs.bind (Runs.holding (h2 A σ ρ s P)) λb σ' u ρ' h' tk y G D ry=>Runs.aY (Runs.operate (Dj D P.R (P.vr G rx) ry))
theorem kQ{x:Expr}{pos:Pos}{m:M Bool}(h:kD prog w base n env le x m):kD prog w base n env le (.UnaryOp .Not x pos) (do let r<-m;pure (!r)):=by
 have e:isTrue (.UnaryOp .Not x pos) env (eval (.UnaryOp .Not x pos) env)=(isTrue x env (eval x env)>>=λr=>pure (!r)):=rfl;unfold kD;rw[e];exact bI.bind h λa x A σ ρ s P rx=>Runs.pure P.D (by show (!x)=(!a);rw[rx])
abbrev j4(prog:Program)(w:World)(base:Heap)(n:Nat)(env:Env)(le:List (Str×V))(op:BoolOp)(es:List Expr)(m:M Bool):Prop:=bI prog w base n env le (allTrue op es env) m kc
theorem gD:j4 prog w base n env le .And [] (pure true):=λA σ ρ s P=>Runs.pure (a:=true) P.D rfl
theorem fY:j4 prog w base n env le .Or [] (pure false):=λA σ ρ s P=>Runs.pure (a:=false) P.D rfl
theorem eW{x:Expr}{rest:List Expr}{m m':M Bool}(h:kD prog w base n env le x m)(h':j4 prog w base n env le .And rest m') :
  j4 prog w base n env le .And (x::rest) (do if<-m then m' else pure false):=by
 have e:allTrue .And (x::rest) env=(isTrue x env (eval x env)>>=λr=>if r then allTrue .And rest env else pure false):=by
  show (isTrue x env (eval x env)>>=_)=_;refine LH _ (funext λr=>?_);cases r<;>rfl
 unfold j4;rw[e];refine bI.bind h λa x A σ ρ s P rx=>?_;have rx':x=a:=rx;subst rx';cases x with
 |true=>exact h' A σ ρ s P
 |false=>exact Runs.pure (a:=false) P.D rfl
theorem d9{x:Expr}{rest:List Expr}{m m':M Bool}(h:kD prog w base n env le x m)(h':j4 prog w base n env le .Or rest m') :
  j4 prog w base n env le .Or (x::rest) (do if<-m then pure true else m'):=by
 have e:allTrue .Or (x::rest) env=(isTrue x env (eval x env)>>=λr=>if r then pure true else allTrue .Or rest env):=by
  show (isTrue x env (eval x env)>>=_)=_;refine LH _ (funext λr=>?_);cases r<;>rfl
 unfold j4;rw[e];refine bI.bind h λa x A σ ρ s P rx=>?_;have rx':x=a:=rx;subst rx';cases x with
 |true=>exact Runs.pure (a:=true) P.D rfl
 |false=>exact h' A σ ρ s P
theorem fk{op:BoolOp}{es:List Expr}{pos:Pos}{m:M Bool}(h:j4 prog w base n env le op es m):kD prog w base n env le (.BoolOp op es pos) m:=h
theorem gj{e:Expr}{m:M V}(h:aC prog w base n env le e m)(he:isTrue e env (eval e env)=(do let v<-eval e env;standAt e.pos;holding [v] (truthy v))) :
  kD prog w base n env le e (do let v<-m;pM v):=by
 unfold kD;rw[he];exact bI.bind h λa x A σ ρ s P rx=>Runs.aY (Runs.holding (xW P.D rx))
theorem sD{x y:Expr}{pos:Pos}{m m':M V}(h:aC prog w base n env le x m)(h':aC prog w base n env le y m') :
  aC prog w base n env le (.BoolOp .And [x,y] pos) (do let v<-m;if<-pM v then m' else pure v):=by
 have e:eval (.BoolOp .And [x,y] pos) env=(do
   let v<-eval x env
   standAt pos
   let t<-holding [v] (truthy v)
   if t then eval y env else pure v):=by
  show (eval x env>>=_)=_;refine LH _ (funext λv=>?_);refine LH (standAt pos>>=·) (funext λu=>?_);refine LH (holding [v] (truthy v)>>=·) (funext λr=>?_);cases r<;>rfl
 unfold aC;rw[e];refine bI.bind h λa x A σ ρ s P rx=>Runs.aY ?_;refine Runs.bind (Runs.holding (xW P.D rx)) λb σ' u ρ' h'' tk y' G D ry=>?_;have ry':y'=b:=ry;subst ry';cases y' with
 |true=>exact h' A σ' ρ' _ (P.step G D)
 |false=>exact Runs.pure D (P.vr G rx)
theorem fX{c x y:Expr}{pos:Pos}{mc:M Bool}{m m':M V}(hc:kD prog w base n env le c mc)(h:aC prog w base n env le x m)(h':aC prog w base n env le y m') :
  aC prog w base n env le (.IfExp c x y pos) (do if<-mc then m else m'):=by
 have e:eval (.IfExp c x y pos) env=(isTrue c env (eval c env)>>=λr=>if r then eval x env else eval y env):=rfl;unfold aC;rw[e];refine bI.bind hc λa x A σ ρ s P rx=>?_;have rx':x=a:=rx;subst rx';cases x with
 |true=>exact h A σ ρ s P
 |false=>exact h' A σ ρ s P
noncomputable def uF(op:Operator)(a b:Int):Option Int:=match op with
 |.Add=>some (a+b)
 |.Sub=>some (a - b)
 |.Mult=>if a.natAbs<2^64\/b.natAbs<2^64 then some (a*b) else none
 |.Mod=>if b≠0 then some (a.fmod b) else none
 |.FloorDiv=>if b≠0/\b.natAbs<1073741824 then some (a.fdiv b) else none
 |.Pow=>if 0<=b/\b<=1000000/\a.natAbs<2^64 then some (a^b.toNat) else none
 |_=>none
def sE(op:Operator)(a b:V):M V:=λσ=>
 (a.eX.bind λx=>b.eX.bind λy=>(uF op x y).map λz=>(.ok (.int z),σ)).or
  ((if op=.Add then a.bO.bind λi=>b.bO.bind λj=>(listAt σ i).bind λl=>(listAt σ j).bind λr=>if l.length+r.length<=1000 then some (.ok (.obj σ.length),σ++[.list (l++r)]) else none else none).or
   (if op=.Mult then a.bO.bind λi=>b.eX.bind λk=>(listAt σ i).bind λl=>if 0<=k/\k<=1000/\l.length*k.toNat<=1000 then some (.ok (.obj σ.length),σ++[.list (List.replicate k.toNat l).flatten]) else none else none))
theorem II{op:Operator}{a b:V}{σ:ai}{r:Except V V×ai}(h:sE op a b σ=some r):(∃ x y z,a=.int x/\b=.int y/\uF op x y=some z/\(.ok (.int z),σ)=r) \/
  (op=.Add/\∃ i j l l',a=.obj i/\b=.obj j/\σ[i]?=some (.list l)/\σ[j]?=some (.list l')/\l.length+l'.length<=1000/\(.ok (.obj σ.length),σ++[.list (l++l')])=r) \/
  op=.Mult/\∃ i k l,a=.obj i/\b=.int k/\σ[i]?=some (.list l)/\(0<=k/\k<=1000/\l.length*k.toNat<=1000)/\(.ok (.obj σ.length),σ++[.list (List.replicate k.toNat l).flatten])=r:=
 (or_some h).imp (λh=>let⟨x,h1,h⟩:=Lv h;let⟨y,h2,h⟩:=Lv h;let⟨z,h3,h⟩:=Lw h;⟨x,y,z,V.f9 h1,V.f9 h2,h3,h⟩)
  λh=>(or_some h).imp (λh=>⟨(aE h).1,let⟨i,h1,h⟩:=Lv (aE h).2;let⟨j,h2,h⟩:=Lv h;let⟨l,h3,h⟩:=Lv h;let⟨l',h4,h⟩:=Lv h;⟨i,j,l,l',V.cu h1,V.cu h2,listAt_eq h3,listAt_eq h4,(aE h).1,LF (aE h).2⟩⟩)
   λh=>⟨(aE h).1,let⟨i,h1,h⟩:=Lv (aE h).2;let⟨k,h2,h⟩:=Lv h;let⟨l,h3,h⟩:=Lv h;⟨i,k,l,V.cu h1,V.f9 h2,listAt_eq h3,(aE h).1,LF (aE h).2⟩⟩
theorem I2{i j:Nat}{l r:List V}{σ:ai}(h1:σ[i]?=some (.list l))(h2:σ[j]?=some (.list r))(hn:l.length+r.length<=1000):sE .Add (.obj i) (.obj j) σ=some (.ok (.obj σ.length),σ++[.list (l++r)]):=by
 show (Option.bind (listAt σ i) _).or _=_;rw[cj h1];show (Option.bind (listAt σ j) _).or _=_;rw[cj h2];show (ite _ _ _:Option (Except V V×ai)).or _=_;rw[if_pos hn];rfl
theorem Jj{i:Nat}{k:Int}{l:List V}{σ:ai}(h1:σ[i]?=some (.list l))(hn:0<=k/\k<=1000/\l.length*k.toNat<=1000):sE .Mult (.obj i) (.int k) σ=some (.ok (.obj σ.length),σ++[.list (List.replicate k.toNat l).flatten]):=by
 show Option.bind (listAt σ i) _=_;rw[cj h1];exact if_pos hn
theorem KZ{a b:Int}(h:a.natAbs<2^64\/b.natAbs<2^64):IntMulOk a b:=by
 have key:∀ x:Int,x.natAbs<2^64->Builtin.Int.intBits x<=64:=λx hx=>intBits_le_iff.mpr hx;unfold IntMulOk;rcases h with h|h
 ·have:=key a h;simp[shortFactorBits];lia
 ·have:=key b h;simp[shortFactorBits];lia
theorem CM{op:Operator}{a b z:Int}{t u:Tok}{Q:Value->Shared->Prop}{E:Value->Shared->Prop}(e:uF op a b=some z)(h:Q (.int z s.toks) {s with toks:=s.toks+1}) :
  wpAny (model prog w) A (binaryOp op (.int a t) (.int b u)) Q E s:=by
 revert e h;revert Q E;revert prog w A s op a b z t u;apply cK;generalize dm=zt;generalize zt.1.1.1=prog,zt.1.1.2=w,zt.1.2.1=A,zt.1.2.2.1=s,zt.1.2.2.2=op,zt.2.1.1=a,zt.2.1.2=b,zt.2.2.1=z,zt.2.2.2.1=t,zt.2.2.2.2=u;intros Q E;intro e h;cases op with
 |Add=>cases LF e;exact add_int h
 |Sub=>cases LF e;exact sub_int h
 |Mult=>cases LF (aE e).2;exact mul_int h (KZ (aE e).1)
 |Mod=>cases LF (aE e).2;exact mod_int' (aE e).1 h
 |Pow=>cases LF (aE e).2;exact pow_int_small (aE e).1.1 (aE e).1.2.1 (aE e).1.2.2 h
 |FloorDiv=>cases LF (aE e).2;exact floordiv_int (aE e).1.1 h (.inl (PyProof.noPylong_small (aE e).1.2))
 |_=>exact nomatch e
theorem iU{ρ:List Addr}{a:Addr}:∀ (i:Nat) (b:Addr),ρ[i]?=some b->(ρ++[a])[i]?=some b:=λi b e=>by rw[List.getElem?_append_left (List.getElem?_eq_some_iff.mp e).1];exact e
theorem jS{ρ:List Addr}{a:Addr}{k:Nat}(h:ρ.length=k):(ρ++[a])[k]?=some a:=by subst h;simp
theorem oW{t:Sem Value}{l:List V}{vs:Array Value}(D:Rep w base ρ σ s.heap)(r:bq ρ s.heap l vs.toList)
 (h:∀ (Q:Value->Shared->Prop) E,(∀ tk,Q (.ref s.heap.objs.size) {s with heap:=s.heap.push (aO vs 0),toks:=tk})->wpAny (model prog w) A t Q E s) :
  Runs prog w base A X t s ρ (some (.ok (.obj σ.length),σ++[.list l])) VR:=by
 intro Q E k;refine h Q E λtk=>k (ρ++[s.heap.objs.size]) _ tk _ (Goes.alloc aP (LP _)) (D.alloc aP (LP _) ?_) (.obj (jS D.len));exact⟨vs,0,LK _ rfl,r.mono iU λu u u z=>aP _ _ z⟩
theorem bq.replicate{h:Heap}{l:List V}{vs:List Value}(r:bq ρ h l vs):∀ k:Nat,bq ρ h (List.replicate k l).flatten (List.replicate k vs).flatten
 |0=>.nil
 |k+1=>by
  simp only[List.replicate_succ,List.flatten_cons];exact r.append (r.replicate k)
theorem F9(l:Addr)(items:Array Value)(n:Nat)(dd:Option Addr)(sl:Array (Option Value))(x:Int)(u:Tok)(hc0:¬(!Builtin.List.listFitsIndex x)=true)(hc1:¬items.size*x.toNat>(2^63 - 1) / 8)(hc2:¬Builtin.List.listTooLong (items.size*x.toNat)=true) :
  Meets (Builtin.«list.__mul__» ⟨[.ref l,.int x u],[]⟩) (λy R s=>s.heap.get? l=some {cls:=.type "list",dict:=dd,data:=.seq items n,slots:=sl}/\R (.ok (.ret (Value.ref s.heap.objs.size))) {s with heap:=s.heap.push {cls:=Value.type "list",data:=Data.seq (List.foldl (λx1 x2=>x1++x2) #[] (List.replicate (if items.isEmpty=true then 0 else x.toNat) items))},toks:=s.toks}):=
 .of_wp λprog w A R s h=>by
  obtain⟨hp,g,d,tk,os⟩:=s;obtain⟨hl,h⟩:=h;have hsz:=AutoListH.joined_fits hc2
  wp_walk;refine wpAny_ite_false (decide_eq_false (Nat.not_lt.mpr hsz)) ?_;wp_walk;exact⟨_,rfl,h⟩
theorem FZ(a:Int)(t:Tok)(l:Addr)(items:Array Value)(n:Nat)(dd:Option Addr)(sl:Array (Option Value)) :
  Meets (Builtin.«int.__rmul__» ⟨[.int a t,.ref l],[]⟩) (λu R s=>s.heap.get? l=some {cls:=.type "list",dict:=dd,data:=.seq items n,slots:=sl}/\R (.ok (.ret Value.notImplemented)) s):=
 .of_wp λprog w A R s h=>by obtain⟨hp,g,d,tk,os⟩:=s;obtain⟨hl,h⟩:=h;wp_walk;exact⟨_,rfl,h⟩
theorem IB{op:Operator}{a b:V}{x y:Value}(D:Rep w base ρ σ s.heap)(ra:VR ρ s.heap a x)(rb:VR ρ s.heap b y) :
  Runs prog w base A X (binaryOp op x y) s ρ (sE op a b σ) VR:=by
 revert D ra rb;revert b x y;revert prog w base A X σ ρ s op a;apply cK;generalize dm=zt;generalize zt.1.1.1=prog,zt.1.1.2=w,zt.1.2.1=base,zt.1.2.2.1=A,zt.1.2.2.2=X,zt.2.1.1=σ,zt.2.1.2=ρ,zt.2.2.1=s,zt.2.2.2.1=op,zt.2.2.2.2=a;intros b x y;intro D ra rb;refine Runs.inv ?_;intros r σ';intro e;rcases II e with hz|hz|hz
 ·injection hz with hz p q z hz;obtain⟨rfl,rfl,ev,hr⟩:=hz
  cases hr;refine ra.gw ?_;intros t;refine rb.gw ?_;intros u;exact λQ E k=>CM ev (k ρ s.heap _ _ .refl D (.int z _))
 ·obtain⟨rfl,hz⟩:=hz;injection hz with hz i j l l' hz;obtain⟨rfl,rfl,h1,h2,hl,hr⟩:=hz
  cases hr;refine ra.objE ?_;intros a0;intro hi;refine rb.objE ?_;intros a1;intro hj;injection D.list h1 hi with x0 vs k1 hz;obtain⟨e1,_,v1⟩:=hz
  injection D.list h2 hj with x0 us k2 hz;obtain⟨e2,_,v2⟩:=hz
  refine oW (vs:=vs++us) D (by rw[Array.toList_append];exact v1.append v2) ?_;intros Q E;intro k;refine concat_meets ⟨_,e1,rfl⟩ ⟨_,e2,rfl⟩ noFill_list_add seq_list_add PySem.F.slot_list_add PySem.F.entry_list_add (PySem.F.args_list_add_2 _ _) (list_addW _ _ vs us k1 k2 none none #[] #[] ?_) ⟨e1,e2,k s.toks⟩;rw[<- v1.size,<- v2.size];exact LZ hl (by decide)
 ·obtain⟨rfl,hz⟩:=hz;injection hz with hz i k l hz;obtain⟨rfl,rfl,h1,hl,hr⟩:=hz
  cases hr;refine ra.objE ?_;intros a2;intro hi;refine rb.gw ?_;intros u;injection D.list h1 hi with x0 vs k1 hz;obtain⟨e1,_,v1⟩:=hz
  have hs:=v1.size;refine oW (vs:=List.foldl (λx1 x2=>x1++x2) #[] (List.replicate (if vs.isEmpty=true then 0 else k.toNat) vs)) D (by rw[listMul_foldl_if];exact v1.replicate _) ?_;intros Q E;intro q;have hb:vs.size*k.toNat<=1000:=hs▸hl.2.2;exact wpAny_binaryOp_repeat_ref (T:="list") (U:="int") (by decide) ⟨_,e1,rfl⟩ (λs'=>typeIs_int s' k u) noFill_list_mul F.fills_int_mul F.slot_int_rmul repeat_list F.slot_int_index.lookup
   (call_meets F.slot_int_rmul (typeIs_int s k u) F.entry_int_rmul (F.args_int_rmul_2 _ _) (FZ k u _ vs k1 none #[])
    ⟨e1,rfl,⟨_,e1,rfl⟩,call_meets F.slot_list_mul ⟨_,e1,rfl⟩ F.entry_list_mul (F.args_list_mul_2 _ _)
     (F9 _ vs k1 none #[] k u (by have:=hl.1;have:=hl.2.1;simp[Builtin.List.listFitsIndex];omega) (by omega) (by simp[Builtin.List.listTooLong,sizeLine];omega))
     ⟨e1,q s.toks⟩⟩)
theorem bw{l r:Expr}{op:Operator}{pos:Pos}{ml mr:M V}(h1:aC prog w base n env le l ml)(h2:aC prog w base n env le r mr) :
  aC prog w base n env le (.BinOp l op r pos) (do let a<-ml;let b<-mr;sE op a b):=by
 have e:eval (.BinOp l op r pos) env=(do
   let a<-eval l env
   let b<-holding [a] (eval r env)
   standAt pos
   operate [a,b] (binaryOp op a b)):=rfl
 unfold aC;rw[e];refine bI.bind h1 λa x A σ ρ s P rx=>?_;exact Runs.bind (Runs.holding (h2 A σ ρ s P)) λb σ' u ρ' h' tk y G D ry=>Runs.aY (Runs.operate (IB D (P.vr G rx) ry))
end
section
open Builtin Builtin.ObjectAttr
noncomputable def attrOk(K:Frag)(c:Addr)(name:Str):Bool:=plainGet K c name&&hasDictIn K c&&(match findIn K (.ref c) name with|some attr=>noGet K attr|none=>false)
noncomputable def storeOk(K:Frag)(c:Addr)(name:Str):Bool:=findIn K (.ref c) "__setattr__"==some (some (.builtin "object.__setattr__"))&&plainOver K c&&takerIn K c name==some none&&hasDictIn K c
noncomputable def qn:V->Bool
 |.bi _=>false
 |_=>true
def ve(c:Addr)(v:V)(name:Str):M V:=λσ=>v.bO.bind λi=>(lW σ c i).bind λq=>(q.2.lookup name).bind λx=>if qn x=true then some (.ok x,σ) else none
noncomputable def gC(name:Str)(x:V):List (Str×V)->List (Str×V)
 |[]=>[(name,x)]
 |(k,v)::r=>if k=name then (k,x)::r else (k,v)::gC name x r
def nO(c:Addr)(v:V)(name:Str)(x:V):M Unit:=λσ=>v.bO.bind λi=>(lW σ c i).bind λq=>if q.2.length<900 then some (.ok (),σ.set q.1 (.sd (gC name x q.2))) else none
theorem Jo{c:Addr}{i d:Nat}{name:Str}{l:List (Str×V)}{x:V}{σ:ai}(h:σ[i]?=some (.inst c d))(h2:σ[d]?=some (.sd l))(hx:l.lookup name=some x)(hb:qn x=true):ve c (.obj i) name σ=some (.ok x,σ):=by
 show (lW σ c i).bind _=_;rw[uE h h2];show (l.lookup name).bind _=_;rw[hx];exact if_pos hb
theorem I3{c:Addr}{i d:Nat}{name:Str}{l:List (Str×V)}{x:V}{σ:ai}(h:σ[i]?=some (.inst c d))(h2:σ[d]?=some (.sd l))(hl:l.length<900):nO c (.obj i) name x σ=some (.ok (),σ.set d (.sd (gC name x l))):=by
 show (lW σ c i).bind _=_;rw[uE h h2];exact if_pos hl
section
variable{R:V->Value->Prop}{H:Str->Int}
theorem lI{name:Str}:∀ {l:List (Str×V)} {es:List DictEntry},dB l0 H R l es ->
  (match l.lookup name with
   |some v=>∃ val,getL name es=some (some val)/\R v val
   |none=>getL name es=some none/\es.any (·.refKey)=false/\es.any (·.key.isStr name)=false)
 |_,_,.nil=>⟨rfl,rfl,rfl⟩
 |_,_,.cons (k:=k) (v:=v) (e:=e) (l:=l) (es:=es) h1 h2 h3 r=>by
  obtain⟨t,ht⟩:=h1;have ih:=lI (name:=name) r;have hk:e.key.isStr name=(k==name):=by rw[ht];rfl
  have hr:e.refKey=false:=by simp[DictEntry.refKey,ht]
  rw[List.lookup_cons];by_cases q:name=k
  ·subst q;simp only[beq_self_eq_true];exact⟨e.val,by unfold getL;rw[List.find?_cons,hk];simp,h3⟩
  ·have q1:(name==k)=false:=by simpa using q
   have q2:(k==name)=false:=by simpa using λz=>q z.symm
   rw[q1];have ef:(e::es).find? (λx=>x.key.isStr name)=es.find? (λx=>x.key.isStr name):=by rw[List.find?_cons,hk,q2]
   cases hl:l.lookup name with
   |some v'=>
    rw[hl] at ih;obtain⟨val,g,hv⟩:=ih;refine⟨val,?_,hv⟩;unfold getL at g ⊢;rw[ef];split at g
    ·exact g
    ·split at g<;>simp at g
   |none=>
    rw[hl] at ih;obtain⟨g,g2,g3⟩:=ih;refine⟨?_,by rw[List.any_cons,hr,g2];rfl,by rw[List.any_cons,hk,q2,g3];rfl⟩;unfold getL at g ⊢;rw[ef,List.any_cons,hr,g2];split at g
    ·simp at g
    ·simp
theorem uq{name:Str}{x:V}{val:Value}{t:Tok}(hx:R x val):∀ {l:List (Str×V)} {es:List DictEntry},dB l0 H R l es->dB l0 H R (gC name x l) (putL name (H name) (.str name t) val es)
 |_,_,.nil=>.cons ⟨t,rfl⟩ rfl hx .nil
 |_,_,.cons (k:=k) (v:=v) (e:=e) (l:=l) (es:=es) h1 h2 h3 r=>by
  have hk:e.key.isStr name=(k==name):=by obtain⟨t,ht⟩:=h1;rw[ht];rfl
  unfold gC putL;rw[hk];by_cases q:k=name
  ·subst q;simp only[if_true,beq_self_eq_true];exact .cons h1 h2 hx r
  ·rw[if_neg q,if_neg (by simpa using q)];exact .cons h1 h2 h3 (uq hx r)
end
theorem qW{name:Str}{x:V}:∀ {l:List (Str×V)},(gC name x l).map (·.1)=if l.any (λp=>p.1==name) then l.map (·.1) else l.map (·.1)++[name]
 |[]=>rfl
 |(k,v)::r=>by
  unfold gC;by_cases q:k=name
  ·subst q;simp
  ·rw[if_neg q,List.map_cons,qW];have:(k==name)=false:=by simpa using q
   simp only[List.any_cons,this,Bool.false_or,List.map_cons];split<;>simp
theorem EG{name:Str}{x:V}{l:List (Str×V)}(h:(l.map (·.1)).Nodup):((gC name x l).map (·.1)).Nodup:=by
 rw[qW];split
 ·exact h
 ·rename_i q;rw[List.nodup_append];refine⟨h,by simp,λa ha b hb=>?_⟩;simp at hb;subst hb;intro e;subst e;obtain⟨p,hp,e⟩:=List.mem_map.mp ha;exact q (List.any_eq_true.mpr ⟨p,hp,by simpa using e⟩)
theorem CF{name:Str}{x:V}{l:List (Str×V)}:(gC name x l).length<=l.length+1:=by
 have:=LH List.length (qW (name:=name) (x:=x) (l:=l));rw[List.length_map] at this;rw[this];split<;>simp
section
variable{prog:Program}{w:World}{base:Heap}{n:Nat}{env:Env}{le:List (Str×V)}{A:Around}{X:List Addr}{σ:ai}{ρ:List Addr}{s:Shared}{K:Frag}{mg mb:Str->Option Value}
theorem VR.handed{h:Heap}{v:V}{x:Value}(r:VR ρ h v x)(q:qn v=true):handedIn x=true:=by
 cases r<;>first|rfl|(simp[qn] at q)
theorem xx{h:Heap}{c:Addr}{d i a:Nat}{da:Addr}{l:List (Str×V)}(D:Rep w base ρ σ h)(h1:σ[i]?=some (.inst c d))(h2:σ[d]?=some (.sd l))(hi:ρ[i]?=some a) :
  ∃ (da:Addr) (es:Array DictEntry) (k:Nat),ρ[d]?=some da/\h.get? da=some (aN es k)/\dB l0 (hashStr w) (VR ρ h) l es.toList/\(l.map (·.1)).Nodup/\h.get? a=some {cls:=.ref c,dict:=some da,data:=.plain} /\
   InstAt h a {cls:=.ref c,dict:=some da,data:=.plain} c (some (dictOf es.toList k)):=by
 revert D h1 h2 hi;revert l;revert w base σ ρ h c d i a da;apply cK;generalize dm=zt;generalize zt.1.1.1=w,zt.1.1.2=base,zt.1.2.1=σ,zt.1.2.2.1=ρ,zt.1.2.2.2=h,zt.2.1.1=c,zt.2.1.2=d,zt.2.2.1=i,zt.2.2.2.1=a,zt.2.2.2.2=da;intros l;intro D h1 h2 hi;injection D.obj _ _ _ h1 hi with x0 da hz;obtain⟨e1,e2⟩:=hz
 injection D.obj _ _ _ h2 e1 with x0 es k hz;obtain⟨e3,e4,e5⟩:=hz
 refine⟨da,es,k,e1,e3,e4,e5,e2,e2,rfl,rfl,?_⟩;show h.get? da=some (dictOf es.toList k);rw[e3];simp[aN,dictOf]
theorem GJ(G:Gd K mg mb base){c:Addr}{name:Str}(ok:attrOk K c name=true){v:V}{x:Value}{ex:Bool}(D:Rep w base ρ σ s.heap)(r:VR ρ s.heap v x) :
  Runs prog w base A X (getAttr x name ex) s ρ (ve c v name σ) VR:=by
 revert G ok D r;revert x ex;revert prog w base A X σ ρ s K mg mb c name v;apply b9;generalize cM=zt;generalize zt.1.1.1=prog,zt.1.1.2.1=w,zt.1.1.2.2=base,zt.1.2.1.1=A,zt.1.2.1.2=X,zt.1.2.2.1=σ,zt.1.2.2.2=ρ,zt.2.1.1=s,zt.2.1.2.1=K,zt.2.1.2.2=mg,zt.2.2.1.1=mb,zt.2.2.1.2=c,zt.2.2.2.1=name,zt.2.2.2.2=v;intros x ex;intro G ok D r;refine Runs.inv ?_;intros res σ';intro ev;injection Lv ev with x0 i hz;obtain⟨hi,ev⟩:=hz
 cases V.cu hi;injection ua ev with x0 d l hz;obtain⟨h1,h2,ev⟩:=hz
 injection Lv ev with x0 y hz;obtain⟨hy,ev⟩:=hz
 obtain⟨hb,ev⟩:=aE ev;cases ev;refine r.objE ?_;intros a;intro hi;intros Q E;intro kk;injection xx (a:=a) (da:=a) D h1 h2 hi with x0 da es k hz;obtain⟨e1,e2,e3,_,e5,I⟩:=hz
 have f:=lI (name:=name) e3;rw[hy] at f;injection f with f val hz;obtain⟨g,hv⟩:=hz
 unfold attrOk at ok;simp only[Bool.and_eq_true] at ok;obtain⟨⟨o1,o2⟩,o3⟩:=ok;split at o3
 ·rename_i attr ha;revert x_1 attr;intros x_1 attr;intro ha o3;exact get_value (G.X.keeps D.sub) I (plainGet_of o1).1 (findObj_own o2 ha o3 (by rw[lookIn_dict];exact g)) (hv.handed hb) (kk ρ s.heap _ _ .refl D hv)
 ·cases o3
theorem Runs.Kn{β:Type}{t:Sem Value}{R:List Addr->Heap->β->Value->Prop}{r:Option (Except V β×ai)}{value:Expr}{o:Value}(h1:Runs prog w base A X t s ρ r R) :
  Runs prog w base A X (t>>=λy=>letTemporaryGo value o y>>=λu=>Pure.pure y) s ρ r R:=
 Runs.wp h1 rfl (λu=>rfl) λQ E q=>LB (LY q (λr s2 h2a=>LB (wpAny_letTemporaryGo (LC h2a))) λu u x=>x)
theorem cL(G:Gd K mg mb base){c:Addr}{value:Expr}{name:Str}{pos:Pos}{m:M V}(ok:attrOk K c name=true)(h:aC prog w base n env le value m)
 (he:eval (.Attribute value name pos) env=(do
   let o<-eval value env
   standAt pos.atName
   let r<-holding [o] (getAttr o name true)
   letTemporaryGo value o r
   pure r)):aC prog w base n env le (.Attribute value name pos) (do let v<-m;ve c v name):=by
 unfold aC;rw[he];refine bI.bind h λv x A σ ρ s P r=>Runs.aY ?_;exact Runs.Kn (Runs.holding (GJ (ex:=true) G ok P.D r))
set_option tactic.hygienic true in
theorem oV{d da k:Nat}{l:List (Str×V)}{es:Array DictEntry}{name:Str}{tk0:Tok}{y:V}{val:Value}{Q:Fin->Shared->Prop}{E:Value->Shared->Prop}(D:Rep w base ρ σ s.heap)(hX:∀ a∈ρ,a∉X)(e1:ρ[d]?=some da)(e2:s.heap.get? da=some (aN es k))(e3:dB l0 (hashStr w) (VR ρ s.heap) l es.toList)(nd:(l.map (·.1)).Nodup)
 (hlen:l.length<900)(ry:VR ρ s.heap y val)(kk:∀ h',Goes (frs A) X ρ ρ s.heap h'->Rep w base ρ (σ.set d (.sd (gC name y l))) h'->Q (.done (.ret .none)) {s with heap:=h',toks:=s.toks+1}) :
  wpAny (model prog w) A.in1 (Builtin.ObjectAttr.storeInDict da (.str name tk0) name val) Q E s:=by
 revert D hX e1 e2 e3 nd hlen ry kk;revert tk0 y val Q E;revert prog w base A X σ ρ s d da k l es name;apply b9;generalize cM=zt;generalize zt.1.1.1=prog,zt.1.1.2.1=w,zt.1.1.2.2=base,zt.1.2.1.1=A,zt.1.2.1.2=X,zt.1.2.2.1=σ,zt.1.2.2.2=ρ,zt.2.1.1=s,zt.2.1.2.1=d,zt.2.1.2.2=da,zt.2.2.1.1=k,zt.2.2.1.2=l,zt.2.2.2.1=es,zt.2.2.2.2=name;intros tk0 y val Q;intros E;intro D hX e1 e2 e3 nd hlen ry kk;have f:=lI (name:=name) e3;have hput:Obj.putName name (PyData.keyHash w.params name) (.str name s.toks) val (aN es k)=aN (putL name (PyData.keyHash w.params name) (.str name s.toks) val es.toList).toArray (putN name es.toList k):=by
  have q:=putName_dict name (PyData.keyHash w.params name) (.str name s.toks) val es.toList k;simpa [aN,dictOf] using q
 have hlen2:(putL name (PyData.keyHash w.params name) (Value.str name s.toks) val es.toList).length<=1000:=by
  have q:=uq (t:=s.toks) (name:=name) ry e3;have q2:=q.length;have q3:=CF (name:=name) (x:=y) (l:=l);have q4:(putL name (PyData.keyHash w.params name) (Value.str name s.toks) val es.toList).length=(gC name y l).length:=q2.symm;lia
 have hs:Heap.SameBut da s.heap (s.heap.update da (Obj.putName name (PyData.keyHash w.params name) (.str name s.toks) val)):=LQ ..;have eU:=LN (Obj.putName name (PyData.keyHash w.params name) (.str name s.toks) val) e2 (by rw[hput];rfl);rw[hput] at eU;have tup:∀ b vs m,s.heap.get? b=some {cls:=.type "tuple",data:=.seq vs m}->(s.heap.update da (Obj.putName name (PyData.keyHash w.params name) (.str name s.toks) val)).get? b=some {cls:=.type "tuple",data:=.seq vs m}:=
  λb vs m q=>(hs.2 b λz=>by subst z;rw[e2] at q;simp[aN] at q).trans q
 unfold Builtin.ObjectAttr.storeInDict;refine LB (LC (LB ?_));unfold nsSet;refine LB (LB (wpAny_askSetting (LC (LB (wpAny_mkText (LB (wpAny_loadPart e2 ?_)))))));dsimp only[aN];have cc:(!es.any (·.key.isStr name)&&es.any (·.refKey))=false:=by
  rw[<- Array.any_toList,<- Array.any_toList];cases hl:l.lookup name with
  |none=>rw[hl] at f;rw[f.2.1,Bool.and_false]
  |some v'=>
   rw[hl] at f;obtain⟨val',g,_⟩:=f;unfold getL at g;split at g
   ·rename_i en he;rw[List.any_eq_true.mpr ⟨en,List.mem_of_find?_eq_some he,List.find?_some he⟩];rfl
   ·split at g<;>simp at g
 rw[aRefKeyMayBeTheName_at,cc];refine wpAny_updatePart e2 ?_;refine LB (wpAny_lookBehind eU (pastItsLine_dict (by rw[List.size_toArray,sizeLine_eq];lia)) ?_);have hda:da∈ρ:=LG e1;refine LC (kk _ (Goes.update hda hs (hX _ hda)) (D.update e1 hs ⟨_,e2,by simp[aN]⟩ ⟨_,_,eU,?_,EG nd⟩));exact(uq (t:=s.toks) ry e3).mono (λu u z=>z) λv x r=>r.mono (λu u z=>z) tup
theorem G4(G:Gd K mg mb base){c:Addr}{name:Str}(ok:storeOk K c name=true){v y:V}{x val:Value}(hX:∀ a∈ρ,a∉X)(D:Rep w base ρ σ s.heap)(r:VR ρ s.heap v x)(ry:VR ρ s.heap y val) :
  Runs prog w base A X (setAttr x name val) s ρ (nO c v name y σ) (λu u u u=>True):=by
 revert G ok hX D r ry;revert y x val;revert prog w base A X σ ρ s K mg mb c name v;apply b9;generalize cM=zt;generalize zt.1.1.1=prog,zt.1.1.2.1=w,zt.1.1.2.2=base,zt.1.2.1.1=A,zt.1.2.1.2=X,zt.1.2.2.1=σ,zt.1.2.2.2=ρ,zt.2.1.1=s,zt.2.1.2.1=K,zt.2.1.2.2=mg,zt.2.2.1.1=mb,zt.2.2.1.2=c,zt.2.2.2.1=name,zt.2.2.2.2=v;intros y x val;intro G ok hX D r ry;refine Runs.inv ?_;intros res σ';intro ev;injection Lv ev with ev i hz;obtain⟨hi,hz⟩:=hz
 cases V.cu hi;injection ua hz with hz d l hz;obtain⟨h1,h2,hz⟩:=hz
 obtain⟨hlen,hr⟩:=aE hz;replace hlen:l.length<900:=hlen;cases hr;refine r.objE ?_;intros a;intro hi;injection xx (a:=a) (da:=a) D h1 h2 hi with x0 da es k hz;obtain⟨e1,e2,e3,nd,e5,I⟩:=hz
 intros Q E;intro kk;unfold storeOk at ok;simp only[Bool.and_eq_true,beq_iff_eq] at ok;obtain⟨⟨⟨o1,o2⟩,o3⟩,o4⟩:=ok;have Xh:=G.X.keeps D.sub;refine set_plain Xh I o1 (osa_open (s:={s with toks:=s.toks+1}) Xh I o2 o3 ?_);intros b;injection any_some o4 with x0 cd hz;obtain⟨hcd,hdd⟩:=hz
 refine LB (LC (LB (LB (wpAny_loadPart e5 (LB (Looks.here (s:={s with toks:=s.toks+1}) (looks_clsIn Xh hcd) ?_))))));rw[hdd];refine LC (a:=some da) ?_;exact oV (s:={s with toks:=s.toks+1}) D hX e1 e2 e3 nd hlen ry λh' G3 D3=>kk _ _ _ () G3 D3 trivial
end
end
inductive cI{κ:Type}(R:V->Value->Prop):List (κ×V)->List (κ×Value)->Prop
 |nil:cI R [] []
 |cons {k:κ} {v:V} {x:Value} {l:List (κ×V)} {xs:List (κ×Value)}:R v x->cI R l xs->cI R ((k,v)::l) ((k,x)::xs)
noncomputable def bN{κ:Type}[DecidableEq κ](l:List (κ×V))(k:κ)(v:V):List (κ×V):=
 if l.any (λp=>p.1=k) then l.map (λp=>if p.1=k then (p.1,v) else p) else l++[(k,v)]
noncomputable def cH{κ:Type}[DecidableEq κ](l:List (κ×V))(k:κ):List (κ×V):=l.filter λp=>decide (p.1≠k)
noncomputable def bX{κ:Type}[DecidableEq κ](l:List (κ×V))(k:κ):Option V:=(l.find? λp=>p.1=k).map (·.2)
section
variable{κ:Type}[DecidableEq κ]{R R':V->Value->Prop}{l:List (κ×V)}{xs:List (κ×Value)}
theorem cI.keys(H:cI R l xs):xs.map (·.1)=l.map (·.1):=by
 induction H with
 |nil=>rfl
 |cons _ _ ih=>simp[ih]
theorem cI.length(H:cI R l xs):xs.length=l.length:=by simpa using LH List.length H.keys
theorem cI.look(H:cI R l xs)(k:κ):match bX l k with
  |some v=>∃ x,valueAt xs k=some x/\R v x
  |none=>valueAt xs k=none:=by
 induction H with
 |nil=>rfl
 |@cons k' v x l xs r _ ih=>
  unfold bX valueAt at ih ⊢;rw[List.find?_cons,List.find?_cons];by_cases q:k'=k
  ·simp only[q,decide_true];exact⟨x,rfl,r⟩
  ·simp only[q,decide_false];exact ih
theorem cI.any(H:cI R l xs)(k:κ):(xs.any λp=>decide (p.1=k))=l.any λp=>decide (p.1=k):=by
 induction H with
 |nil=>rfl
 |cons _ _ ih=>simp only[List.any_cons,ih]
theorem cI.append{l':List (κ×V)}{xs':List (κ×Value)}(H:cI R l xs)(H':cI R l' xs'):cI R (l++l') (xs++xs'):=by
 induction H with
 |nil=>exact H'
 |cons r _ ih=>exact .cons r ih
theorem cI.sA(H:cI R l xs){k:κ}{v:V}{x:Value}(r:R v x):cI R (l.map (λp=>if p.1=k then (p.1,v) else p)) (xs.map (λp=>if p.1=k then (p.1,x) else p)):=by
 induction H with
 |nil=>exact .nil
 |@cons k' v' x' l xs r' _ ih=>
  simp only[List.map_cons];by_cases q:k'=k
  ·simp only[q,if_true];exact .cons r (by simpa using ih)
  ·simp only[q,if_false];exact .cons r' (by simpa using ih)
theorem cI.stored(H:cI R l xs){k:κ}{v:V}{x:Value}(r:R v x):cI R (bN l k v) (PySem.stored xs k x):=by
 unfold bN PySem.stored;rw[H.any];split
 ·exact H.sA r
 ·exact H.append (.cons r .nil)
theorem cI.without(H:cI R l xs)(k:κ):cI R (cH l k) (PySem.without xs k):=by
 unfold cH PySem.without
 induction H with
 |nil=>exact .nil
 |@cons k' v' x' l xs r' _ ih=>
  simp only[List.filter_cons];by_cases q:k'=k
  ·simp only[q,ne_eq,not_true_eq_false,decide_false];exact ih
  ·simp only[q,ne_eq,not_false_eq_true,decide_true,if_true];exact .cons r' ih
theorem cI.mono(H:cI R l xs)(h:∀ v x,R v x->R' v x):cI R' l xs:=by
 induction H with
 |nil=>exact .nil
 |cons r _ ih=>exact .cons (h _ _ r) ih
end
section
variable{prog:Program}{w:World}{κ:Type}[DecidableEq κ]{knd:KeyKind prog w κ}{KR:κ->Value->Prop}{R:V->Value->Prop}
theorem dB.pairs(hk:∀ k x,KR k x↔knd.is k x=true){l:List (κ×V)}{es:List DictEntry}(r:dB KR knd.hash R l es) :
  ∃ xs,Pairs knd es xs/\cI R l xs/\∀ e∈es,∃ k,knd.is k e.key=true/\e.hash=knd.hash k:=by
 induction r with
 |nil=>exact⟨[],.nil,.nil,λu h=>nomatch h⟩
 |@cons k v e l es h1 h2 h3 _ ih=>
  obtain⟨xs,p,q,z⟩:=ih;refine⟨(k,e.val)::xs,.cons ((hk _ _).mp h1) rfl p,.cons h3 q,λe' he=>?_⟩;rcases Lx he with rfl|he
  ·exact⟨k,(hk _ _).mp h1,h2⟩
  ·exact z e' he
theorem Pairs.Ey(hk:∀ k x,KR k x↔knd.is k x=true){l:List (κ×V)}{es:List DictEntry}{xs:List (κ×Value)}(p:Pairs knd es xs)(q:cI R l xs)
 (z:∀ e∈es,∃ k,knd.is k e.key=true/\e.hash=knd.hash k):dB KR knd.hash R l es:=by
 induction p generalizing l with
 |nil=>cases q;exact .nil
 |cons h1 h2 _ ih=>
  cases q with
  |cons r q=>
   refine .cons ((hk _ _).mpr h1) ?_ (h2▸r) (ih q λe he=>z e (.tail _ he));obtain⟨k,a,b⟩:=z _ (.head _);rw[b,knd.inj _ _ _ a h1]
theorem jP(hk:∀ k x,KR k x↔knd.is k x=true){l:List (κ×V)}{es:Array DictEntry}{n:Nat}{h:Heap}{a:Addr}(e:h.get? a=some (aN es n))(r:dB KR knd.hash R l es.toList)
 (nd:(l.map (·.1)).Nodup):∃ xs,h.DictOf knd a xs/\cI R l xs:=by
 obtain⟨xs,p,q,z⟩:=r.pairs hk;exact⟨xs,⟨_,es,n,e,⟨rfl,rfl,rfl⟩,rfl,λe he=>z e (Array.mem_toList_iff.mpr he),p,by rw[q.keys];exact nd⟩,q⟩
theorem rL(hk:∀ k x,KR k x↔knd.is k x=true){l:List (κ×V)}{h:Heap}{a:Addr}{xs:List (κ×Value)}(d:h.DictOf knd a xs)(q:cI R l xs) :
  ∃ es n,h.get? a=some (aN es n)/\dB KR knd.hash R l es.toList/\(l.map (·.1)).Nodup:=by
 obtain⟨o,es,n,ho,⟨h1,h2,h3⟩,hd,z,p,nd⟩:=d;refine⟨es,n,?_,Pairs.Ey hk p q λe he=>z e (Array.mem_toList_iff.mp he),by rw[<- q.keys];exact nd⟩;rw[ho];obtain⟨c,di,da,sl⟩:=o;simp only at h1 h2 h3 hd;subst h1;subst h2;subst h3;subst hd;rfl
end
theorem qw(prog:Program)(w:World)(k:Str)(x:Value):l0 k x↔(strKind prog w).is k x=true:=by
 constructor
 ·rintro ⟨t,rfl⟩;exact strKind_is prog w k t
 ·intro h;obtain⟨t,rfl⟩:=Value.isStrOf_shape h;exact⟨t,rfl⟩
theorem lQ(prog:Program)(w:World)(k:Int)(x:Value):vt k x↔(intKind prog w).is k x=true:=by
 constructor
 ·rintro ⟨t,rfl⟩;simp[intKind,Value.isInt]
 ·intro h;obtain⟨t,rfl⟩:=Value.isInt_shape h;exact⟨t,rfl⟩
theorem En{σ:ai}{i k:Nat}{l:List (Int×V)}(h:σ[i]?=some (.idd l k)):listAt σ i=none:=by unfold listAt;rw[h];rfl
theorem Lm{α β:Type}{o:Option α}{P:β->Prop}{f:α->Option β}{r:β}(h:o.bind f=some r)(k:∀ x,o=some x->f x=some r->P r):P r:=(Lv h).elim λx z=>k x z.1 z.2
noncomputable def uA(σ:ai)(o:Option V):Option (Except V V×ai):=o.bind λv=>some (.ok v,σ)
theorem qo{σ:ai}{o:Option V}{r:Except V V×ai}(h:uA σ o=some r):∃ v,o=some v/\(.ok v,σ)=r:=(Lv h).imp λu z=>⟨z.1,LF z.2⟩
def gR(a i:V):M V:=λσ=>
 (i.eX.bind λk=>(a.dh.bind λl=>if 0<=k/\k<=1000 then uA σ l[k.toNat]? else none).or (a.bO.bind λj=>((listAt σ j).bind λl=>if 0<=k/\k<=1000 then uA σ l[k.toNat]? else none).or ((gp σ j).bind λl=>uA σ (bX l k)))).or
  (i.iC.bind λx=>a.bO.bind λj=>(jD σ j).bind λl=>uA σ (bX l x))
theorem item_tup{σ:ai}{l:List V}{k:Int}{v:V}(hk:0<=k/\k<=1000)(h:l[k.toNat]?=some v):gR (.tup l) (.int k) σ=some (.ok v,σ):=by
 show (Option.or (ite _ _ _) none).or none=_;rw[if_pos hk,h];rfl
theorem item_list{σ:ai}{l:List V}{j:Nat}{k:Int}{v:V}(hj:σ[j]?=some (.list l))(hk:0<=k/\k<=1000)(h:l[k.toNat]?=some v):gR (.obj j) (.int k) σ=some (.ok v,σ):=by
 show (Option.or (Option.bind (listAt σ j) _) _).or none=_;rw[cj hj];show (Option.or (ite _ _ _) _).or none=_;rw[if_pos hk,h];rfl
theorem G8{σ:ai}{l:List (Int×V)}{j ep:Nat}{k:Int}{v:V}(hj:σ[j]?=some (.idd l ep))(h:bX l k=some v):gR (.obj j) (.int k) σ=some (.ok v,σ):=by
 show (Option.or (Option.bind (listAt σ j) _) (Option.bind (gp σ j) _)).or none=_;rw[En hj,uM hj];show (uA σ (bX l k)).or none=_;rw[h];rfl
theorem Im{σ:ai}{l:List (Str×V)}{j:Nat}{x:Str}{v:V}(hj:σ[j]?=some (.sd l))(h:bX l x=some v):gR (.obj j) (.str x) σ=some (.ok v,σ):=by
 show Option.bind (jD σ j) _=_;rw[mF hj];show uA σ (bX l x)=_;rw[h];rfl
section
variable{prog:Program}{w:World}{base:Heap}{n:Nat}{env:Env}{le:List (Str×V)}{A:Around}{X:List Addr}{σ:ai}{ρ:List Addr}{s:Shared}
theorem VR.vO{h:Heap}{l:List V}{x:Value}(r:VR ρ h (.tup l) x):∃ a vs n,x=.ref a/\h.get? a=some {cls:=.type "tuple",data:=.seq vs n}/\bq ρ h l vs.toList:=by
 refine r.rX λa1 vs1 n1 e r=>?_;exact⟨_,_,_,rfl,e,r⟩
theorem iM{h:Heap}{a:Addr}{vs:Array Value}{n:Nat}(e:h.get? a=some {cls:=.type "tuple",data:=.seq vs n}):IsTup h a vs:=⟨_,e,rfl,n,rfl⟩
theorem rG{k:Nat}{n:Nat}(h:k<n):seqIndex? (k:Int) n=some k:=by
 unfold seqIndex?;have h1:¬((k:Int)<0):=by omega
 simp only[h1,if_false];rw[if_pos (by simp;omega)];simp
theorem zX{value slice:Expr}{a i:V}{x y:Value}(D:Rep w base ρ σ s.heap)(ra:VR ρ s.heap a x)(ri:VR ρ s.heap i y)
 (hs:∃ ops,subscripted slice false x y=operate ops (getItem x y)):Runs prog w base A X (subscriptTail value slice x y) s ρ (gR a i σ) VR:=by
 revert D ra ri hs;revert prog w base A X σ ρ s value slice a i x y;apply b9;generalize cM=zt;generalize zt.1.1.1=prog,zt.1.1.2.1=w,zt.1.1.2.2=base,zt.1.2.1.1=A,zt.1.2.1.2=X,zt.1.2.2.1=σ,zt.1.2.2.2=ρ,zt.2.1.1=s,zt.2.1.2.1=value,zt.2.1.2.2=slice,zt.2.2.1.1=a,zt.2.2.1.2=i,zt.2.2.2.1=x,zt.2.2.2.2=y;intro D ra ri hs;injection hs with hs ops hs
 refine Runs.inv ?_;intros res σ';intro ev;replace ev:=or_some ev;rcases ev with hz|hz
 ·injection Lv hz with hz k hz;obtain⟨hi,hz⟩:=hz
  cases V.f9 hi;injection ri.inv with x0 u hy;obtain rfl:=hy
  replace hz:=or_some hz;rcases hz with hz|hz
  ·injection Lv hz with hz l hz;obtain⟨hi,hz⟩:=hz
   cases V.fC hi;obtain⟨hk,hz⟩:=aE hz;injection qo hz with hz v hz;obtain⟨hl,hr⟩:=hz
   cases hr;injection ra.inv with x0 a vs m hz;obtain⟨rfl,e,r⟩:=hz
   injection r.get hl with x0 z hz;obtain⟨hz,rz⟩:=hz
   rw[Array.getElem?_toList] at hz;intros Q E;intro kk;have hlt:k.toNat<vs.size:=(Array.getElem?_eq_some_iff.mp hz).1;injection Int.eq_ofNat_of_zero_le hk.1 with x0 k hz;obtain rfl:=hz
   exact tail_any (T:="tuple") (iM e).typeIs slot_tuple_getitem.lookup (getItem_tuple (iM e) (by lia) (by lia) (rG hlt) hz (kk ρ s.heap s.toks z .refl D rz)) hs
  ·injection Lv hz with hz j hz;obtain⟨hi,hz⟩:=hz
   cases V.cu hi;injection ra.inv with x0 a4 hy;obtain⟨rfl,hj⟩:=hy
   replace hz:=or_some hz;rcases hz with hz|hz
   ·injection fO hz with hz l hz;obtain⟨h1,hz⟩:=hz
    obtain⟨hk,hz⟩:=aE hz;injection qo hz with hz v hz;obtain⟨hl,hr⟩:=hz
    cases hr;injection D.list h1 hj with x0 vs u6 hz;obtain⟨_,e,r⟩:=hz
    injection r.get hl with x0 z hz;obtain⟨hz,rz⟩:=hz
    rw[Array.getElem?_toList] at hz;intros Q E;intro kk;exact tail_any (T:="list") e.typeIs slot_list_getitem.lookup (wpAny_getItem_list e hk.1 (by lia) hz (kk ρ s.heap s.toks z .refl D rz)) hs
   ·injection Gf hz with hz l m hz;obtain⟨h1,hz⟩:=hz
    injection qo hz with hz v hz;obtain⟨hl,hr⟩:=hz
    cases hr;injection D.obj _ _ _ h1 hj with x0 es hz;obtain⟨e,r,nd⟩:=hz
    injection jP (lQ prog w) e r nd with x0 xs hz;obtain⟨hd,q⟩:=hz
    have ql:=q.look k;rw[hl] at ql;injection ql with ql z hz;obtain⟨hz,rz⟩:=hz
    intros Q E;intro kk;exact tail_any (T:="dict") hd.typeIs slot_dict_getitem.lookup (wpAny_getItem_of (knd:=intKind prog w) ((lQ prog w _ _).mp ⟨u,rfl⟩) hd.mapOf hz (kk ρ s.heap _ z .refl D rz)) hs
 ·injection Lv hz with hz k hz;obtain⟨hi,hz⟩:=hz
  cases V.jg hi;injection ri.inv with x0 u hy;obtain rfl:=hy
  injection Lv hz with hz j hz;obtain⟨hi,hz⟩:=hz
  cases V.cu hi;injection ra.inv with x0 a6 hy;obtain⟨rfl,hj⟩:=hy
  injection tC hz with hz l hz;obtain⟨h1,hz⟩:=hz
  injection qo hz with hz v hz;obtain⟨hl,hr⟩:=hz
  cases hr;injection D.obj _ _ _ h1 hj with x0 es m hz;obtain⟨e,r,nd⟩:=hz
  injection jP (qw prog w) e r nd with x0 xs hz;obtain⟨hd,q⟩:=hz
  have ql:=q.look k;rw[hl] at ql;injection ql with ql z hz;obtain⟨hz,rz⟩:=hz
  intros Q E;intro kk;exact tail_any (T:="dict") hd.typeIs slot_dict_getitem.lookup (wpAny_getItem_of (knd:=strKind prog w) ((qw prog w _ _).mp ⟨u,rfl⟩) hd.mapOf hz (kk ρ s.heap _ z .refl D rz)) hs
theorem aB{value slice:Expr}{pos:Pos}{m m':M V}(h:aC prog w base n env le value m)(h':aC prog w base n env le slice m')
 (he:eval (.Subscript value slice pos) env=(do
   let o<-eval value env
   let i<-holding [o] (eval slice env)
   standAt pos
   subscriptTail value slice o i))
 (hs:∀ x y,∃ ops,subscripted slice false x y=operate ops (getItem x y)):aC prog w base n env le (.Subscript value slice pos) (do let a<-m;let i<-m';gR a i):=by
 unfold aC;rw[he];refine bI.bind h λv x A σ ρ s P r=>?_;exact Runs.bind (Runs.holding (h' A σ ρ s P)) λb σ' u ρ' h'' tk y G D ry=>Runs.aY (zX D (P.vr G r) ry (hs _ _))
def q7(a:V):M V:=λσ=>a.dh.bind λl=>if 1<=l.length/\l.length<=1000 then some (.ok (.tup (l.drop 1)),σ) else none
def xo(a:V):M V:=λσ=>a.bO.bind λj=>(listAt σ j).bind λl=>if l.length<=1000 then some (.ok (.obj σ.length),σ++[.list l.reverse]) else none
theorem rev_eq{j:Nat}{l:List V}{σ:ai}(h:σ[j]?=some (.list l))(hn:l.length<=1000):xo (.obj j) σ=some (.ok (.obj σ.length),σ++[.list l.reverse]):=by
 show (listAt σ j).bind _=_;rw[cj h];exact if_pos hn
theorem bq.drop{h:Heap}{l:List V}{vs:List Value}(r:bq ρ h l vs)(k:Nat):bq ρ h (l.drop k) (vs.drop k):=by
 induction k generalizing l vs with
 |zero=>exact r
 |succ k ih=>
  cases r with
  |nil=>exact .nil
  |cons a b=>exact ih b
theorem bq.reverse{h:Heap}{l:List V}{vs:List Value}(r:bq ρ h l vs):bq ρ h l.reverse vs.reverse:=by
 induction l generalizing vs with
 |nil=>cases r;exact .nil
 |cons v l ih=>
  refine r.bf λx7 xs7 a b=>?_;rw[List.reverse_cons,List.reverse_cons];exact(ih b).append (.cons a .nil)
theorem EW{value slice:Expr}{a:V}{x:Value}{u:Tok}{sl:Addr}(D:Rep w base ρ σ s.heap)(ra:VR ρ s.heap a x)(hsl:s.heap.IsSliceOf sl (.int 1 u) .none .none)
 (hs:∀ x y,∃ ops,subscripted slice false x y=operate ops (getItem x y)) :
  Runs prog w base A X (subscriptTail value slice x (.ref sl)) s ρ (q7 a σ) VR:=by
 refine Runs.inv λres σ' ev=>?_;obtain⟨l,hl,ev⟩:=Lv ev;rw[V.fC hl] at ra;obtain⟨hl,hr⟩:=aE ev;cases hr;obtain⟨a,vs,m,rfl,e,r⟩:=ra.vO;have hsz:=r.size;intro Q E kk;obtain⟨ops,hs⟩:=hs (.ref a) (.ref sl);refine tail_any (T:="tuple") (iM e).typeIs slot_tuple_getitem.lookup (getItem_tuple_from (a:=1) (iM e) hsl (LP _) (by lia) ?_ (by
  have e:sizeLine=16777216:=by decide
  rw[e];lia)) hs
 refine kk ρ _ s.toks _ Goes.push (D.keeps aP) (.tup (LK _ rfl) ?_);exact(r.drop 1).mono (λo o z=>z) λo o o z=>aP _ _ z
theorem Jm{value slice:Expr}{a:V}{x:Value}{u:Tok}{sl:Addr}(D:Rep w base ρ σ s.heap)(ra:VR ρ s.heap a x)(hsl:s.heap.IsSliceOf sl .none .none (.int (-1) u))
 (hs:∀ x y,∃ ops,subscripted slice false x y=operate ops (getItem x y)) :
  Runs prog w base A X (subscriptTail value slice x (.ref sl)) s ρ (xo a σ) VR:=by
 revert D ra hsl hs;revert prog w base A X σ ρ s value slice a x u sl;apply b9;generalize cM=zt;generalize zt.1.1.1=prog,zt.1.1.2.1=w,zt.1.1.2.2=base,zt.1.2.1.1=A,zt.1.2.1.2=X,zt.1.2.2.1=σ,zt.1.2.2.2=ρ,zt.2.1.1=s,zt.2.1.2.1=value,zt.2.1.2.2=slice,zt.2.2.1.1=a,zt.2.2.1.2=x,zt.2.2.2.1=u,zt.2.2.2.2=sl;intro D ra hsl hs;refine Runs.inv ?_;intros res σ';intro ev;injection Lv ev with ev j hz;obtain⟨hj,hz⟩:=hz
 cases V.cu hj;clear hj;injection fO hz with hz l hz;obtain⟨h1,hz⟩:=hz
 obtain⟨hl,hr⟩:=aE hz;clear hz;cases hr;refine ra.objE ?_;intros a;intro hj;injection D.list h1 hj with x0 vs u2 hz;obtain⟨_,e,r⟩:=hz
 have hsz:=r.size;injection hs (.ref a) (.ref sl) with x0 ops hs
 refine oW (vs:=vs.toList.reverse.toArray) D r.reverse ?_;intros Q E;intro kk;refine tail_any (T:="list") e.typeIs slot_list_getitem.lookup ?_ hs;have hsz':vs.size<=sizeLine:=by
  have e:sizeLine=16777216:=by decide
  rw[e];lia
 refine wpAny_getItem_list_slice e hsl .none .none (IsPart.int (-1) u) (by decide) ?_ hsz';rw[krv_pick];exact kk s.toks
theorem B3{c:Expr}{p:Pos}:eval (.Slice (some c) none none p) env=(do
   let l<-eval c env
   let u<-holding [l] (pure .none)
   let k<-holding [l,u] (pure .none)
   newFields "slice" [l,u,k]):=rfl
theorem CK{c:Expr}{p:Pos}:eval (.Slice none none (some c) p) env=(do
   let l<-pure .none
   let u<-holding [l] (pure .none)
   let k<-holding [l,u] (eval c env)
   newFields "slice" [l,u,k]):=rfl
theorem DG{lo hi:Option Expr}{p:Pos}:∀ x y,∃ ops,subscripted (.Slice lo hi none p) false x y=operate ops (getItem x y):=λx y=>⟨[y,x],rfl⟩
abbrev Kl:List Addr->Heap->Unit->Value->Prop:=λo h o y=>∃ sl u,y=.ref sl/\h.IsSliceOf sl (.int 1 u) .none .none
abbrev J3:List Addr->Heap->Unit->Value->Prop:=λo h o y=>∃ sl u,y=.ref sl/\h.IsSliceOf sl .none .none (.int (-1) u)
theorem Cz{c:Expr}{lo hi:Option Expr}{p:Pos}:∀ x y,∃ ops,subscripted (.Slice lo hi (some c) p) false x y=operate ops (getItem x y):=λx y=>⟨[x,y],rfl⟩
theorem vU{vs:List Value}{R:List Addr->Heap->Unit->Value->Prop}(hn:vs.length=3)(D:Rep w base ρ σ s.heap)(h:R ρ (s.heap.push {cls:=.type "slice",data:=.fields vs.toArray}) () (.ref s.heap.objs.size)) :
  Runs prog w base A X (newFields "slice" vs) s ρ ((pure ():M Unit) σ) R:=λQ E q=>
 L6 (q ρ _ s.toks _ Goes.push (D.keeps aP) h) (by show vs.toArray.size<=_;rw[List.size_toArray,hn];decide)
abbrev KD(i:Int):List Addr->Heap->Unit->Value->Prop:=λy y y a=>∃ u,a=.int i u
abbrev zC:List Addr->Heap->Unit->Value->Prop:=λu u u a=>a=Value.none
theorem CU{i:Int}{k:Nat}{pos:Pos}:bI prog w base n env le (eval (.Constant (.int i) k pos) env) (pure ()) (KD i):=by
 intro A σ ρ s P Q E k;show wpAny _ _ (do return Value.int i (<- fresh)) _ _ _;refine LB (λΓ p hΓ=>?_);exact(LC (k ρ s.heap (s.toks+1) _ .refl P.D ⟨_,rfl⟩):wpAny (model prog w) A (pure (Value.int i s.toks)) Q E {s with toks:=s.toks+1})
theorem Ju{i:Int}{k:Nat}{pos pos':Pos}:bI prog w base n env le (eval (.UnaryOp .USub (.Constant (.int i) k pos) pos') env) (pure ()) (KD (-i)):=by
 have he:eval (.UnaryOp .USub (.Constant (.int i) k pos) pos') env=(do let v<-eval (.Constant (.int i) k pos) env;standAt pos';holding [v] (unaryOp .USub v)):=rfl;rw[he];refine bI.bind (m:=pure ()) (g:=λy=>pure ()) CU λb a A σ ρ s P r=>Runs.aY (Runs.holding ?_);obtain⟨u,rfl⟩:=r;exact λQ E k=>PyProof.Rows.neg_int (k ρ s.heap _ _ .refl P.D ⟨_,rfl⟩)
theorem Fj{k:Nat}{pos' pos'':Pos}:bI prog w base n env le (eval (.Slice (some (.Constant (.int 1) k pos'')) none none pos') env) (pure ()) Kl:=by
 rw[B3];refine bI.bind (m:=pure ()) (g:=λy=>pure ()) CU λb a A σ ρ s P r=>?_;refine Runs.bind (m:=pure ()) (g:=λy=>pure ()) (R:=zC) (Runs.holding (Runs.pure P.D rfl)) λy σ' y ρ' h' tk u G D e=>?_;refine Runs.bind (m:=pure ()) (g:=λy=>pure ()) (R:=zC) (Runs.holding (Runs.pure D rfl)) λy σ' y ρ' h' tk u' G D e'=>?_;refine vU rfl D ?_;obtain⟨t,rfl⟩:=r;cases (show u=_ from e);cases (show u'=_ from e');exact⟨_,_,rfl,Heap.IsSliceOf.new ..⟩
theorem ET{k:Nat}{pos' pos'' pos3:Pos}:bI prog w base n env le (eval (.Slice none none (some (.UnaryOp .USub (.Constant (.int 1) k pos'') pos3)) pos') env) (pure ()) J3:=by
 rw[CK];refine bI.bind (m:=pure ()) (g:=λy=>pure ()) (R:=zC) (λA σ ρ s P=>Runs.pure P.D rfl) λb u A σ ρ s P e=>?_;refine Runs.bind (m:=pure ()) (g:=λy=>pure ()) (R:=zC) (Runs.holding (Runs.pure P.D rfl)) λy σ' y ρ' h' tk u' G D e'=>?_;refine Runs.bind (m:=pure ()) (g:=λy=>pure ()) (Runs.holding (Ju A σ' ρ' _ (P.step G D))) λb σ' y ρ' h' tk a G D r=>?_;refine vU rfl D ?_;obtain⟨t,rfl⟩:=r;cases (show u=_ from e);cases (show u'=_ from e');exact⟨_,_,rfl,Heap.IsSliceOf.new ..⟩
theorem uJ{value:Expr}{k:Nat}{pos pos' pos'':Pos}{m:M V}(h:aC prog w base n env le value m) :
  aC prog w base n env le (.Subscript value (.Slice (some (.Constant (.int 1) k pos'')) none none pos') pos) (do let a<-m;q7 a):=by
 have he:eval (.Subscript value (.Slice (some (.Constant (.int 1) k pos'')) none none pos') pos) env=(do
   let o<-eval value env
   let i<-holding [o] (eval (.Slice (some (.Constant (.int 1) k pos'')) none none pos') env)
   standAt pos
   subscriptTail value (.Slice (some (.Constant (.int 1) k pos'')) none none pos') o i):=rfl
 unfold aC;rw[he];refine bI.bind h λv x A σ ρ s P r=>?_;refine Runs.bind (m:=pure ()) (g:=λy=>q7 v) (Runs.holding (Fj A σ ρ s P)) λb σ' q ρ' h' tk a G D Z=>?_;obtain⟨sl,u,rfl,hs⟩:=Z;exact Runs.aY (EW D (P.vr G r) hs DG)
theorem JX{value:Expr}{k:Nat}{pos pos' pos'' pos3:Pos}{m:M V}(h:aC prog w base n env le value m) :
  aC prog w base n env le (.Subscript value (.Slice none none (some (.UnaryOp .USub (.Constant (.int 1) k pos'') pos3)) pos') pos) (do let a<-m;xo a):=by
 have he:eval (.Subscript value (.Slice none none (some (.UnaryOp .USub (.Constant (.int 1) k pos'') pos3)) pos') pos) env=(do
   let o<-eval value env
   let i<-holding [o] (eval (.Slice none none (some (.UnaryOp .USub (.Constant (.int 1) k pos'') pos3)) pos') env)
   standAt pos
   subscriptTail value (.Slice none none (some (.UnaryOp .USub (.Constant (.int 1) k pos'') pos3)) pos') o i):=rfl
 unfold aC;rw[he];refine bI.bind h λv x A σ ρ s P r=>?_;refine Runs.bind (m:=pure ()) (g:=λy=>xo v) (Runs.holding (ET A σ ρ s P)) λb σ' q ρ' h' tk a G D Z=>?_;obtain⟨sl,u,rfl,hs⟩:=Z;exact Runs.aY (Jm D (P.vr G r) hs Cz)
end
inductive ay where
 |next|ret (v:V)
instance:Nonempty ay:=⟨.next⟩
noncomputable def own(env:Env):List Addr:=env.locals::(env.cells.filter λp=>env.kindOf p.1==some .cell).map (·.2)
structure Head(base:Heap)(env:Env)(A:Around):Prop where
 fr:∃ fs,A.frames=some (env::fs)
 frame:env.frame=some env.locals
 new:∀ a∈own env,base.get? a=none
structure BR(base:Heap)(env:Env)(X:List Addr):Prop where
 loc:env.locals∈X
 new:∀ a∈X,base.get? a=none
 sub:∀ a∈X,a∈own env
theorem Head.may{base:Heap}{env:Env}{A:Around}(H:Head base env A):BR base env (own env):=⟨.head _,H.new,λu h=>h⟩
abbrev qc(env:Env)(keep:List (Str×V)):List Addr->Heap->ay->Flow->Prop:=λρ h c f=>match c with
 |.next=>f=.next/\br env keep ρ h
 |.ret v=>∃ x,f=.ret x/\VR ρ h v x
section
variable{prog:Program}{w:World}{base:Heap}{n:Nat}{env:Env}{le keep:List (Str×V)}{A:Around}{σ σ':ai}{ρ ρ':List Addr}{s:Shared}{h h':Heap}{α β:Type}{t:Sem α}{R:List Addr->Heap->β->α->Prop}{r:Option (Except V β×ai)}
theorem m6{a:Addr}(ha:a∈own env):a=env.locals\/∃ p∈env.cells,p.2=a:=by
 unfold own at ha;rcases Lx ha with e|e
 ·exact .inl e
 ·obtain⟨p,hp,e⟩:=List.mem_map.mp e;exact .inr ⟨p,(List.mem_filter.mp hp).1,e⟩
theorem gA(Y:br env le ρ h){a:Addr}(ha:a∈own env):a∉ρ:=by
 rcases m6 ha with rfl|⟨p,hp,rfl⟩
 ·exact Y.offL
 ·exact(Y.offC p hp).1
theorem iu(Y:br env le ρ h):∃ o,h.get? env.locals=some o/\(∀ vs n,o.data≠.seq vs n)/\∀ vs,o.data≠.fields vs:=by
 obtain⟨m,⟨o,es,ep,ho,hd,_⟩,_⟩:=Y.ns;exact⟨o,ho,(λu u e=>by rw[hd] at e;cases e),(λu e=>by rw[hd] at e;cases e)⟩
theorem mL(Y:br env le ρ h):ja (own env) h:=λa ha=>by
 rcases m6 ha with rfl|⟨p,hp,rfl⟩
 ·obtain⟨o,h1,h2,_⟩:=iu Y;exact⟨o,h1,h2⟩
 ·obtain⟨_,_,v,o,ho,hd⟩:=Y.offC p hp;exact⟨o,ho,λu u e=>by rw[hd] at e;cases e⟩
theorem Runs.K0{X:List Addr}(hX:∀ a∈X,a∈own env)(Y:br env le ρ s.heap)(h1:Runs prog w base A [] t s ρ r R):Runs prog w base A X t s ρ r R:=by
 have up:∀ {ρ' h'},Goes (frs A) [] ρ ρ' s.heap h'->Goes (frs A) X ρ ρ' s.heap h':=λG=>G.mono (λu u u z=>z) (λu u u z=>nomatch z) λa o u ha=>.inr (gA Y (hX a ha));cases r with
 |none=>trivial
 |some r=>
  obtain⟨r,σ'⟩:=r;cases r with
  |error v=>exact λQ E k=>h1 Q E λρ' h' tk x G D q=>k ρ' h' tk x (up G) D q
  |ok b=>exact λQ E k=>h1 Q E λρ' h' tk x G D q=>k ρ' h' tk x (up G) D q
theorem Runs.lift(Y:br env le ρ s.heap)(h1:Runs prog w base A [] t s ρ r R):Runs prog w base A (own env) t s ρ r R:=by
 have up:∀ {ρ' h'},Goes (frs A) [] ρ ρ' s.heap h'->Goes (frs A) (own env) ρ ρ' s.heap h':=λG=>G.mono (λu u u z=>z) (λu u u z=>nomatch z) λa o u ha=>.inr (gA Y ha);cases r with
 |none=>trivial
 |some r=>
  obtain⟨r,σ'⟩:=r;cases r with
  |error v=>exact λQ E k=>h1 Q E λρ' h' tk x G D q=>k ρ' h' tk x (up G) D q
  |ok b=>exact λQ E k=>h1 Q E λρ' h' tk x G D q=>k ρ' h' tk x (up G) D q
theorem Pre.jq{le':List (Str×V)}{X:List Addr}(P:Pre w base n A env le σ ρ h)(G:Goes (frs A) X ρ ρ' h h')(D':Rep w base ρ' σ' h')(Y':br env le' ρ' h'):Pre w base n A env le' σ' ρ' h':=
 ⟨D',P.S.step G,P.R,Y'⟩
theorem Goes.JO{FR X:List Addr}{a:Addr}(hs:Heap.SameBut a h h')(hX:a∈X){o o':Obj}(e:h.get? a=some o)(e':h'.get? a=some o')(h1:∀ vs n,o'.data≠.seq vs n)(h2:∀ vs,o'.data≠.fields vs) :
  Goes FR X ρ ρ h h':=
 ⟨⟨[],by simp⟩,λb ob q u x=>⟨ob,(hs.2 b λz=>x (z▸hX)).trans q,.inl rfl⟩,λu hb=>.inl hb,λb hb ob q=>by
  by_cases z:b=a
  ·subst z;exact⟨o',e',λu=>h1,λu=>h2⟩
  ·exact⟨ob,(hs.2 b z).trans q,id,id⟩⟩
theorem mD:∀ {l:List (Str×Addr)} {x y:Str} {c d:Addr},l.Pairwise (λx y=>x.2≠y.2)->(x,c)∈l->(y,d)∈l->x≠y->c≠d
 |[],_,_,_,_,_,h,_,_=>nomatch h
 |p::l,x,y,c,d,hp,hx,hy,n=>by
  rw[List.pairwise_cons] at hp;rcases Lx hx with e|e
  ·rcases Lx hy with e'|e'
   ·rw[<- e] at e';cases e';exact LW rfl n
   ·have:=hp.1 _ e';rw[<- e] at this;exact this
  ·rcases Lx hy with e'|e'
   ·have:=hp.1 _ e;rw[<- e'] at this;exact this.symm
   ·exact mD hp.2 e e' n
theorem uZ{x y:Str}{v v':V}(e:List.lookup y ((x,v)::le)=some v'):(y=x/\v=v')\/(y≠x/\le.lookup y=some v'):=by
 rw[List.lookup_cons] at e;by_cases z:y=x
 ·rw[beq_iff_eq.mpr z] at e;exact .inl ⟨z,LF e⟩
 ·rw[beq_false_of_ne z] at e;exact .inr ⟨z,e⟩
theorem xu{x y:Str}{a b:NameKind}(hl:env.kindOf x=some a)(q:env.kindOf y=some b)(n:a≠b):y≠x:=λz=>n (LF (hl.symm.trans (z▸q)))
theorem uT{x:Str}{v:V}(Y:br env le ρ h)(k:env.kindOf x=some .local\/env.kindOf x=some .cell\/env.kindOf x=some .free):∀ y v',List.lookup y ((x,v)::le)=some v'->env.kindOf y=some .local\/env.kindOf y=some .cell\/env.kindOf y=some .free:=
 λy v' e=>(uZ e).elim (λz=>z.1▸k) λz=>Y.kinds y v' z.2
theorem nZ{a c:Addr}{v:Option Value}(n:c≠a)(hs:Heap.SameBut a h h')(x:h.IsCell c v):h'.IsCell c v:=x.imp λo z=>⟨(hs.2 c n).trans z.1,z.2⟩
theorem Av{x:Str}{X:List Addr}{m:Str->Option Value}{u:Option Value}(H:BR base env X)(P:Pre w base n A env le σ ρ h)(hl:env.kindOf x=some .local)
 (hv:∀ y v,le.lookup y=some v->env.kindOf y=some .local->∃ val,m y=some val/\VR ρ h v val)(hn:h'.Ns env.locals (λy=>if y=x then u else m y))(hs:Heap.SameBut env.locals h h') :
  Goes (frs A) X ρ ρ h h'/\Rep w base ρ σ h'/\(∀ v val,u=some val->VR ρ h v val->br env ((x,v)::le) ρ h')/\(le.lookup x=none->br env le ρ h'):=by
 revert H P hl hv hn hs;revert w base n env le A σ ρ h h' x X m u;apply b9;generalize cM=zt;generalize zt.1.1.1=w,zt.1.1.2.1=base,zt.1.1.2.2=n,zt.1.2.1.1=env,zt.1.2.1.2=le,zt.1.2.2.1=A,zt.1.2.2.2=σ,zt.2.1.1=ρ,zt.2.1.2.1=h,zt.2.1.2.2=h',zt.2.2.1.1=x,zt.2.2.1.2=X,zt.2.2.2.1=m,zt.2.2.2.2=u;intro H P hl hv hn hs;have Y:=P.Y;injection iu Y with x0 oL hz;obtain⟨h1,h2,h3⟩:=hz
 injection (id hn) with x0 oL' es' ep' hz;obtain⟨h1',hd',hr'⟩:=hz
 have hX:env.locals∈X:=H.loc;have tup:∀ a vs n,h.get? a=some {cls:=.type "tuple",data:=.seq vs n}->h'.get? a=some {cls:=.type "tuple",data:=.seq vs n}:=λa vs n q=>
  (hs.2 a λz=>h2 vs n (by rw[z,h1] at q;cases q;rfl)).trans q
 have cell:∀ y v',le.lookup y=some v'->(env.kindOf y=some .cell\/env.kindOf y=some .free)->∃ c val,env.cells.lookup y=some c/\h'.IsCell c (some val)/\VR ρ h' v' val:=λy v' e q=>
  (Y.cell y v' e q).elim λc z=>z.elim λval' z=>⟨c,val',z.1,nZ (Y.offC _ (LJ z.1)).2.1 hs z.2.1,z.2.2.mono (λy y z=>z) tup⟩
 have offC:∀ p∈env.cells,p.2∉ρ/\p.2≠env.locals/\∃ v,h'.IsCell p.2 v:=λp hp=>
  ⟨(Y.offC p hp).1,(Y.offC p hp).2.1,(Y.offC p hp).2.2.imp λv z=>nZ (Y.offC p hp).2.1 hs z⟩
 have loc:∀ y v',le.lookup y=some v'->y≠x->env.kindOf y=some .local->∃ val,(if y=x then u else m y)=some val/\VR ρ h' v' val:=λy v' e z q=>
  (hv y v' e q).imp λval' w=>⟨(if_neg z).trans w.1,w.2.mono (λy y z=>z) tup⟩
 have nk:∀ y,(env.kindOf y=some .cell\/env.kindOf y=some .free)->y≠x:=λy q=>q.elim (λq=>xu hl q (by decide)) λq=>xu hl q (by decide);refine⟨Goes.JO hs hX h1 h1' (λj j e=>by rw[hd'] at e;cases e) (λj e=>by rw[hd'] at e;cases e),P.D.hidden λb o q c=>(hs.2 b λz=>?_).trans q,λv val hu r=>?_,λnx=>?_⟩
 ·rw[z] at c q;exact c.elim Y.offL λc=>c.elim (λc=>by rw[H.new _ hX] at c;cases c) λ⟨vs,k,c⟩=>h2 vs k (by rw[h1] at q;cases q;rw[c])
 ·exact⟨⟨_,hn,λy v' e q=>(uZ e).elim (λz=>⟨val,(if_pos z.1).trans hu,z.2▸r.mono (λy y z=>z) tup⟩) λz=>loc y v' z.2 z.1 q⟩,λy v' e q=>(uZ e).elim (λz=>LW z.1 (nk y q)) λz=>cell y v' z.2 q,uT Y (.inl hl),Y.offL,offC,Y.apart,Y.full,Y.fn,Y.gl,Y.bl⟩
 ·exact⟨⟨_,hn,λy v' e q=>loc y v' e (λz=>by rw[z,nx] at e;cases e) q⟩,cell,Y.kinds,Y.offL,offC,Y.apart,Y.full,Y.fn,Y.gl,Y.bl⟩
theorem GN{x:Str}{c:Addr}{v:V}{val:Value}(H:BR base env (own env))(P:Pre w base n A env le σ ρ h)(hc:env.kindOf x=some .cell)(hcl:env.cells.lookup x=some c)(r:VR ρ h v val)
 (hn:h'.IsCell c (some val))(hs:Heap.SameBut c h h'):Goes (frs A) (own env) ρ ρ h h'/\Rep w base ρ σ h'/\br env ((x,v)::le) ρ h':=by
 revert H P hc hcl r hn hs;revert w base n env le A σ ρ h h' x c v val;apply b9;generalize cM=zt;generalize zt.1.1.1=w,zt.1.1.2.1=base,zt.1.1.2.2=n,zt.1.2.1.1=env,zt.1.2.1.2=le,zt.1.2.2.1=A,zt.1.2.2.2=σ,zt.2.1.1=ρ,zt.2.1.2.1=h,zt.2.1.2.2=h',zt.2.2.1.1=x,zt.2.2.1.2=c,zt.2.2.2.1=v,zt.2.2.2.2=val;intro H P hc hcl r hn hs;have Y:=P.Y;have hmem:=LJ hcl;obtain⟨offc,nel,hz⟩:=id (Y.offC _ hmem);injection hz with hz v0 oc hz;obtain⟨hoc,hdc⟩:=hz
 injection (id hn) with x0 oc' hz;obtain⟨hoc',hdc'⟩:=hz
 injection (id Y.ns) with x0 m hz;obtain⟨hm,hv⟩:=hz
 injection (id hm) with x0 oN esN epN hz;obtain⟨hoN,rN⟩:=hz
 have hX:c∈own env:=.tail _ (List.mem_map.mpr ⟨(x,c),List.mem_filter.mpr ⟨hmem,by simp[hc]⟩,rfl⟩);have ns:∀ vs k,oc.data≠.seq vs k:=λvs k e=>by rw[hdc] at e;cases e
 have tup:∀ a vs n,h.get? a=some {cls:=.type "tuple",data:=.seq vs n}->h'.get? a=some {cls:=.type "tuple",data:=.seq vs n}:=λa vs n q=>
  (hs.2 a λz=>ns vs n (by rw[z,hoc] at q;cases q;rfl)).trans q
 refine⟨Goes.JO hs hX hoc hoc' (λu u e=>by rw[hdc'] at e;cases e) (λu e=>by rw[hdc'] at e;cases e),P.D.hidden λb o q c'=>(hs.2 b λz=>?_).trans q,⟨m,⟨oN,esN,epN,(hs.2 _ nel.symm).trans hoN,rN⟩,λy v' e q=>?_⟩,λy v' e q=>?_,uT Y (.inr (.inl hc)),Y.offL,λp hp=>?_,Y.apart,Y.full,Y.fn,Y.gl,Y.bl⟩
 ·rw[z] at c' q;exact c'.elim offc λc'=>c'.elim (λc'=>by rw[H.new _ hX] at c';cases c') λ⟨vs,k,c'⟩=>ns vs k (by rw[hoc] at q;cases q;rw[c'])
 ·exact(uZ e).elim (λz=>LW z.1 (xu hc q (by decide))) λz=>(hv y v' z.2 q).imp λval' w=>⟨w.1,w.2.mono (λy y z=>z) tup⟩
 ·exact(uZ e).elim (λz=>⟨c,val,z.1▸hcl,hn,z.2▸r.mono (λy y z=>z) tup⟩) λz=>(Y.cell y v' z.2 q).elim λc' u=>u.elim λval' u=>⟨c',val',u.1,nZ (mD Y.apart (LJ u.1) hmem z.1) hs u.2.1,u.2.2.mono (λy y z=>z) tup⟩
 ·refine⟨(Y.offC p hp).1,(Y.offC p hp).2.1,?_⟩;by_cases z:p.2=c
  ·exact⟨_,z▸hn⟩
  ·exact(Y.offC p hp).2.2.imp λv y=>nZ z hs y
theorem nI{x:Str}{v:V}{val:Value}{X:List Addr}(H:BR base env X)(P:Pre w base n A env le σ ρ s.heap)(hk:env.kindOf x=some .local\/(env.kindOf x=some .cell/\X=own env))(r:VR ρ s.heap v val) :
  Runs prog w base A X (bindName env x val) s ρ ((pure ():M Unit) σ) (λρ' h' _ _=>br env ((x,v)::le) ρ' h'):=by
 intro Q E k;have Y:=P.Y;obtain⟨m,hm,hv⟩:=id Y.ns;rcases hk with hl|⟨hc,hX⟩
 ·refine wpAny_bindName (wpAny_storeName_local hl hm (λh' hn hs=>?_) (show (env.scope.kind==.class||(env.scope.kind==.module&&env.locals !=env.globals))=false by rw[Y.fn];rfl));have z:=Av H P hl hv hn hs;exact k ρ h' _ () z.1 z.2.1 (z.2.2.1 v val rfl r)
 ·obtain⟨c,hcl⟩:=Y.full x (.inl hc);obtain⟨oc,nel,v0,hoc⟩:=Y.offC _ (LJ hcl);refine wpAny_bindName (wpAny_storeName_cell Y.fn hc hcl hoc λh' hn hs=>?_);have z:=GN (hX▸H) P hc hcl r hn hs;exact k ρ h' _ () (hX▸z.1) z.2.1 z.2.2
theorem br.weak{le':List (Str×V)}(Y:br env le ρ h)(hw:∀ x v,le'.lookup x=some v->le.lookup x=some v):br env le' ρ h:=by
 obtain⟨m,hm,hv⟩:=Y.ns;exact⟨⟨m,hm,λx v e k=>hv x v (hw x v e) k⟩,λx v e k=>Y.cell x v (hw x v e) k,λx v e=>Y.kinds x v (hw x v e),Y.offL,Y.offC,Y.apart,Y.full,Y.fn,Y.gl,Y.bl⟩
end
section
variable(prog:Program)(w:World)(base:Heap)(n:Nat)(env:Env)(le keep:List (Str×V))
def dz{α β:Type}(t:Sem α)(m:M β)(R:List Addr->Heap->β->α->Prop):Prop:=
 ∀ (A:Around) (σ:ai) (ρ:List Addr) (s:Shared),Pre w base n A env le σ ρ s.heap->Head base env A->Runs prog w base A (own env) t s ρ (m σ) R
abbrev aJ(stmts:List Stmt)(m:M ay):Prop:=dz prog w base n env le (execs stmts env) m (qc env keep)
end
section
variable{prog:Program}{w:World}{base:Heap}{n:Nat}{env:Env}{le keep:List (Str×V)}{α β γ δ:Type}
theorem dz.block{t:Sem Flow}{rest:List Stmt}{m:M β}{f:β->M ay}{le':β->List (Str×V)}{st:Stmt}(he:exec st env=t)
 (h1:dz prog w base n env le t m (λρ h b fl=>fl=.next/\br env (le' b) ρ h))(h2:∀ b,aJ prog w base n env (le' b) keep rest (f b)) :
  aJ prog w base n env le keep (st::rest) (m>>=f):=by
 intro A σ ρ s P H;show Runs _ _ _ _ _ (exec st env>>=λfl=>match fl with|.next=>execs rest env|f=>pure f) _ _ _ _;rw[he];refine Runs.bind (h1 A σ ρ s P H) λb σ' u ρ' h' tk fl G D q=>?_;obtain⟨rfl,Y⟩:=q;exact h2 b A σ' ρ' _ (P.jq G D Y) H
theorem bT(hw:∀ x v,keep.lookup x=some v->le.lookup x=some v):aJ prog w base n env le keep [] (pure .next):=λA σ ρ s P H=>
 Runs.pure (a:=Flow.next) P.D ⟨rfl,P.Y.weak hw⟩
theorem M.bind_pure{m:M β}{σ:ai}:(m>>=λc=>pure c) σ=m σ:=by
 show (match m σ with|none=>none|some (Except.error e,σ')=>some (Except.error e,σ')|some (Except.ok a,σ')=>(pure a:M β) σ':Option (Except V β×ai))=_;cases m σ with
 |none=>rfl
 |some r=>obtain⟨r,σ'⟩:=r;cases r<;>rfl
theorem Runs.vn{A:Around}{X:List Addr}{t:Sem α}{s:Shared}{ρ:List Addr}{r:Option (Except V β×ai)}{R:List Addr->Heap->β->α->Prop}(h1:Runs prog w base A X t s ρ r R) :
  Runs prog w base A X t s ρ r (λρ' h' b a=>Goes (frs A) X ρ ρ' s.heap h'/\R ρ' h' b a):=by
 cases r with
 |none=>trivial
 |some r=>
  obtain⟨r,σ'⟩:=r;cases r with
  |error v=>exact h1
  |ok b=>exact λQ E k=>h1 Q E λρ' h' tk a G D r=>k ρ' h' tk a G D ⟨G,r⟩
theorem Runs.fF{A:Around}{σ:ai}{ρ:List Addr}{s:Shared}{t:Sem α}{f:α->Sem γ}{m:M β}{g:β->M δ}{R:List Addr->Heap->β->α->Prop}{R':List Addr->Heap->δ->γ->Prop}
 (P:Pre w base n A env le σ ρ s.heap)(h1:Runs prog w base A [] t s ρ (m σ) R)
 (h2:∀ b σ' ρ' h' tk a,Goes (frs A) [] ρ ρ' s.heap h'->Pre w base n A env le σ' ρ' h'->R ρ' h' b a->Runs prog w base A (own env) (f a) {s with heap:=h',toks:=tk} ρ' (g b σ') R') :
  Runs prog w base A (own env) (t>>=f) s ρ ((m>>=g) σ) R':=
 Runs.bind (Runs.lift P.Y h1.vn) λb σ' u ρ' h' tk a u D q=>h2 b σ' ρ' h' tk a q.1 (P.step q.1 D) q.2
theorem dz.fF{t:Sem α}{f:α->Sem γ}{m:M β}{g:β->M δ}{R:List Addr->Heap->β->α->Prop}{R':List Addr->Heap->δ->γ->Prop}
 (h1:bI prog w base n env le t m R)
 (h2:∀ b a (A:Around) (σ:ai) (ρ:List Addr) (s:Shared),Pre w base n A env le σ ρ s.heap->Head base env A->R ρ s.heap b a->Runs prog w base A (own env) (f a) s ρ (g b σ) R') :
  dz prog w base n env le (t>>=f) (m>>=g) R':=λA σ ρ s P H=>
 Runs.fF P (h1 A σ ρ s P) λb σ' ρ' h' tk a G P' r=>h2 b a A σ' ρ' _ P' H r
theorem aF{e:Expr}{pos:Pos}{rest:List Stmt}{m:M V}(h:aC prog w base n env le e m):aJ prog w base n env le keep (.Return (some e) pos::rest) (do let v<-m;pure (.ret v)):=by
 have e:execs (.Return (some e) pos::rest) env=(standAt pos>>=λu=>eval e env>>=λv=>pure (Flow.ret v)):=by
  show ((standAt pos>>=λu=>eval e env>>=λv=>pure (Flow.ret v))>>=λfl=>match fl with|.next=>execs rest env|f=>pure f)=_;rw[bind_assoc];refine LH _ (funext λu=>?_);rw[bind_assoc];rfl
 unfold aJ;rw[e];exact λA σ ρ s P H=>Runs.aY (dz.fF h (λv x A σ ρ s P H r=>Runs.pure P.D ⟨x,rfl,r⟩) A σ ρ s P H)
theorem ER(x y:List Stmt):execs (x++y) env=(execs x env>>=λfl=>match fl with|.next=>execs y env|f=>pure f):=by
 induction x with
 |nil=>rfl
 |cons s x ih=>
  show (exec s env>>=λfl=>match fl with|.next=>execs (x++y) env|f=>pure f)=((exec s env>>=λfl=>match fl with|.next=>execs x env|f=>pure f)>>=λfl=>match fl with|.next=>execs y env|f=>pure f);rw[bind_assoc];refine LH _ (funext λfl=>?_);cases fl with
  |next=>exact ih
  |_=>rfl
theorem bD{c:Expr}{b o rest:List Stmt}{pos:Pos}{mc:M Bool}{m m':M ay}(hc:kD prog w base n env le c mc)(h:aJ prog w base n env le keep (b++rest) m)(h':aJ prog w base n env le keep (o++rest) m') :
  aJ prog w base n env le keep (.If c b o pos::rest) (do if<-mc then m else m'):=by
 have e:execs (.If c b o pos::rest) env=(standAt pos>>=λu=>isTrue c env (eval c env)>>=λr=>if r then execs (b++rest) env else execs (o++rest) env):=by
  show ((standAt pos>>=λu=>isTrue c env (eval c env)>>=λr=>if r then execs b env else execs o env)>>=λfl=>match fl with|.next=>execs rest env|f=>pure f)=_;rw[bind_assoc];refine LH _ (funext λu=>?_);rw[bind_assoc];refine LH _ (funext λr=>?_);cases r<;>simp[ER]
 unfold aJ;rw[e];refine λA σ ρ s P H=>Runs.aY (dz.fF hc (λq x A σ ρ s P H rx=>?_) A σ ρ s P H);have rx':x=q:=rx;subst rx';cases x with
 |true=>exact h A σ ρ s P H
 |false=>exact h' A σ ρ s P H
theorem aT{x:Str}{pos pos':Pos}{value:Expr}{rest:List Stmt}{m:M V}{f:V->M ay}(hk:env.kindOf x=some .local\/env.kindOf x=some .cell)(h:aC prog w base n env le value m)
 (h2:∀ v,aJ prog w base n env ((x,v)::le) keep rest (f v))(hs:swapsWith value (some (.Name x pos')) pos.line env=pure false) :
  aJ prog w base n env le keep (.Assign [.Name x pos'] value pos::rest) (do let v<-m;f v):=by
 refine dz.block (le':=λv=>(x,v)::le) (exec_Assign_Name env x pos' value pos hs) ?_ h2;intro A σ ρ s P H;have e:(m>>=λv=>(do (pure ():M Unit);pure v)) σ=m σ:=M.bind_pure;rw[<- e];refine Runs.aY (dz.fF h (λv x A σ ρ s P H r=>Runs.aY ?_) A σ ρ s P H);exact Runs.bind (nI H.may P (hk.imp id λz=>⟨z,rfl⟩) r) λu σ' u ρ' h' tk u G D Y=>Runs.pure D ⟨rfl,Y⟩
end
section
variable{prog:Program}{w:World}{κ:Type}[DecidableEq κ]{knd:KeyKind prog w κ}{A:Around}{E:Value->Shared->Prop}{s:Shared}
theorem El{d:Addr}{kvs:List (κ×Value)}{ep:Nat}{k:κ}{key v:Value}{Q:Unit->Shared->Prop}(hkey:knd.is k key=true)(hm:s.heap.DictAt knd d kvs ep)
 (hQ:∀ h',h'.DictAt knd d (stored kvs k v) (if kvs.any (λkv=>kv.1=k) then ep else ep+1)->Heap.SameBut d s.heap h'->Q () {s with heap:=h',toks:=s.toks+1})
 (hsz:kvs.length<=sizeLine) :
  wpAny (model prog w) A (dictSet d key v) Q E s:=by
 obtain⟨o,es,ho,hc,hd,hk,hp,hn⟩:=hm;have hes:es.size<=sizeLine:=by
  have e1:=hp.length;have e2:es.toList.length=es.size:=by simp
  lia
 unfold dictSet
 try with_reducible refine LU ?_
 refine LB (knd.pyHash hkey ?_);unfold dictSetHashed
 try with_reducible refine LU ?_
 refine LB (wpAny_dictFind_of (s:={s with toks:=s.toks+1}) hkey ho hd hk ?_);have hidx:(es.findIdx? λe=>knd.is k e.key)=kvs.findIdx? λkv=>decide (kv.1=k):=by
  rw[<- hp.findIdx k];obtain⟨l⟩:=es;simp
 cases hi:es.findIdx? λe=>knd.is k e.key with
 |some i=>
  have ha:=any_of_findIdx_some (hidx▸hi);rw[if_pos ha] at hQ;refine LB (wpAny_rule (LB (wpAny_updateDict (s:={s with toks:=s.toks+1}) ho hd (wpAny_point (hQ _ ⟨_,_,LN _ ho (Obj.isFreed_of_dict (Obj.data_mapDict hd _)),
   hc.mapDict _,Obj.data_mapDict hd _,hk.modify _ _,?_,?_⟩ (LQ ..))))))
  ·rw[stored,if_pos ha];have hl:(es.toList.findIdx? λe=>knd.is k e.key)=some i:=by rw[<- hi];obtain⟨l⟩:=es;simp
   have:=hp.modify hn hl v;obtain⟨l⟩:=es;simpa using this
  ·rw[stored,if_pos ha,keys_map_store];exact hn
 |none=>
  have hnot:k∉kvs.map (·.1):=not_mem_of_findIdx_none (hidx▸hi);have hany:¬(kvs.any λkv=>decide (kv.1=k))=true:=by
   rw[List.any_eq_true];rintro ⟨kv,hkv,he⟩;exact hnot (List.mem_map.mpr ⟨kv,hkv,of_decide_eq_true he⟩)
  rw[if_neg hany] at hQ;refine LB (wpAny_rule (wpAny_updateDictKeys (hz:=hes) (s:={s with toks:=s.toks+1}) ho hd (hQ _ ⟨_,_,LN _ ho (Obj.isFreed_of_dict (Obj.data_mapDictKeys hd _)),
   hc.mapDictKeys _,Obj.data_mapDictKeys hd _,hk.push hkey _,?_,?_⟩ (LQ ..))))
  ·rw[stored,if_neg hany];have:=hp.append hkey (knd.hash k) v;obtain⟨l⟩:=es;simpa using this
  ·rw[stored,if_neg hany,List.map_append,List.nodup_append];refine⟨hn,by simp,?_⟩;intro a ha b hb;simp only[List.map_cons,List.map_nil,List.mem_singleton] at hb;subst hb;exact λe=>hnot (e▸ha)
theorem Ez{d:Addr}{kvs:List (κ×Value)}{ep:Nat}{k:κ}{key v:Value}{Q:Unit->Shared->Prop}(hkey:knd.is k key=true)(hm:s.heap.DictAt knd d kvs ep)
 (hQ:∀ h',h'.DictAt knd d (stored kvs k v) (if kvs.any (λkv=>kv.1=k) then ep else ep+1)->Heap.SameBut d s.heap h'->Q () {s with heap:=h',toks:=s.toks+1})
 (hsz:kvs.length<=sizeLine) :
  wpAny (model prog w) A (setItem (.ref d) key v) Q E s:=by
 have hD:=hm.dictOf;unfold setItem
 try with_reducible refine LU ?_
 refine LB (wpAny_sequenceKey hD.typeIs (by decide) ?_);refine LB (wpAny_callSpecial?_slot (name:=Str.ofString "__setitem__") hD.typeIs slot_dict_setitem
  (wpAny_call_entry slot_dict_setitem hD.typeIs entry_dict_setitem ?_ (args_dict_setitem _ _ _)))
 show wpAny _ _ (Builtin.Dict.notOrdered "__setitem__" ⟨[.ref d,key,v],[]⟩>>=_) _ _ s;refine LB (wpAny_notOrdered_dict hD.typeIs ?_);show wpAny _ _ (dictSet d key v>>=_) _ _ s;exact LB (El hkey hm (λh' hm' hs'=>LC ⟨.none,rfl,LC (hQ h' hm' hs')⟩) hsz)
theorem Et{d:Addr}{kvs:List (κ×Value)}{ep:Nat}{k:κ}{key:Value}{Q:Option DictEntry->Shared->Prop}(hkey:knd.is k key=true)(hm:s.heap.DictAt knd d kvs ep)
 (hnone:valueAt kvs k=none->Q none {s with toks:=s.toks+1})
 (hsome:∀ e,knd.is k e.key=true->valueAt kvs k=some e.val->∀ h',h'.DictAt knd d (without kvs k) (ep+1)->Heap.SameBut d s.heap h'->Q (some e) {s with heap:=h',toks:=s.toks+1})
 (hsz:kvs.length<=sizeLine) :
  wpAny (model prog w) A (Builtin.Dict.takeOut d key) Q E s:=by
 obtain⟨o,es,ho,hc,hd,hk,hp,hn⟩:=hm;have hes:es.size<=sizeLine:=by
  have e1:=hp.length;have e2:es.toList.length=es.size:=by simp
  lia
 unfold Builtin.Dict.takeOut
 try with_reducible refine LU ?_
 refine LB (knd.pyHash hkey ?_);refine LB (wpAny_dictFind_of (s:={s with toks:=s.toks+1}) hkey ho hd hk ?_);cases hi:es.findIdx? λe=>knd.is k e.key with
 |none=>
  refine LC (hnone ?_);rw[<- hp.find k];have:(es.toList.find? λe=>knd.is k e.key)=none:=by
   rw[List.find?_eq_none];intro e he;have:=Array.findIdx?_eq_none_iff.mp hi e (Array.mem_toList_iff.mp he);simpa using this
  rw[this];rfl
 |some i=>
  have hl:(es.toList.findIdx? λe=>knd.is k e.key)=some i:=by rw[<- hi];obtain⟨l⟩:=es;simp
  obtain⟨e,he,hek,hev⟩:=hp.at hl;refine LB (wpAny_dictEntries (s:={s with toks:=s.toks+1}) ho hd ?_);have he':es[i]?=some e:=by rw[<- he];obtain⟨l⟩:=es;simp
  rw[he'];refine LB (wpAny_updateDictKeys (hz:=hes) (s:={s with toks:=s.toks+1}) ho hd (LC (hsome e hek hev _ ⟨_,_,LN _ ho (Obj.isFreed_of_dict (Obj.data_mapDictKeys hd _)),
   hc.mapDictKeys _,Obj.data_mapDictKeys hd _,hk.erase _,?_,nodup_without hn k⟩ (LQ ..))))
  have:=hp.erase hn hl;obtain⟨l⟩:=es;simpa using this
theorem nT{KR:κ->Value->Prop}{R:V->Value->Prop}(hk:∀ k x,KR k x↔knd.is k x=true){l:List (κ×V)}{es:Array DictEntry}{n:Nat}{h:Heap}{a:Addr}(e:h.get? a=some (aN es n))(r:dB KR knd.hash R l es.toList)
 (nd:(l.map (·.1)).Nodup):∃ xs,h.DictAt knd a xs n/\cI R l xs:=by
 obtain⟨xs,p,q,z⟩:=r.pairs hk;exact⟨xs,⟨_,es,e,⟨rfl,rfl,rfl⟩,rfl,λe he=>z e (Array.mem_toList_iff.mpr he),p,by rw[q.keys];exact nd⟩,q⟩
theorem xG{KR:κ->Value->Prop}{R:V->Value->Prop}(hk:∀ k x,KR k x↔knd.is k x=true){l:List (κ×V)}{n:Nat}{h:Heap}{a:Addr}{xs:List (κ×Value)}(d:h.DictAt knd a xs n)(q:cI R l xs) :
  ∃ es,h.get? a=some (aN es n)/\dB KR knd.hash R l es.toList/\(l.map (·.1)).Nodup:=by
 obtain⟨o,es,ho,⟨h1,h2,h3⟩,hd,z,p,nd⟩:=d;refine⟨es,?_,Pairs.Ey hk p q λe he=>z e (Array.mem_toList_iff.mp he),by rw[<- q.keys];exact nd⟩;rw[ho];obtain⟨c,di,da,sl⟩:=o;simp only at h1 h2 h3 hd;subst h1;subst h2;subst h3;subst hd;rfl
end
def HY(σ:ai)(j:Nat)(k:Int)(v:V):Option (Except V Unit×ai):=(listAt σ j).bind λl=>if 0<=k/\k<l.length/\k<=1000 then some (.ok (),σ.set j (.list (l.set k.toNat v))) else none
def H9(σ:ai)(j:Nat)(k:Int)(v:V):Option (Except V Unit×ai):=(σ[j]?.bind aq.iO).bind λq=>if q.1.length<=1000 then some (.ok (),σ.set j (.idd (bN q.1 k v) (if q.1.any (λp=>p.1=k) then q.2 else q.2+1))) else none
def H6(σ:ai)(j:Nat)(x:Str)(v:V):Option (Except V Unit×ai):=(jD σ j).bind λl=>if l.length<=1000 then some (.ok (),σ.set j (.sd (bN l x v))) else none
def eT(a i v:V):M Unit:=λσ=>a.bO.bind λj=>(i.eX.bind λk=>(HY σ j k v).or (H9 σ j k v)).or (i.iC.bind λx=>H6 σ j x v)
theorem Ct{a i v:V}{σ:ai}{r:Except V Unit×ai}(h:eT a i v σ=some r):∃ j,a=.obj j/\((∃ k,i=.int k/\HY σ j k v=some r)\/(∃ k,i=.int k/\H9 σ j k v=some r)\/∃ x,i=.str x/\H6 σ j x v=some r):=
 (Lv h).imp λj z=>⟨V.cu z.1,(or_some z.2).elim (λy=>(Lv y).elim λk x=>(or_some x.2).imp (λw=>⟨k,V.f9 x.1,w⟩) λw=>.inl ⟨k,V.f9 x.1,w⟩) λy=>.inr (.inr ((Lv y).imp λk x=>⟨V.jg x.1,x.2⟩))⟩
section
variable{σ:ai}{j n ep:Nat}{k:Int}{x:Str}{v:V}
theorem set_list{l:List V}(h:σ[j]?=some (.list l))(hn:n<l.length)(hm:n<=1000):eT (.obj j) (.int n) v σ=some (.ok (),σ.set j (.list (l.set n v))):=by
 show ((((listAt σ j).bind _).or _).or _)=_;rw[cj h];show ((ite _ _ _:Option (Except V Unit×ai)).or _).or _=_;rw[if_pos ⟨Int.natCast_nonneg n,Int.ofNat_lt.mpr hn,by lia⟩];rfl
theorem Iq{l:List (Int×V)}(h:σ[j]?=some (.idd l ep))(hn:l.length<=1000):eT (.obj j) (.int k) v σ=some (.ok (),σ.set j (.idd (bN l k v) (if l.any (λp=>p.1=k) then ep else ep+1))):=by
 show (((listAt σ j).bind _).or ((σ[j]?.bind aq.iO).bind _)).or _=_;rw[show listAt σ j=none by unfold listAt;rw[h];rfl,h];show (ite _ _ _:Option (Except V Unit×ai)).or _=_;rw[if_pos hn];rfl
theorem GF{l:List (Str×V)}(h:σ[j]?=some (.sd l))(hn:l.length<=1000):eT (.obj j) (.str x) v σ=some (.ok (),σ.set j (.sd (bN l x v))):=by
 show (jD σ j).bind _=_;rw[mF h];exact if_pos hn
end
theorem bq.set{ρ:List Addr}{h:Heap}{l:List V}{vs:List Value}(r:bq ρ h l vs){v:V}{x:Value}(rv:VR ρ h v x)(k:Nat):bq ρ h (l.set k v) (vs.set k x):=by
 induction k generalizing l vs with
 |zero=>cases r with
  |nil=>exact .nil
  |cons a b=>exact .cons rv b
 |succ k ih=>cases r with
  |nil=>exact .nil
  |cons a b=>exact .cons a (ih b)
section
variable{prog:Program}{w:World}{base:Heap}{n:Nat}{env:Env}{le keep:List (Str×V)}{A:Around}{X:List Addr}{σ:ai}{ρ:List Addr}{s:Shared}{h h':Heap}{K:Frag}{mg mb:Str->Option Value}
theorem ig{a:Addr}{o:Obj}(hs:Heap.SameBut a h h')(e:h.get? a=some o)(no:∀ vs n,o≠{cls:=.type "tuple",data:=.seq vs n}) :
  ∀ b vs n,h.get? b=some {cls:=.type "tuple",data:=.seq vs n}->h'.get? b=some {cls:=.type "tuple",data:=.seq vs n}:=λb vs n q=>
 (hs.2 b λz=>by subst z;rw[e] at q;cases q;exact no _ _ rfl).trans q
theorem VR.same{a:Addr}{o:Obj}(hs:Heap.SameBut a h h')(e:h.get? a=some o)(no:∀ vs n,o≠{cls:=.type "tuple",data:=.seq vs n}){v:V}{x:Value}(r:VR ρ h v x):VR ρ h' v x:=
 r.mono (λu u z=>z) (ig hs e no)
theorem bq.same{a:Addr}{o:Obj}(hs:Heap.SameBut a h h')(e:h.get? a=some o)(no:∀ vs n,o≠{cls:=.type "tuple",data:=.seq vs n}){v:List V}{x:List Value}(r:bq ρ h v x):bq ρ h' v x:=
 r.mono (λu u z=>z) (ig hs e no)
theorem j0{vs:Array Value}{k:Nat}:∀ us n,aO vs k≠{cls:=.type "tuple",data:=.seq us n}:=λu u e=>by simp[aO] at e
theorem qj{es:Array DictEntry}{k:Nat}:∀ us n,aN es k≠{cls:=.type "tuple",data:=.seq us n}:=λu u e=>by simp[aN] at e
theorem lq{j:Nat}{a:Addr}{vs us:Array Value}{k k':Nat}{l:List V}(hj:ρ[j]?=some a)(D:Rep w base ρ σ h)(hX:∀ a∈ρ,a∉X)(e:h.get? a=some (aO vs k))(hs:Heap.SameBut a h h')(o':h'.get? a=some (aO us k'))
 (r:bq ρ h l us.toList):Goes (frs A) X ρ ρ h h'/\Rep w base ρ (σ.set j (.list l)) h':=
 ⟨Goes.update (LG hj) hs (hX _ (LG hj)),D.update hj hs ⟨_,e,by simp[aO]⟩ ⟨us,k',o',r.same hs e j0⟩⟩
theorem jc(f:Array Value->Array Value)(vs:Array Value)(k:Nat):∃ k',(aO vs k).mapSeq f=aO (f vs) k':=⟨_,rfl⟩
theorem z0{E:Value->Shared->Prop}{l:Addr}{items:Array Value}{m:Nat}{k:Int}{t:Tok}{v:Value}{Q:Unit->Shared->Prop}(ho:s.heap.get? l=some (aO items m))
 (h0:0<=k)(hfit:k<2^63)(hn:k<items.size)
 (hQ:∀ h' m',h'.get? l=some (aO (items.setIfInBounds k.toNat v) m')->Heap.SameBut l s.heap h'->Q () {s with heap:=h'}) :
  wpAny (model prog w) A (setItem (.ref l) (.int k t) v) Q E s:=by
 revert ho h0 hfit hn hQ;revert v Q;revert prog w A s E l items m k t;apply cK;generalize dm=zt;generalize zt.1.1.1=prog,zt.1.1.2=w,zt.1.2.1=A,zt.1.2.2.1=s,zt.1.2.2.2=E,zt.2.1.1=l,zt.2.1.2=items,zt.2.2.1=m,zt.2.2.2.1=k,zt.2.2.2.2=t;intros v Q;intro ho h0 hfit hn hQ;have hl:s.heap.IsList l items:=⟨_,ho,rfl,m,rfl⟩
 have hd:(aO items m).data=.seq items m:=rfl;unfold setItem
 try with_reducible refine LU ?_
 first|refine LB (LC ?_)|skip
 refine LB (wpAny_sequenceKey hl.typeIs (by decide) ?_);refine LB (wpAny_callSpecial?_slot (name:=Str.ofString "__setitem__") hl.typeIs slot_list_setitem
  (wpAny_call_entry slot_list_setitem hl.typeIs entry_list_setitem ?_ (args_list_setitem _ _ _)))
 show wpAny _ _ (Builtin.List.listSubscript? (.int k t)>>=_) _ _ s;refine LB (wpAny_listSubscript_int (fitsIndex_of h0 hfit) ?_);clear hfit;injection Int.eq_ofNat_of_zero_le h0 with x0 j hz;obtain rfl:=hz
 have hj:j<items.size:=by omega
 have hx':items[j]?=some items[j]:=Array.getElem?_eq_getElem hj;show wpAny _ _ ((seqItemAt l j>>=λr=>pure (r.map (j,·)))>>=_) _ _ s;refine LB (LB (wpAny_seqItemAt ho hd (LC ?_)));rw[hx'];show wpAny _ _ (setSeqItemAt l j v>>=_) _ _ s;injection jc (·.setIfInBounds j v) items m with x0 m' hm'
 have hfin:=LN (Obj.mapSeq (·.setIfInBounds j v)) ho (by rw[hm'];rfl);rw[hm'] at hfin;refine LB (wpAny_setSeqItemAt ho hd ?_)
 first
  |exact LB (LC (LC ⟨.none,rfl,LC (hQ _ _ hfin (LQ ..))⟩))
  |exact LC ⟨.none,rfl,LC (hQ _ _ hfin (LQ ..))⟩
theorem jJ{a:Addr}{es:Array DictEntry}{k:Nat}(hs:Heap.SameBut a h h')(e:h.get? a=some (aN es k)){v:V}{x:Value}(r:VR ρ h v x):VR ρ h' v x:=r.same hs e qj
theorem fW{m:Nat}(h:m<=1001):m<=sizeLine:=by
 have e:sizeLine=16777216:=by decide
 rw[e];lia
theorem Cq{a i v:V}{x y z:Value}(hX:∀ a∈ρ,a∉X)(D:Rep w base ρ σ s.heap)(ra:VR ρ s.heap a x)(ri:VR ρ s.heap i y)(rv:VR ρ s.heap v z) :
  Runs prog w base A X (setItem x y z) s ρ (eT a i v σ) (λo o o o=>True):=by
 revert hX D ra ri rv;revert prog w base A X σ ρ s a i v x y z;apply b9;generalize cM=zt;generalize zt.1.1.1=prog,zt.1.1.2.1=w,zt.1.1.2.2=base,zt.1.2.1.1=A,zt.1.2.1.2=X,zt.1.2.2.1=σ,zt.1.2.2.2=ρ,zt.2.1.1=s,zt.2.1.2.1=a,zt.2.1.2.2=i,zt.2.2.1.1=v,zt.2.2.1.2=x,zt.2.2.2.1=y,zt.2.2.2.2=z;intro hX D ra ri rv;refine Runs.inv ?_;intros res σ';intro ev;injection Ct ev with ev j hz;obtain⟨rfl,hz⟩:=hz
 refine ra.objE ?_;intros a1;intro hj;rcases hz with hz|hz|hz
 ·injection hz with hz k hz;obtain⟨rfl,hz⟩:=hz
  refine ri.gw ?_;intros u;injection fO hz with hz l hz;obtain⟨h1,hz⟩:=hz
  obtain⟨hk,hr⟩:=aE hz;clear hz;cases hr;injection D.list h1 hj with x0 vs m hz;obtain⟨e,_,r⟩:=hz
  intros Q E;intro kk;have hsz:=r.size;refine z0 e hk.1 (by lia) (by lia) ?_;intros h' m';intro il hs;obtain⟨G,D'⟩:=lq (A:=A) (l:=l.set k.toNat v) hj D hX e hs il (by rw[Array.toList_setIfInBounds];exact r.set rv _);exact kk ρ h' s.toks () G D' trivial
 ·injection hz with hz k hz;obtain⟨rfl,hz⟩:=hz
  refine ri.gw ?_;intros u;injection tD hz with hz l ep hz;obtain⟨h1,hz⟩:=hz
  obtain⟨hk,hr⟩:=aE hz;replace hk:l.length<=1000:=hk;clear hz;cases hr;injection D.obj _ _ _ h1 hj with x0 es hz;obtain⟨e,r,nd⟩:=hz
  injection nT (lQ prog w) e r nd with x0 xs hz;obtain⟨hd,q⟩:=hz
  intros Q E;intro kk;refine Ez (knd:=intKind prog w) ((lQ prog w _ _).mp ⟨u,rfl⟩) hd ?_ (fW (by rw[q.length];lia));intros h';intro hd' hs;rw[q.any] at hd';injection xG (lQ prog w) hd' ((q.stored rv).mono λv x r=>jJ hs e r) with x0 es' hz;obtain⟨g1,g2,g3⟩:=hz
  exact kk ρ h' _ () (Goes.update (LG hj) hs (hX _ (LG hj))) (D.update hj hs ⟨_,e,by simp[aN]⟩ ⟨es',g1,g2,g3⟩) trivial
 ·injection hz with hz k hz;obtain⟨rfl,hz⟩:=hz
  refine ri.oJ ?_;intros u;injection tC hz with hz l hz;obtain⟨h1,hz⟩:=hz
  obtain⟨hk,hr⟩:=aE hz;clear hz;cases hr;injection D.obj _ _ _ h1 hj with x0 es m hz;obtain⟨e,r,nd⟩:=hz
  injection jP (qw prog w) e r nd with x0 xs hz;obtain⟨hd,q⟩:=hz
  intros Q E;intro kk;refine wpAny_setItem_pairs (knd:=strKind prog w) ((qw prog w _ _).mp ⟨u,rfl⟩) hd ?_ (fW (by rw[q.length];lia));intros h';intro hd' hs;injection rL (qw prog w) hd' ((q.stored rv).mono λv x r=>jJ hs e r) with x0 es' m' hz;obtain⟨g1,g2,g3⟩:=hz
  exact kk ρ h' _ () (Goes.update (LG hj) hs (hX _ (LG hj))) (D.update hj hs ⟨_,e,by simp[aN]⟩ ⟨es',m',g1,g2,g3⟩) trivial
end
section
variable{prog:Program}{w:World}{base:Heap}{n:Nat}{env:Env}{le keep:List (Str×V)}{K:Frag}{mg mb:Str->Option Value}{α β γ δ:Type}
theorem gx{t value:Expr}{pos:Pos}(hs:swapsWithSole [t] value pos.line env=pure false)(hw:swappedStores [t] value env=pure none)(ht:(assignEach [t] env).map (·.2)=[assign t env]) :
  exec (.Assign [t] value pos) env=(standAt pos>>=λu=>eval value env>>=λv=>assign t env v>>=λu=>pure .next):=by
 rw[exec_Assign,hs];refine LH _ (funext λu=>?_);rw[pure_bind,if_neg (by decide)];refine LH _ (funext λv=>?_);rw[hw,pure_bind,ht];rfl
theorem Runs.release{A:Around}{X:List Addr}{s:Shared}{ρ:List Addr}{r:Option (Except V β×ai)}{R:List Addr->Heap->β->Unit->Prop}{t:Sem Unit}{vs ks:List Value}(h1:Runs prog w base A X t s ρ r R) :
  Runs prog w base A X (t>>=λu=>PySem.release vs ks) s ρ r R:=
 Runs.wp h1 rfl (λu=>rfl) λQ E q=>LB (LY q (λu u h2a=>wpAny_release' h2a) λu u x=>x)
theorem cJ(G:Gd K mg mb base){c:Addr}{o value:Expr}{name:Str}{pos pos':Pos}{rest:List Stmt}{m mo:M V}{f:M ay}(ok:storeOk K c name=true)(h:aC prog w base n env le value m)(ho:aC prog w base n env le o mo)
 (h2:aJ prog w base n env le keep rest f)(hs:swapsWithSole [.Attribute o name pos'] value pos.line env=pure false)(hw:swappedStores [.Attribute o name pos'] value env=pure none) :
  aJ prog w base n env le keep (.Assign [.Attribute o name pos'] value pos::rest) (do (do let v<-m;let b<-mo;nO c b name v);f):=by
 refine dz.block (m:=do let v<-m;let b<-mo;nO c b name v) (f:=λu=>f) (le':=λu=>le) (gx hs hw rfl) ?_ λu=>h2;intro A σ ρ s P H;refine Runs.aY (dz.fF h (λv x A σ ρ s P H r=>?_) A σ ρ s P H);have ha:∀ x,assign (.Attribute o name pos') env x=(holding [x] (eval o env)>>=λov=>standAt pos'.atName>>=λu=>holding [x,ov] (setAttr ov name x)>>=λu=>PySem.release [x,ov] []):=λu=>rfl;rw[ha];have e:(mo>>=λb=>nO c b name v) σ=((mo>>=λb=>nO c b name v)>>=λu=>pure ()) σ:=M.bind_pure.symm;rw[e];refine Runs.fF P (R:=λu u u u=>True) ?_ λu σ' ρ' h' tk u G' P' u=>Runs.pure P'.D ⟨rfl,P'.Y⟩;refine Runs.bind (Runs.holding (ho A σ ρ s P)) λb σ' u ρ' h' tk y G' D' ry=>Runs.aY (Runs.release (Runs.holding ?_));exact G4 G ok (λu u q=>nomatch q) D' ry (P.vr G' r)
theorem qB(o i:Expr)(pos':Pos):∃ (vs:Value->Value->Value->List Value),∀ x,assign (.Subscript o i pos') env x=(holding [x] (eval o env)>>=λov=>holding [x,ov] (eval i env)>>=λiv=>standAt pos'>>=λu=>holding [x,ov,iv] (setItem ov iv x)>>=λu=>
   PySem.release (vs x ov iv) []):=⟨_,λu=>rfl⟩
theorem gS{o i value:Expr}{pos pos':Pos}{rest:List Stmt}{m mo mi:M V}{f:M ay}(h:aC prog w base n env le value m)(ho:aC prog w base n env le o mo)(hi:aC prog w base n env le i mi)
 (h2:aJ prog w base n env le keep rest f)(hs:swapsWithSole [.Subscript o i pos'] value pos.line env=pure false)(hw:swappedStores [.Subscript o i pos'] value env=pure none) :
  aJ prog w base n env le keep (.Assign [.Subscript o i pos'] value pos::rest) (do (do let v<-m;let b<-mo;let k<-mi;eT b k v);f):=by
 refine dz.block (m:=do let v<-m;let b<-mo;let k<-mi;eT b k v) (f:=λu=>f) (le':=λu=>le) (gx hs hw rfl) ?_ λu=>h2;intro A σ ρ s P H;refine Runs.aY (dz.fF h (λv x A σ ρ s P H r=>?_) A σ ρ s P H);obtain⟨vs,ha⟩:=qB (env:=env) o i pos';rw[ha];have e:(mo>>=λb=>mi>>=λk=>eT b k v) σ=((mo>>=λb=>mi>>=λk=>eT b k v)>>=λu=>pure ()) σ:=M.bind_pure.symm;rw[e];refine Runs.fF P (R:=λu u u u=>True) ?_ λu σ' ρ' h' tk u G' P' u=>Runs.pure P'.D ⟨rfl,P'.Y⟩;refine Runs.bind (Runs.holding (ho A σ ρ s P)) λb σ' u ρ' h' tk y G' D' ry=>?_;refine Runs.bind (Runs.holding (hi A σ' ρ' _ (P.step G' D'))) λk σ'' u ρ'' h'' tk' z G'' D'' rz=>Runs.aY (Runs.release (Runs.holding ?_));exact Cq (λu u q=>nomatch q) D'' ((P.step G' D').vr G'' ry) rz ((P.step G' D').vr G'' (P.vr G' r))
def zH(_:V):M Unit:=pure ()
theorem bH{e:Expr}{pos:Pos}{rest:List Stmt}{m:M V}{f:M ay}(h:aC prog w base n env le e m)(h2:aJ prog w base n env le keep rest f)(hi:interactive env=false)(hs:swapsWith e none pos.line env=pure false) :
  aJ prog w base n env le keep (.Expr e pos::rest) (do (do let v<-m;zH v);f):=by
 refine dz.block (m:=do let v<-m;zH v) (f:=λu=>f) (le':=λu=>le) (exec_Expr env e pos hi hs) ?_ λu=>h2;intro A σ ρ s P H;refine Runs.aY (dz.fF h (λv x A σ ρ s P H r=>?_) A σ ρ s P H);intro Q E k;exact wpAny_dropValue (k ρ s.heap s.toks _ .refl P.D ⟨rfl,P.Y⟩)
theorem DO{A:Around}{X:List Addr}{σ:ai}{ρ:List Addr}{s:Shared}{k:Nat}{l:List V}{x:Value}(D:Rep w base ρ σ s.heap)(R:c7 n A)(r:VR ρ s.heap (.tup l) x)(hk:l.length=k)(hn1:1<=n:=by lia) :
  Runs prog w base A X (unpackItems x k none) s ρ ((pure l:M (List V)) σ) bq:=by
 obtain⟨a,vs,m,rfl,e,rl⟩:=r.vO;have hs:=rl.size;obtain rfl:k=vs.size:=by lia
 intro Q E q;refine unpackItems_tuple (R.handled hn1) (iM e) λh' hb=>?_;have hk:∀ a o,s.heap.get? a=some o->h'.get? a=some o:=λa o z=>hb a o (Nat.ne_of_lt (LM z)) z;exact q ρ h' s.toks _ (Goes.keeps hk) (D.keeps hk) (rl.mono (λu u z=>z) λu u u z=>hk _ _ z)
theorem tK{A:Around}{X:List Addr}{σ:ai}{ρ:List Addr}{s:Shared}{k:Nat}{l:List V}{x:Value}(D:Rep w base ρ σ s.heap)(R:c7 n A)(r:VR ρ s.heap (.tup l) x)(hk:l.length=k)(hn1:1<=n:=by lia) :
  Runs prog w base A X (unpackItems x k none) s ρ ((pure ():M Unit) σ) (λρ h u xs=>bq ρ h l xs):=λQ E q=>
 (DO (prog:=prog) (X:=X) D R r hk hn1:∀ Q E,_) Q E λρ' h' tk a G D r=>q ρ' h' tk a G D r
noncomputable def binds:List Str->List V->List (Str×V)->List (Str×V)
 |x::xs,v::vs,le=>binds xs vs ((x,v)::le)
 |_,_,le=>le
set_option tactic.hygienic true in
theorem yv{A:Around}{σ:ai}:∀ {names:List Str} {fs:List (Value->Sem Unit)} {l:List V} {xs:List Value} {le:List (Str×V)} {ρ:List Addr} {s:Shared},Head base env A->Pre w base n A env le σ ρ s.heap ->
  names.length=l.length->fs.length=l.length->(∀ (i:Nat) (x:Str) f,names[i]?=some x->fs[i]?=some f->(env.kindOf x=some .local\/env.kindOf x=some .cell)/\∀ (r:Option (Except V Unit×ai)) (R:List Addr->Heap->Unit->Unit->Prop) v s ρ,Runs prog w base A (own env) (bindName env x v) s ρ r R->Runs prog w base A (own env) (f v) s ρ r R)->bq ρ s.heap l xs ->
  Runs prog w base A (own env) (assignInOrder fs xs) s ρ ((pure ():M Unit) σ) (λρ' h' u u=>br env (binds names l le) ρ' h')
 |[],fs,l,xs,le,ρ,s,H,P,hn,hf,hfs,r=>by
  cases l with
  |nil=>
   cases r;cases fs with
   |nil=>exact Runs.pure P.D P.Y
   |cons=>simp at hf
  |cons=>simp at hn
 |x::names,fs,l,xs,le,ρ,s,H,P,hn,hf,hfs,r=>by
  cases l with
  |nil=>simp at hn
  |cons v l=>
   cases r with
   |cons rv r=>
    rename_i y xs;cases fs with
    |nil=>simp at hf
    |cons f fs=>
     obtain⟨hk,hf1⟩:=hfs 0 x f rfl rfl;show Runs _ _ _ _ _ (holding xs (f y)>>=λu=>assignInOrder fs xs) _ _ _ _;refine Runs.bind (m:=pure ()) (g:=λu=>pure ()) (Runs.holding (hf1 _ _ _ _ _ (nI H.may P (hk.imp id λz=>⟨z,rfl⟩) rv))) λu σ' q ρ' h' tk u G D Y=>?_;cases q;exact yv (names:=names) H (P.jq G D Y) (by simpa using hn) (by simpa using hf) (λi x f a b=>hfs (i+1) x f (by simpa using a) (by simpa using b)) (r.step P.D P.S (mL P.Y) G)
end
def bR{γ β:Type}(pat:V->Option γ)(v:V)(f:γ->M β):M β:=match pat v with
 |some g=>f g
 |none=>M.fail
theorem uf{γ β:Type}{pat:V->Option γ}{v:V}{f:γ->M β}{σ:ai}{x:Except V β×ai}(h:bR pat v f σ=some x):∃ p,pat v=some p/\f p σ=some x:=by
 cases e:pat v with
 |none=>rw[bR,e] at h;cases h
 |some p=>rw[bR,e] at h;exact⟨p,rfl,h⟩
noncomputable def cA(v:V):Option V:=some v
section
variable{γ:Type}{v:V}{l:List V}{g x:γ}
noncomputable def Fp(v:V)(f:List V->Option γ):Option γ:=match v with
 |.tup l=>f l
 |_=>none
noncomputable def qG(l:List V)(f:V->List V->Option γ):Option γ:=match l with
 |[]=>none
 |a::r=>f a r
noncomputable def E0(l:List V)(g:γ):Option γ:=match l with
 |[]=>some g
 |_::_=>none
theorem s7{f:List V->Option γ}(h:Fp v f=some g):∃ l,v=.tup l/\f l=some g:=by
 cases v<;>first|exact⟨_,rfl,h⟩|exact aU h
theorem gE{f:V->List V->Option γ}(h:qG l f=some g):∃ a r,l=a::r/\f a r=some g:=by
 cases l with
 |nil=>exact aU h
 |cons a r=>exact⟨a,r,rfl,h⟩
theorem wX(h:E0 l x=some g):l=[]/\x=g:=by
 cases l with
 |nil=>exact⟨rfl,LF h⟩
 |cons a r=>exact aU h
end
noncomputable def lP(v:V):Option (V×V):=Fp v λl=>qG l λa l=>qG l λb l=>E0 l (a,b)
noncomputable def jE(v:V):Option (V×V×V):=Fp v λl=>qG l λa l=>qG l λb l=>qG l λc l=>E0 l (a,b,c)
noncomputable def A9(v:V):Option (V×V×V×V):=Fp v λl=>qG l λa l=>qG l λb l=>qG l λc l=>qG l λd l=>E0 l (a,b,c,d)
noncomputable def zA(v:V):Option (V×V×V×V×V):=Fp v λl=>qG l λz l=>qG l λu l=>E0 l ()>>=λy=>(A9 u).map λx=>(z,x)
theorem Bf{v:V}{g:V×V}(h:lP v=some g):v=.tup [g.1,g.2]:=by
 obtain⟨l,rfl,h⟩:=s7 h;obtain⟨a,l,rfl,h⟩:=gE h;obtain⟨b,l,rfl,h⟩:=gE h;obtain⟨rfl,rfl⟩:=wX h;rfl
theorem AR{v:V}{g:V×V×V}(h:jE v=some g):v=.tup [g.1,g.2.1,g.2.2]:=by
 revert h;revert v g;intros v g;intro h;injection s7 h with x0 l hz;obtain⟨rfl,h⟩:=hz
 injection gE h with x0 a l hz;obtain⟨rfl,h⟩:=hz
 injection gE h with x0 b l hz;obtain⟨rfl,h⟩:=hz
 injection gE h with x0 c l hz;obtain⟨rfl,h⟩:=hz
 obtain⟨rfl,rfl⟩:=wX h;rfl
theorem Am{v:V}{g:V×V×V×V}(h:A9 v=some g):v=.tup [g.1,g.2.1,g.2.2.1,g.2.2.2]:=by
 revert h;revert v g;intros v g;intro h;injection s7 h with x0 l hz;obtain⟨rfl,h⟩:=hz
 injection gE h with x0 a l hz;obtain⟨rfl,h⟩:=hz
 injection gE h with x0 b l hz;obtain⟨rfl,h⟩:=hz
 injection gE h with x0 c l hz;obtain⟨rfl,h⟩:=hz
 injection gE h with x0 d l hz;obtain⟨rfl,h⟩:=hz
 obtain⟨rfl,rfl⟩:=wX h;rfl
theorem Fd{v:V}{g:V×V×V×V×V}(h:zA v=some g):v=.tup [g.1,.tup [g.2.1,g.2.2.1,g.2.2.2.1,g.2.2.2.2]]:=by
 revert h;revert v g;intros v g;intro h;injection s7 h with x0 l hz;obtain⟨rfl,h⟩:=hz
 injection gE h with x0 z l hz;obtain⟨rfl,h⟩:=hz
 injection gE h with x0 u l hz;obtain⟨rfl,h⟩:=hz
 cases l with
 |nil=>
  injection Lw (show (A9 u).map (λx=>(z,x))=some g from h) with x0 x hz;obtain⟨e,rfl⟩:=hz
  rw[Am e]
 |cons a r=>
  revert a r;intros a r;intro _ _ _ h;exact aU h
section
variable(prog:Program)(w:World)(base:Heap)(n:Nat)(env:Env)(X:List Addr)
def eE{γ:Type}(t:Expr)(pat:V->Option γ)(ext:γ->List (Str×V)):Prop:=
 ∀ (le:List (Str×V)) (A:Around) (σ:ai) (ρ:List Addr) (s:Shared) (v:V) (x:Value) (g:γ),Pre w base n A env le σ ρ s.heap->BR base env X->VR ρ s.heap v x->pat v=some g ->
  Runs prog w base A X (assign t env x) s ρ ((pure ():M Unit) σ) (λρ' h' u u=>br env (ext g++le) ρ' h')
def tE(ts:List Expr)(l:List V)(bs:List (Str×V)):Prop:=
 ∀ (le:List (Str×V)) (A:Around) (σ:ai) (ρ:List Addr) (s:Shared) (xs:List Value),Pre w base n A env le σ ρ s.heap->BR base env X->bq ρ s.heap l xs ->
  Runs prog w base A X (assignInOrder (ts.map λt=>assign t env) xs) s ρ ((pure ():M Unit) σ) (λρ' h' u u=>br env (bs++le) ρ' h')
end
section
variable{prog:Program}{w:World}{base:Heap}{n:Nat}{env:Env}{le keep:List (Str×V)}{α β γ δ:Type}{X:List Addr}
theorem bY{x:Str}{pos:Pos}(hk:env.kindOf x=some .local\/(env.kindOf x=some .cell/\X=own env)):eE prog w base n env X (.Name x pos) cA (λv=>[(x,v)]):=by
 intro le A σ ρ s v y g P H r e;cases e;exact Runs.aY (nI H P hk r)
theorem pW:tE prog w base n env X [] [] []:=λle A σ ρ s xs P H r=>by
 cases r;exact Runs.pure P.D P.Y
set_option tactic.hygienic true in
theorem fh{t:Expr}{ts:List Expr}{pat:V->Option γ}{ext:γ->List (Str×V)}{v:V}{l:List V}{g:γ}{bs:List (Str×V)}(h1:eE prog w base n env X t pat ext)(e:pat v=some g)(h2:tE prog w base n env X ts l bs) :
  tE prog w base n env X (t::ts) (v::l) (bs++ext g):=λle A σ ρ s xs P H r=>by
 cases r with
 |cons rv r=>
  rename_i y xs;show Runs _ _ _ _ _ (holding xs (assign t env y)>>=λu=>assignInOrder _ xs) _ _ _ _;refine Runs.bind (m:=pure ()) (g:=λu=>pure ()) (Runs.holding (h1 le A σ ρ s v y g P H rv e)) λu σ' q ρ' h' tk u G D Y=>?_;cases q;rw[List.append_assoc];exact h2 _ A σ ρ' _ xs (P.jq G D Y) H (r.step P.D P.S (λa ha=>mL P.Y a (H.sub a ha)) G)
theorem qf{ts:List Expr}{k:Nat}{pos:Pos}{pat:V->Option γ}{ext:γ->List (Str×V)}(hts:assignEach ts env=ts.map λt=>(false,assign t env))
 (h:∀ v g,pat v=some g->∃ l,v=.tup l/\l.length=ts.length/\tE prog w base n env X ts l (ext g))(hn1:1<=n:=by lia):eE prog w base n env X (.Tuple ts k pos) pat ext:=by
 intro le A σ ρ s v y g P H r e;obtain⟨l,rfl,hl,hT⟩:=h v g e;show Runs _ _ _ _ _ (standAt pos>>=λu=>unpack y (assignEach ts env)) _ _ _ _;refine Runs.aY ?_;rw[hts];have hu:unpack y (ts.map λt=>(false,assign t env))=(holding [y] (unpackItems y ts.length none)>>=λxs=>assignInOrder (ts.map λt=>assign t env) xs):=by
  unfold unpack;have e1:(ts.map λt=>(false,assign t env)).map (·.2)=ts.map λt=>assign t env:=by rw[List.map_map];rfl
  have e2:(ts.map λt=>(false,assign t env)).findIdx? (·.1)=none:=by
   rw[List.findIdx?_eq_none_iff];intro x hx;obtain⟨t,_,rfl⟩:=List.mem_map.mp hx;rfl
  rw[e1,e2,List.length_map]
 rw[hu];refine Runs.bind (m:=pure ()) (g:=λu=>pure ()) (Runs.K0 H.sub P.Y (Runs.vn (Runs.holding (tK P.D P.R r hl)))) λu σ' u ρ' h' tk xs u D q=>?_;exact hT le A σ' ρ' _ xs (P.step q.1 D) H q.2
theorem Kh{x y:Str}{k:Nat}{pos p1a p2a:Pos}(h1:env.kindOf x=some .local\/(env.kindOf x=some .cell/\X=own env))(h2:env.kindOf y=some .local\/(env.kindOf y=some .cell/\X=own env))(hn1:1<=n:=by omega) :
  eE prog w base n env X (.Tuple [.Name x p1a,.Name y p2a] k pos) lP (λg=>[(y,g.2),(x,g.1)]):=
 qf rfl λv g e=>by
  obtain rfl:=Bf e;exact⟨_,rfl,rfl,fh (bY h1) rfl (fh (bY h2) rfl pW)⟩
theorem DS{x y z:Str}{k:Nat}{pos p1a p2a p3a:Pos}(h1:env.kindOf x=some .local\/(env.kindOf x=some .cell/\X=own env))(h2:env.kindOf y=some .local\/(env.kindOf y=some .cell/\X=own env))(h3:env.kindOf z=some .local\/(env.kindOf z=some .cell/\X=own env))(hn1:1<=n:=by omega) :
  eE prog w base n env X (.Tuple [.Name x p1a,.Name y p2a,.Name z p3a] k pos) jE (λg=>[(z,g.2.2),(y,g.2.1),(x,g.1)]):=
 qf rfl λv g e=>by
  obtain rfl:=AR e;exact⟨_,rfl,rfl,fh (bY h1) rfl (fh (bY h2) rfl (fh (bY h3) rfl pW))⟩
theorem Ll{x y z u:Str}{k:Nat}{pos p1a p2a p3a p4a:Pos}(h1:env.kindOf x=some .local\/(env.kindOf x=some .cell/\X=own env))(h2:env.kindOf y=some .local\/(env.kindOf y=some .cell/\X=own env))(h3:env.kindOf z=some .local\/(env.kindOf z=some .cell/\X=own env))(h4:env.kindOf u=some .local\/(env.kindOf u=some .cell/\X=own env))(hn1:1<=n:=by omega) :
  eE prog w base n env X (.Tuple [.Name x p1a,.Name y p2a,.Name z p3a,.Name u p4a] k pos) A9 (λg=>[(u,g.2.2.2),(z,g.2.2.1),(y,g.2.1),(x,g.1)]):=
 qf rfl λv g e=>by
  obtain rfl:=Am e;exact⟨_,rfl,rfl,fh (bY h1) rfl (fh (bY h2) rfl (fh (bY h3) rfl (fh (bY h4) rfl pW)))⟩
theorem KG{c x y z u:Str}{k k':Nat}{pos pos' p0a p1a p2a p3a p4a:Pos}(h0:env.kindOf c=some .local\/(env.kindOf c=some .cell/\X=own env))(h1:env.kindOf x=some .local\/(env.kindOf x=some .cell/\X=own env))(h2:env.kindOf y=some .local\/(env.kindOf y=some .cell/\X=own env))(h3:env.kindOf z=some .local\/(env.kindOf z=some .cell/\X=own env))(h4:env.kindOf u=some .local\/(env.kindOf u=some .cell/\X=own env))(hn1:1<=n:=by omega) :
  eE prog w base n env X (.Tuple [.Name c p0a,.Tuple [.Name x p1a,.Name y p2a,.Name z p3a,.Name u p4a] k pos] k' pos') zA (λg=>[(u,g.2.2.2.2),(z,g.2.2.2.1),(y,g.2.2.1),(x,g.2.1),(c,g.1)]):=
 qf rfl λv g e=>by
  obtain rfl:=Fd e;exact⟨_,rfl,rfl,fh (bY h0) rfl (fh (pat:=A9) (Ll h1 h2 h3 h4) rfl pW)⟩
noncomputable def M.after{α' β':Type}(r:Option (Except V α'×ai))(k:α'->M β'):Option (Except V β'×ai):=match r with
 |none=>none
 |some (.error e,σ')=>some (.error e,σ')
 |some (.ok a,σ')=>k a σ'
theorem M.bind_eq{α' β':Type}(m:M α')(k:α'->M β')(σ:ai):(m>>=k) σ=M.after (m σ) k:=rfl
noncomputable def jz{β':Type}(o:Option (Except V β'×ai)):Option (β'×ai):=o.bind λr=>Except.casesOn r.1 (λu=>none) λb=>some (b,r.2)
theorem iL{β' γ':Type}{o:Option (Except V β'×ai)}{f:β'×ai->Option γ'}{r:γ'}(h:(jz o).bind f=some r):∃ b σ,o=some (.ok b,σ)/\f (b,σ)=some r:=by
 obtain⟨p,h1,h2⟩:=Lv h;obtain⟨⟨x,σ⟩,h3,h4⟩:=Lv h1;cases x with
 |error v=>exact nomatch (show none=some p from h4)
 |ok b=>cases (show some (b,σ)=some p from h4);exact⟨b,σ,h3,h2⟩
theorem fV{β' γ':Type}{o:Option (Except V β'×ai)}{f:β'×ai->Option γ'}{b:β'}{σ:ai}(h:o=some (.ok b,σ)):(jz o).bind f=f (b,σ):=LH (λo=>(jz o).bind f) h
theorem M.inv{α' β':Type}{m:M α'}{f:α'->M β'}{σ σ':ai}{b:β'}(h:(m>>=f) σ=some (.ok b,σ')):∃ a τ,m σ=some (.ok a,τ)/\f a τ=some (.ok b,σ'):=by
 rw[M.bind_eq] at h;cases e:m σ with
 |none=>rw[e] at h;exact nomatch h
 |some r=>
  rw[e] at h;obtain⟨_|a,τ⟩:=r
  ·exact nomatch h
  ·exact⟨a,τ,rfl,h⟩
theorem M.assoc{α' β' γ':Type}{m:M α'}{f:α'->M γ'}{g:γ'->M β'}:(m>>=f)>>=g=m>>=λa=>f a>>=g:=by
 funext σ;rw[M.bind_eq,M.bind_eq,M.bind_eq];cases m σ with
 |none=>rfl
 |some r=>
  obtain⟨r,σ'⟩:=r;cases r<;>rfl
theorem M.yp{β':Type}{pat:V->Option γ}{m:M V}{f:γ->M β'}:(m>>=λv=>bR pat v f)=((m>>=λv=>bR pat v (λg=>pure g))>>=f):=by
 rw[M.assoc];refine LH _ (funext λv=>?_);unfold bR;cases pat v<;>rfl
theorem jn{t value:Expr}{pat:V->Option γ}{ext:γ->List (Str×V)}{pos:Pos}{rest:List Stmt}{m:M V}{f:γ->M ay}(ht:eE prog w base n env (own env) t pat ext)(h:aC prog w base n env le value m)
 (h2:∀ g,aJ prog w base n env (ext g++le) keep rest (f g))(hs:swapsWithSole [t] value pos.line env=pure false)(hw:swappedStores [t] value env=pure none)(he:(assignEach [t] env).map (·.2)=[assign t env]) :
  aJ prog w base n env le keep (.Assign [t] value pos::rest) (do let v<-m;bR pat v f):=by
 intro A σ ρ s P H;rw[M.yp];refine dz.block (le':=λg=>ext g++le) (gx hs hw he) ?_ h2 A σ ρ s P H;intro A σ ρ s P H;refine Runs.aY (dz.fF h (λv x A σ ρ s P H r=>?_) A σ ρ s P H);unfold bR;cases hg:pat v with
 |none=>trivial
 |some g=>exact Runs.bind (m:=pure ()) (g:=λu=>pure g) (ht le A σ ρ s v x g P H.may r hg) λu σ' q ρ' h' tk u G D Y=>Runs.pure D ⟨rfl,Y⟩
theorem Ft{t value:Expr}{pos:Pos}{names:List Str}(hs:swapsWithSole [t] value pos.line env=pure false)(hw:swappedStores [t] value env=pure (some names)) :
  exec (.Assign [t] value pos) env=(standAt pos>>=λu=>eval value env>>=λv=>rule "assign.swapped-stores">>=λu=>unpackItems v names.length none>>=λitems=>assignInOrder (names.reverse.map λn=>bindName env n) items.reverse>>=λu=>pure .next):=by
 rw[exec_Assign,hs];refine LH _ (funext λu=>?_);rw[pure_bind,if_neg (by decide)];refine LH _ (funext λv=>?_);rw[hw,pure_bind];rfl
theorem v8{names:List Str}{t value:Expr}{pat:V->Option γ}{ext:γ->List (Str×V)}{pos:Pos}{rest:List Stmt}{m:M V}{f:γ->M ay}(hk:∀ x∈names,env.kindOf x=some .local)(h:aC prog w base n env le value m)
 (hp:∀ v g,pat v=some g->∃ l,v=.tup l/\l.length=names.length/\binds names.reverse l.reverse le=ext g++le)
 (h2:∀ g,aJ prog w base n env (ext g++le) keep rest (f g))(hs:swapsWithSole [t] value pos.line env=pure false)(hw:swappedStores [t] value env=pure (some names))(hn1:1<=n:=by lia) :
  aJ prog w base n env le keep (.Assign [t] value pos::rest) (do let v<-m;bR pat v f):=by
 intro A σ ρ s P H;rw[M.yp];refine dz.block (le':=λg=>ext g++le) (Ft hs hw) ?_ h2 A σ ρ s P H;intro A σ ρ s P H;refine Runs.aY (dz.fF h (λv x A σ ρ s P H r=>?_) A σ ρ s P H);unfold bR;cases hg:pat v with
 |none=>trivial
 |some g=>
  obtain⟨l,rfl,hl,hb⟩:=hp v g hg;refine Runs.rule (Runs.fF (m:=pure ()) (g:=λu=>pure g) P (tK P.D P.R r hl) λu σ' ρ' h' tk xs G P' q=>?_);refine Runs.bind (m:=pure ()) (g:=λu=>pure g) (yv (names:=names.reverse) (l:=l.reverse) H P' (by simp[hl]) (by simp[hl]) (λi x f a b=>?_) (bq.reverse q)) λu σ' q ρ' h' tk u G D Y=>Runs.pure D ⟨rfl,hb▸Y⟩;rw[List.getElem?_map,a] at b;cases b;exact⟨.inl (hk x (by simpa using LG a)),λr R v s ρ h=>h⟩
theorem lz{x y:Str}{t value:Expr}{pos:Pos}{rest:List Stmt}{m:M V}{f:V×V->M ay}(hx:env.kindOf x=some .local)(hy:env.kindOf y=some .local)(h:aC prog w base n env le value m)
 (h2:∀ g:V×V,aJ prog w base n env ([(x,g.1),(y,g.2)]++le) keep rest (f g))(hs:swapsWithSole [t] value pos.line env=pure false)(hw:swappedStores [t] value env=pure (some [x,y]))(hn1:1<=n:=by omega) :
  aJ prog w base n env le keep (.Assign [t] value pos::rest) (do let v<-m;bR lP v f):=
 v8 (names:=[x,y]) (ext:=λg:V×V=>[(x,g.1),(y,g.2)]) (by simp[hx,hy]) h (λv g e=>by
  obtain rfl:=Bf e;exact⟨_,rfl,rfl,rfl⟩) h2 hs hw
theorem CB{x y z:Str}{t value:Expr}{pos:Pos}{rest:List Stmt}{m:M V}{f:V×V×V->M ay}(hx:env.kindOf x=some .local)(hy:env.kindOf y=some .local)(hz:env.kindOf z=some .local)(h:aC prog w base n env le value m)
 (h2:∀ g:V×V×V,aJ prog w base n env ([(x,g.1),(y,g.2.1),(z,g.2.2)]++le) keep rest (f g))(hs:swapsWithSole [t] value pos.line env=pure false)(hw:swappedStores [t] value env=pure (some [x,y,z]))(hn1:1<=n:=by omega) :
  aJ prog w base n env le keep (.Assign [t] value pos::rest) (do let v<-m;bR jE v f):=
 v8 (names:=[x,y,z]) (ext:=λg:V×V×V=>[(x,g.1),(y,g.2.1),(z,g.2.2)]) (by simp[hx,hy,hz]) h (λv g e=>by
  obtain rfl:=AR e;exact⟨_,rfl,rfl,rfl⟩) h2 hs hw
end
section
variable{prog:Program}{w:World}{base:Heap}{n:Nat}{env:Env}{le keep:List (Str×V)}{K:Frag}{mg mb:Str->Option Value}{α β γ δ:Type}
theorem c7.low{m:Nat}{A:Around}(R:c7 n A)(h:m<=n):c7 m A:=⟨by have:=R.depth;lia,by have:=R.units;lia,λh'=>R.handled (LZ h' h)⟩
theorem bC.low{f:Value}{g:List V->M V}{m:Nat}(H:bC prog w base m f g)(h:m<=n):bC prog w base n f g:=λA σ ρ s l xs D S R r=>H A σ ρ s l xs D S (R.low h) r
theorem Runs.Fb{A:Around}{X:List Addr}{σ:ai}{ρ:List Addr}{s:Shared}{t:Sem α}{t':Sem γ}{f:α->Sem γ}{m:M β}{g:β->M δ}{R:List Addr->Heap->β->α->Prop}{R':List Addr->Heap->δ->γ->Prop}(P:Heap->Prop)
 (h1:Runs prog w base A X t s ρ (m σ) R)
 (h2:∀ b σ',m σ=some (.ok b,σ')->∀ ρ' h' tk a,Goes (frs A) X ρ ρ' s.heap h'->Rep w base ρ' σ' h'->R ρ' h' b a->Runs prog w base A X (f a) {s with heap:=h',toks:=tk} ρ' (g b σ') R')
 (hP:∀ ρ' σ' h',Rep w base ρ' σ' h'->P h')
 (k:∀ (Q:γ->Shared->Prop) E,wpAny (model prog w) A t (λa s₁=>P s₁.heap/\wpAny (model prog w) A (f a) Q E s₁) E s->wpAny (model prog w) A t' Q E s) :
  Runs prog w base A X t' s ρ ((m>>=g) σ) R':=by
 rw[M.bind_eq];cases hm:m σ with
 |none=>trivial
 |some r=>
  obtain⟨r,σ'⟩:=r;cases r with
  |error v=>
   rw[hm] at h1;intro Q E q;exact k Q E (h1 _ E q)
  |ok b=>
   rw[hm] at h1;show Runs prog w base A X t' s ρ (g b σ') R';cases hg:g b σ' with
   |none=>trivial
   |some r'=>
    obtain⟨r',σ''⟩:=r';cases r' with
    |error v=>
     intro Q E q;refine k Q E (h1 _ E λρ' h' tk a G D r=>⟨hP _ _ _ D,?_⟩);have z:=h2 b σ' hm ρ' h' tk a G D r;rw[hg] at z;exact z Q E λρ'' h'' tk' x G' D' e=>q ρ'' h'' tk' x (G.trans G') D' (e.older G D)
    |ok d=>
     intro Q E q;refine k Q E (h1 _ E λρ' h' tk a G D r=>⟨hP _ _ _ D,?_⟩);have z:=h2 b σ' hm ρ' h' tk a G D r;rw[hg] at z;exact z Q E λρ'' h'' tk' x G' D' e=>q ρ'' h'' tk' x (G.trans G') D' e
theorem m5{M:Model}{A:Around}{E:Value->Shared->Prop}{s:Shared}{f:Value}{args:List (Bool×Sem Value)}{Q:Args->Shared->Prop}(hp:args.any (·.1)=false)
 (h:wpAny M A (spliced args) (λvs s'=>Q ⟨vs,[]⟩ s') E s):wpAny M A (evalArgs f true args []) Q E s:=by
 cases args with
 |nil=>
  unfold evalArgs;show wpAny M A (spliced []>>=_) Q E s;refine LB (LY h (λvs s' h'=>?_) λu u x=>x);refine LU ?_;exact LB (LC (LB (LC (LC h'))))
 |cons x rest=>
  obtain⟨b,x⟩:=x;simp only[List.any_cons,Bool.or_eq_false_iff] at hp;obtain⟨rfl,hp⟩:=hp;exact Calls.evalArgs_plain h
noncomputable def valOf:V->Value
 |.ref a=>.ref a
 |.bi id=>.builtin id
 |.ty T=>.type T
 |_=>.none
noncomputable def callee:V->Bool
 |.ref _=>true
 |.bi _=>true
 |.ty _=>true
 |_=>false
theorem VR.callee{ρ:List Addr}{h:Heap}{v:V}{x:Value}(r:VR ρ h v x)(hc:callee v=true):x=valOf v:=by
 cases r<;>first|rfl|cases hc
noncomputable def zy(K:Frag):V->Bool
 |.ref a=>keepIn K (.ref a)
 |.bi _=>true
 |.ty _=>true
 |_=>false
theorem C1{M:Model}{K:Frag}{v:V}(hk:zy K v=true)(h:Heap)(X:K.In h):∃ k,(k=Keeper.frame\/k=Keeper.machine\/k=Keeper.boundFrame)/\Looks M h (keeperOf (valOf v)) k:=by
 cases v with
 |ref a=>exact keeps_K (f:=.ref a) (by exact hk) h X
 |bi id=>exact⟨.machine,.inr (.inl rfl),.now⟩
 |ty T=>exact⟨.machine,.inr (.inl rfl),.now⟩
 |_=>cases hk
theorem iK(G:Gd K mg mb base){A:Around}{σ:ai}{ρ:List Addr}{s:Shared}{vf:V}{first:List V}{fx:List Value}{args:List Expr}{pos pos':Pos}{ml:M (List V)}{g:List V->M V}
 (P:Pre w base n A env le σ ρ s.heap)(hk:zy K vf=true)(rf:bq ρ s.heap first fx)(hp:(backTo pos' (starEach args env)).any (·.1)=false)(hl:ju prog w base n env le pos' args ml)(hf:bC prog w base n (valOf vf) g) :
  Runs prog w base A [] (callWith pos (valOf vf) fx (backTo pos' (starEach args env)) []) s ρ ((ml>>=λl=>g (first++l)) σ) VR:=by
 refine Runs.Fb (λh=>K.In h) (hl A σ ρ s P) (f:=λvs=>call (valOf vf) (fx++vs) []) (λl σ' u ρ' h' tk xs G' D r=>?_) (λρ' σ' h' D=>G.X.keeps D.sub) λQ E q=>?_
 ·exact hf A σ' ρ' _ _ _ D (P.S.step G') P.R ((P.Ln G' rf).append r)
 ·exact callWith_of (by rw[hp];rfl) (C1 hk) (m5 hp q)
theorem aI(G:Gd K mg mb base){vf:V}{func:Expr}{args:List Expr}{pos:Pos}{mf:M V}{ml:M (List V)}{g:List V->M V}{m:Nat}
 (hf:aC prog w base n env le func mf)(hl:ju prog w base n env le pos args ml)(hg:bC prog w base m (valOf vf) g)(hm:m<=n)(hk:zy K vf=true)(hc:callee vf=true)
 (he:eval (.Call func args [] pos) env=(do callWith pos (<- eval func env) [] (backTo pos (starEach args env)) []))
 (hp:(backTo pos (starEach args env)).any (·.1)=false) :
  aC prog w base n env le (.Call func args [] pos) (do let f<-mf;if f=vf then (do let l<-ml;g l) else M.fail):=by
 unfold aC;rw[he];refine bI.bind hf λv x A σ ρ s P r=>?_;by_cases q:v=vf
 ·subst q;rw[if_pos rfl,r.callee hc];exact iK G (first:=[]) P hk .nil hp hl (hg.low hm)
 ·rw[if_neg q];trivial
noncomputable def gW(K:Frag)(c:Addr)(name:Str)(f:Addr):Bool:=
 findIn K (.ref c) "__getattribute__"==some (some (.builtin "object.__getattribute__"))&&findIn K (.ref c) "__getattr__"==some none&&findIn K (.ref c) name==some (some (.ref f))&&typeIn K (.ref f)==some (.type "function")
def vq(c:Addr)(name:Str)(v:V):M Unit:=λσ=>v.bO.bind λi=>(lW σ c i).bind λq=>if (q.2.lookup name).isNone=true then some (.ok (),σ) else none
theorem Iu{c:Addr}{i d:Nat}{name:Str}{l:List (Str×V)}{σ:ai}(h:σ[i]?=some (.inst c d))(h2:σ[d]?=some (.sd l))(hx:l.lookup name=none):vq c name (.obj i) σ=some (.ok (),σ):=by
 show (lW σ c i).bind _=_;rw[uE h h2];exact if_pos (by rw[hx];rfl)
theorem GB(G:Gd K mg mb base){A:Around}{X:List Addr}{σ:ai}{ρ:List Addr}{s:Shared}{c f:Addr}{name:Str}{pl:Sem Bool}(ok:gW K c name f=true){v:V}{x:Value}(D:Rep w base ρ σ s.heap)(r:VR ρ s.heap v x) :
  Runs prog w base A X (getMethod x name pl) s ρ (vq c name v σ) (λu u u fx=>fx=(.ref f,[x])):=by
 revert G ok D r;revert pl v x;revert prog w base K mg mb A X σ ρ s c f name;apply b9;generalize cM=zt;generalize zt.1.1.1=prog,zt.1.1.2.1=w,zt.1.1.2.2=base,zt.1.2.1.1=K,zt.1.2.1.2=mg,zt.1.2.2.1=mb,zt.1.2.2.2=A,zt.2.1.1=X,zt.2.1.2.1=σ,zt.2.1.2.2=ρ,zt.2.2.1.1=s,zt.2.2.1.2=c,zt.2.2.2.1=f,zt.2.2.2.2=name;intros pl v x;intro G ok D r;refine Runs.inv ?_;intros res σ';intro ev;injection Lv ev with ev i hz;obtain⟨hi,hz⟩:=hz
 cases V.cu hi;injection ua hz with hz d l hz;obtain⟨h1,h2,hz⟩:=hz
 obtain⟨hy,hr⟩:=aE hz;replace hy:l.lookup name=none:=Option.isNone_iff_eq_none.mp hy;cases hr;refine r.objE ?_;intros a;intro hi;injection xx (a:=a) (da:=a) D h1 h2 hi with x0 da es k hz;obtain⟨e1,e2,e3,_,e5,I⟩:=hz
 have f:=lI (name:=name) e3;rw[hy] at f;unfold gW at ok;simp only[Bool.and_eq_true,beq_iff_eq] at ok;obtain⟨⟨⟨o1,o2⟩,o3⟩,o4⟩:=ok;intros Q E;intro kk;refine method_fn (G.X.keeps D.sub) I o1 o2 o3 o4 ?_ (kk ρ s.heap s.toks _ .refl D rfl);show (lookIn name (dictOf es.toList k)).map (·.isSome)=some false;rw[lookIn_dict,f.1];rfl
theorem cz(G:Gd K mg mb base){c f:Addr}{o:Expr}{name:Str}{args:List Expr}{pos apos:Pos}{pl:Sem Bool}{mo:M V}{ml:M (List V)}{g:List V->M V}{m:Nat}(ok:gW K c name f=true)(hk:keepIn K (.ref f)=true)
 (ho:aC prog w base n env le o mo)(hl:ju prog w base n env le pos args ml)(hg:bC prog w base m (.ref f) g)(hm:m<=n)
 (he:eval (.Call (.Attribute o name apos) args [] pos) env=(do
   let ov<-eval o env
   standAt apos.atName
   let(f,first)<-holding [ov] (getMethod ov name pl)
   callWith pos f first (backTo pos (starEach args env)) []))
 (hp:(backTo pos (starEach args env)).any (·.1)=false) :
  aC prog w base n env le (.Call (.Attribute o name apos) args [] pos) (do let v<-mo;vq c name v;let l<-ml;g (v::l)):=by
 unfold aC;rw[he];refine bI.bind ho λv x A σ ρ s P r=>Runs.aY ?_;refine Runs.bind (Runs.holding (GB G ok P.D r)) λu σ' u ρ' h' tk fx G' D' e=>?_;have e':fx=_:=e;subst e';exact iK G (vf:=.ref f) (first:=[v]) (P.step G' D') hk (.cons (P.vr G' r) .nil) hp hl (hg.low hm)
noncomputable def aq.tn(o:aq):Option String:=aq.casesOn o (λu=>some "list") (λu=>some "dict") (λu u=>some "dict") (λu=>some "dict") (λu u=>none) (λu u u=>none) (λu u=>none) (λu=>none)
def r7(T:String)(v:V):M Unit:=λσ=>
 (v.iC.bind λu=>if T="str" then some (.ok (),σ) else none).or (v.bO.bind λi=>(σ[i]?.bind aq.tn).bind λn=>if T=n then some (.ok (),σ) else none)
theorem zq{T:String}{i:Nat}{o:aq}{σ:ai}(h:σ[i]?=some o)(e:o.tn=some T):r7 T (.obj i) σ=some (.ok (),σ):=by
 show (σ[i]?.bind aq.tn).bind _=_;rw[h];show (o.tn).bind _=_;rw[e];exact if_pos rfl
theorem KU{w:World}{ρ:List Addr}{h:Heap}{a:Addr}{o:aq}{T:String}:jB w ρ h a o->o.tn=some T->∃ ob,h.get? a=some ob/\ob.cls=.type T/\ob.dict=none:=
 aq.casesOn (motive:=λo=>jB w ρ h a o->o.tn=some T->∃ ob,h.get? a=some ob/\ob.cls=.type T/\ob.dict=none) o
  (λu x e=>x.elim λu x=>x.elim λu x=>⟨_,x.1,LH Value.type (LF e),rfl⟩) (λu x e=>x.elim λu x=>x.elim λu x=>⟨_,x.1,LH Value.type (LF e),rfl⟩)
  (λu u x e=>x.elim λu x=>⟨_,x.1,LH Value.type (LF e),rfl⟩) (λu x e=>x.elim λu x=>x.elim λu x=>⟨_,x.1,LH Value.type (LF e),rfl⟩)
  (λu u u=>au) (λu u u u=>au) (λu u u=>au) (λu u=>au)
theorem FF{T:String}{v:V}{σ:ai}{r:Except V Unit×ai}(h:r7 T v σ=some r):(.ok (),σ)=r/\((∃ x,v=.str x/\T="str")\/∃ i o,v=.obj i/\σ[i]?=some o/\o.tn=some T):=
 (or_some h).elim (λh=>let⟨x,h1,h⟩:=Lv h;⟨LF (aE h).2,.inl ⟨x,V.jg h1,(aE h).1⟩⟩)
  λh=>let⟨i,h1,h⟩:=Lv h;let⟨n,h2,h⟩:=Lv h;let⟨o,h3,h4⟩:=Lv h2;⟨LF (aE h).2,.inr ⟨i,o,V.cu h1,h3,(aE h).1▸h4⟩⟩
theorem Gn{A:Around}{σ σ':ai}{ρ:List Addr}{s:Shared}{T:String}{v:V}{x:Value}(D:Rep w base ρ σ s.heap)(r:VR ρ s.heap v x)(e:r7 T v σ=some (.ok (),σ')) :
  σ'=σ/\s.TypeIs x T/\∀ a,x=.ref a->∃ o,s.heap.get? a=some o/\o.dict=none:=by
 revert D r e;revert w base A σ σ' ρ s T v x;apply cK;generalize dm=zt;generalize zt.1.1.1=w,zt.1.1.2=base,zt.1.2.1=A,zt.1.2.2.1=σ,zt.1.2.2.2=σ',zt.2.1.1=ρ,zt.2.1.2=s,zt.2.2.1=T,zt.2.2.2.1=v,zt.2.2.2.2=x;intro D r e;obtain⟨hr,z⟩:=FF e;cases hr;rcases z with hz|hz
 ·injection hz with hz y hz;obtain⟨rfl,rfl⟩:=hz
  refine r.oJ λt=>⟨rfl,rfl,λa z=>nomatch z⟩
 ·injection hz with hz i o hz;obtain⟨rfl,h,ht⟩:=hz
  refine r.objE ?_;intros a;intro hi;injection KU (D.obj _ _ _ h hi) ht with x0 ob hz;obtain⟨e1,e2,e3⟩:=hz
  exact⟨rfl,⟨_,e1,e2⟩,λb z=>by cases z;exact⟨_,e1,e3⟩⟩
theorem cN(G:Gd K mg mb base){T id:String}{o:Expr}{name:Str}{args:List Expr}{pos apos:Pos}{pl:Sem Bool}{mo:M V}{ml:M (List V)}{g:List V->M V}{m:Nat}(pa:PlainAttrs T)(slot:Slot T name id)(hty:typeOf (.builtin id)=pure (.type "method_descriptor"))
 (ho:aC prog w base n env le o mo)(hl:ju prog w base n env le pos args ml)(hg:bC prog w base m (.builtin id) g)(hm:m<=n)
 (he:eval (.Call (.Attribute o name apos) args [] pos) env=(do
   let ov<-eval o env
   standAt apos.atName
   let(f,first)<-holding [ov] (getMethod ov name pl)
   callWith pos f first (backTo pos (starEach args env)) []))
 (hp:(backTo pos (starEach args env)).any (·.1)=false) :
  aC prog w base n env le (.Call (.Attribute o name apos) args [] pos) (do let v<-mo;r7 T v;let l<-ml;g (v::l)):=by
 unfold aC;rw[he];refine bI.bind ho λv x A σ ρ s P r=>Runs.aY ?_;refine Runs.bind (R:=λy y y fx=>fx=(.builtin id,[x])) (Runs.holding ?_) λy σ' y ρ' h' tk fx G' D' e=>?_
 ·cases e:r7 T v σ with
  |none=>trivial
  |some q=>
   obtain⟨q,σ'⟩:=q;cases q with
   |error=>
    exact nomatch (FF e).1
   |ok u=>
    obtain⟨rfl,hT,hd⟩:=Gn (A:=A) P.D r e;intro Q E kk;exact getMethod_builtin hT pa slot hty hd (kk ρ s.heap s.toks _ .refl P.D rfl)
 ·have e':fx=_:=e;subst e';exact iK G (vf:=.bi id) (first:=[v]) (P.step G' D') rfl (.cons (P.vr G' r) .nil) hp hl (hg.low hm)
end
structure ez(B h' h'':Heap)(e:Addr)(fs:List Env)(l:Option Addr):Prop where
 stays:B.StaysIn h''
 ff:h''.FunFrames B fs
 up:∀ b o,h'.get? b=some o->(∀ vs,o.data≠.fields vs)->∃ sl,h''.get? b=some {o with slots:=sl}
 same:∀ b o,h'.get? b=some o->(∀ vs,o.data≠.fields vs)->b∉fs.filterMap (·.frame)->h''.get? b=some o
 exc:∃ oe vs,h'.get? e=some oe/\(∃ vs0a,oe.data=.fields vs0a)/\h''.get? e=some {oe with data:=.fields vs}
 trace:Trace B h'' e l
def sW(h:Heap)(e:Addr):Prop:=∃ oe vs T,h.get? e=some oe/\oe.data=.fields vs/\vs[1]?=some (.ref T)
theorem A2{o:Obj}{vs:Array Value}(hd:o.data=.fields vs)(f:Array Value->Array Value):Obj.mapFields f o={o with data:=.fields (f vs)}:=by
 obtain⟨c,d,da,sl⟩:=o;cases hd;rfl
section
variable{M:Model}{A:Around}{E:Value->Shared->Prop}{s:Shared}{B:Heap}
theorem rA{env:Env}{outer:List Env}{L e:Addr}{oe:Obj}{vs:Array Value}{head:Value}{hadNext:Bool}{Q:Unit->Shared->Prop}
 (hfr:A.frames=some (env::outer))(hl:s.heap.FunFrames B (env::outer))(hf:env.frame=some L)
 (he:s.heap.get? e=some oe)(hkb:B.StaysIn s.heap)(hen:B.get? e=none)(hd:oe.data=.fields vs)(hsz:1<vs.size)
 (h:∀ h',ez B s.heap h' e (env::outer) (some L)->sW h' e->Q () {s with heap:=h'}) :
  wpAny M A (do let a<-frameOf env;let pl<-entryPlaceOf L hadNext;let b<-EntryCells.newEntry head a .none (rawInt L) .none pl;setField (.ref e) 1 b) Q E s:=by
 have hene:e∉(env::outer).filterMap (·.frame):=λhm=>by
  obtain⟨_,o,ho,hnf⟩:=hl.mem hm;rw[he] at ho;injection ho with ho;subst ho;exact hnf vs hd
 refine LB (wpAny_frameOf_fun hfr hl hf λh1a hs1a=>?_);refine LB (wpAny_entryPlaceOf λpl hpl=>?_);unfold EntryCells.newEntry newFields;refine LB (L6 ?_ (hpl.sizeOk5 _ _ _ _ _));have he1a:h1a.get? e=some oe:=(hs1a.2.1 e hene).trans he;have kb1:B.StaysIn h1a:=λb o hbo=>(hs1a.2.1 b λhm=>by rw[(hl.mem hm).1] at hbo;cases hbo).trans (hkb b o hbo);have he2:=LL (h:=h1a) {cls:=.type "traceback",dict:=none,data:=.fields ([head,.ref L,.none,rawInt L,.none]++(if pl.isEmpty then List.replicate 6 Value.none else pl)).toArray} he1a;refine wpAny_setField he2 hd hsz ?_;have hTe:h1a.objs.size≠e:=L7 (LM he1a);have hd3:=Obj.data_mapFields hd (·.setIfInBounds 1 (Value.ref h1a.objs.size));have he3:=LN (Obj.mapFields (·.setIfInBounds 1 (Value.ref h1a.objs.size))) he2 (Obj.isFreed_of_fields hd3);have hT3:=(Heap.get?_update_other (h1a.push {cls:=.type "traceback",dict:=none,data:=.fields ([head,.ref L,.none,rawInt L,.none]++(if pl.isEmpty then List.replicate 6 Value.none else pl)).toArray})
  (Obj.mapFields (·.setIfInBounds 1 (Value.ref h1a.objs.size))) (Ne.symm hTe)).trans (LK h1a rfl)
 have keep:∀ b o,b≠e->h1a.get? b=some o ->
   ((h1a.push {cls:=.type "traceback",dict:=none,data:=.fields ([head,.ref L,.none,rawInt L,.none]++(if pl.isEmpty then List.replicate 6 Value.none else pl)).toArray}).update e (Obj.mapFields (·.setIfInBounds 1 (Value.ref h1a.objs.size)))).get? b=some o:=
  λb o hbe hb=>by
   rw[Heap.get?_update_other _ _ (Ne.symm hbe)];exact LL _ hb
 have noRecord:∀ b o,s.heap.get? b=some o->(∀ vs,o.data≠.fields vs)->b≠e:=λb o hb hnf q=>by
  rw[q,he] at hb;injection hb with hb;subst hb;exact hnf vs hd
 have v1:(vs.setIfInBounds 1 (Value.ref h1a.objs.size))[1]?=some (Value.ref h1a.objs.size):=by simp[hsz]
 refine h _ ⟨λb o hbo=>keep b o (λq=>by rw[q,hen] at hbo;cases hbo) (kb1 b o hbo),hl.of_keeps λb o hb hnf=>?_,λb o hb hnf=>?_,λb o hb hnf nm=>keep b _ (noRecord b o hb hnf) ((hs1a.2.1 b nm).trans hb),⟨oe,_,he,⟨vs,hd⟩,he3.trans (by rw[A2 hd])⟩,?_⟩ ⟨_,_,_,he3,hd3,v1⟩
 ·obtain⟨sl,hs⟩:=hs1a.2.2 b o hb;exact⟨_,keep b _ (noRecord b o hb hnf) hs,rfl⟩
 ·obtain⟨sl,hs⟩:=hs1a.2.2 b o hb;exact⟨sl,keep b _ (noRecord b o hb hnf) hs⟩
 ·exact⟨_,_,he3,hd3,by simp[hsz],.inr ⟨h1a.objs.size,_,_,_,v1,kb1.fresh,hTe,hT3,rfl,(by first|(simp;done)|(rcases hpl with rfl|⟨_,_,_,_,_,_,_,rfl⟩<;>simp):_=some (rawInt L)),.inr ⟨L,rfl,rfl⟩⟩⟩
theorem ez.refl{h:Heap}{e:Addr}{fs:List Env}{l:Option Addr}(hkb:B.StaysIn h)(hl:h.FunFrames B fs)(t:Trace B h e l):ez B h h e fs l:=by
 obtain⟨oe,vs,he,hd,_⟩:=id t;exact⟨hkb,hl,λb o e u=>⟨o.slots,e⟩,λb o e u u=>e,⟨oe,vs,he,⟨vs,hd⟩,by rw[he];obtain⟨c,d,da,sl⟩:=oe;cases hd;rfl⟩,t⟩
theorem ez.trans{h1a h2a h3a:Heap}{e:Addr}{fs:List Env}{l l':Option Addr}(x:ez B h1a h2a e fs l)(y:ez B h2a h3a e fs l'):ez B h1a h3a e fs l':=by
 refine⟨y.stays,y.ff,λb o e hn=>?_,λb o e hn nm=>y.same b o (x.same b o e hn nm) hn nm,?_,y.trace⟩
 ·obtain⟨_,e1a⟩:=x.up b o e hn;obtain⟨sl,e2a⟩:=y.up b _ e1a hn;exact⟨sl,e2a⟩
 ·obtain⟨oe,vs,a1,a2,a3⟩:=x.exc;obtain⟨oe',vs',b1,b2,b3⟩:=y.exc;rw[a3] at b1;cases b1;exact⟨oe,vs',a1,a2,b3⟩
theorem setHead{e:Addr}{fs:List Env}{l l':Option Addr}{v:Value}{oe oT:Obj}{vs ts:Array Value}{T:Addr}{fl:Value}(hkb:B.StaysIn s.heap)(hl:s.heap.FunFrames B fs)
 (he:s.heap.get? e=some oe)(hd:oe.data=.fields vs)(hsz:1<vs.size)(h1:vs[1]?=some (.ref T))(hnT:B.get? T=none)(hTe:T≠e)(hT:s.heap.get? T=some oT)(hdT:oT.data=.fields ts)(h3:ts[3]?=some fl)
 (hv:v=.none\/∃ L:Addr,l'=some L/\v=rawInt L){Q:Unit->Shared->Prop}
 (h:∀ h',ez B s.heap h' e fs l'->sW h' e->(∀ b,b≠T->h'.get? b=s.heap.get? b)->(∃ oT' ts',h'.get? T=some oT'/\oT'.data=.fields ts'/\ts'[3]?=some v)->Q () {s with heap:=h'}) :
  wpAny M A (setField (.ref T) 3 v) Q E s:=by
 have hsz3:3<ts.size:=(Array.getElem?_eq_some_iff.mp h3).1;have other:∀ b,b≠T->(s.heap.update T (Obj.mapFields (·.setIfInBounds 3 v))).get? b=s.heap.get? b:=λb hb=>Heap.get?_update_other _ _ (Ne.symm hb);have noRecord:∀ b o,s.heap.get? b=some o->(∀ vs,o.data≠.fields vs)->b≠T:=λb o hb hnf q=>by
  rw[q,hT] at hb;injection hb with hb;subst hb;exact hnf ts hdT
 have hT':=LN (Obj.mapFields (·.setIfInBounds 3 v)) hT (Obj.isFreed_of_fields (Obj.data_mapFields hdT _));have he':=(other e (Ne.symm hTe)).trans he;have v3:(ts.setIfInBounds 3 v)[3]?=some v:=by simp[hsz3]
 refine wpAny_setField hT hdT hsz3 (h _ ⟨λb o hbo=>(other b λq=>by rw[q,hnT] at hbo;cases hbo).trans (hkb b o hbo),hl.of_keeps λb o hb hnf=>⟨o,(other b (noRecord b o hb hnf)).trans hb,rfl⟩,
  λb o hb hnf=>⟨o.slots,(other b (noRecord b o hb hnf)).trans hb⟩,λb o hb hnf u=>(other b (noRecord b o hb hnf)).trans hb,⟨oe,vs,he,⟨vs,hd⟩,by rw[he'];obtain⟨c,d,da,sl⟩:=oe;cases hd;rfl⟩,
  ⟨oe,vs,he',hd,hsz,.inr ⟨T,_,_,v,h1,hnT,hTe,hT',Obj.data_mapFields hdT _,v3,hv⟩⟩⟩ ⟨oe,vs,T,he',hd,h1⟩ other ⟨_,_,hT',Obj.data_mapFields hdT _,v3⟩)
theorem oB{env:Env}{outer:List Env}{L e:Addr}{Q:Unit->Shared->Prop}
 (hfr:A.frames=some (env::outer))(hl:s.heap.FunFrames B (env::outer))(hf:env.frame=some L)(hkb:B.StaysIn s.heap)(hen:B.get? e=none)(ht:Trace B s.heap e (some L))
 (h:∀ h',ez B s.heap h' e (env::outer) (some L)->sW h' e->Q () {s with heap:=h'}):wpAny M A (noteFrame (.ref e) env) Q E s:=by
 have R:=ez.refl hkb hl ht;obtain⟨oe,vs,he,hd,hsz,h1|⟨T,oT,ts,fl,h1,hnT,hTe,hT,hdT,h3,hfl⟩⟩:=ht
 ·unfold noteFrame;simp only[hf];refine LB (wpAny_field he hd h1 ?_);rw[if_neg (by decide)];exact rA hfr hl hf he hkb hen hd hsz h
 ·unfold noteFrame;simp only[hf];refine LB (wpAny_field he hd h1 ?_);rw[if_pos (show (Value.ref T !=Value.none)=true from by simp)];refine LB (wpAny_field hT hdT h3 ?_);rcases hfl with rfl|⟨L',eL,rfl⟩
  ·rw[if_neg (show ¬((Value.none==rawInt L)=true) from by simp[rawInt])];refine LB (setHead (l:=some L) (l':=some L) hkb hl he hd hsz h1 hnT hTe hT hdT h3 (.inl rfl) λh' N tb oth u=>?_);exact rA (s:={s with heap:=h'}) hfr N.ff hf ((oth e (Ne.symm hTe)).trans he) N.stays hen hd hsz λh'' N' tb'=>h h'' (N.trans N') tb'
  ·cases eL;rw[if_pos (show (rawInt L==rawInt L)=true from by simp)];exact LC (h _ R ⟨oe,vs,T,he,hd,h1⟩)
theorem lM{e:Addr}{fs:List Env}{l l' f:Option Addr}{Q:Unit->Shared->Prop}(hkb:B.StaysIn s.heap)(hl:s.heap.FunFrames B fs)(ht:Trace B s.heap e l)(tb:sW s.heap e)(hf:f=none\/f=l')
 (h:∀ h',ez B s.heap h' e fs l'->sW h' e->Q () {s with heap:=h'}):wpAny M A (setFlight (.ref e) f) Q E s:=by
 obtain⟨oe,vs,he,hd,hsz,h1|⟨T,oT,ts,fl,h1,hnT,hTe,hT,hdT,h3,hfl⟩⟩:=ht
 ·obtain⟨oe',vs',T,he',hd',h1'⟩:=tb;rw[he] at he';cases he';rw[hd] at hd';cases hd';rw[h1] at h1';cases h1'
 ·unfold setFlight;refine LB (wpAny_field he hd h1 ?_);rw[if_pos (show (Value.ref T !=Value.none)=true from by simp)];refine setHead (l:=l) (l':=l') hkb hl he hd hsz h1 hnT hTe hT hdT h3 ?_ λh' N tb u u=>h h' N tb;rcases hf with rfl|rfl
  ·exact .inl rfl
  ·cases f with
   |none=>exact .inl rfl
   |some f=>exact .inr ⟨f,rfl,rfl⟩
end
section
variable{w:World}{base:Heap}{A:Around}{X ρ ρ':List Addr}{σ':ai}{h h' h'':Heap}{e:Addr}{B:Heap}{fs:List Env}{l:Option Addr}
theorem ez.zL(N:ez B h' h'' e fs l)(F:jk base A h ρ' h' e B){a:Addr}{o:Obj}(ha:h'.get? a=some o)(r:(h.get? a).isSome=true\/a∈ρ')(nf:a∉frs A)(ne:a≠e):h''.get? a=some o:=
 N.stays _ _ (F.jK a o ha r nf ne)
theorem ez.rep(N:ez B h' h'' e fs l)(F:jk base A h ρ' h' e B)(hfs:fs.filterMap (·.frame)=frs A)(off:∀ a∈frs A,a∉ρ')(cls:∀ a∈frs A,∃ o,h'.get? a=some o/\∀ vs n,o.data≠.seq vs n)(D:Rep w base ρ' σ' h'){ie:Nat}(hi:ρ'[ie]?=some e)(hx:∃ c d,σ'[ie]?=some (.exc c d false)):Rep w base ρ' σ' h'':=by
 obtain⟨oe,vs,he,⟨vs0a,hd⟩,he'⟩:=N.exc;have tp:∀ b vs n,h'.get? b=some {cls:=.type "tuple",data:=.seq vs n}->h''.get? b=some {cls:=.type "tuple",data:=.seq vs n}:=λb ws n q=>by
  refine N.same b _ q (λu z=>nomatch z) λhm=>?_;rw[hfs] at hm;obtain⟨o,q',hc⟩:=cls b hm;rw[q] at q';cases q';exact hc _ _ rfl
 refine⟨D.len,D.nd,λi o a e1 e2=>?_,λb o q=>N.stays _ _ (F.over _ _ q),D.off,D.glob,D.low⟩;have x:=D.obj i o a e1 e2;have ha:a∈ρ':=LG e2;by_cases ne:a=e
 ·subst ne;cases o with
  |list l=>obtain⟨vs,n,e',_⟩:=x;rw[he] at e';cases e';cases hd
  |sd l=>obtain⟨vs,n,e',_⟩:=x;rw[he] at e';cases e';cases hd
  |idd l n=>obtain⟨vs,e',_⟩:=x;rw[he] at e';cases e';cases hd
  |td l=>obtain⟨vs,n,e',_⟩:=x;rw[he] at e';cases e';cases hd
  |inst c d=>obtain⟨da,_,e'⟩:=x;rw[he] at e';cases e';cases hd
  |exc c d raw=>
   obtain⟨da,vs',sl,h1,h2,_⟩:=x;rw[he] at h2;cases h2;obtain⟨c',d',hx⟩:=hx;have:i=ie:=(List.getElem?_inj (LA e2).1 D.nd).mp (e2.trans hi.symm);subst this;rw[e1] at hx;cases hx;exact⟨da,vs,sl,h1,he',λz=>nomatch z⟩
  |tab P l=>
   obtain⟨c',d',hx⟩:=hx;have:i=ie:=(List.getElem?_inj (LA e2).1 D.nd).mp (e2.trans hi.symm);subst this;rw[e1] at hx;cases hx
  |code q=>
   obtain⟨c',d',hx⟩:=hx;have:i=ie:=(List.getElem?_inj (LA e2).1 D.nd).mp (e2.trans hi.symm);subst this;rw[e1] at hx;cases hx
 ·exact x.move (λu u z=>z) tp λob z=>N.zL F z (.inr ha) (λq=>off a q ha) ne
theorem ez.goes(ff0:h'.FunFrames B fs)(N:ez B h' h'' e fs l)(F:jk base A h ρ' h' e B)(hfs:fs.filterMap (·.frame)=frs A)(G:Goes (frs A) X ρ ρ' h h')(hn:h.get? e=none):Goes (frs A) X ρ ρ' h h'':=by
 have up:∀ a o,h'.get? a=some o->(h.get? a).isSome=true->a∈frs A->∃ sl,h''.get? a=some {o with slots:=sl}:=λa o ha r f=>by
  rw[<- hfs] at f;obtain⟨_,oF,hF,nF⟩:=ff0.mem f;rw[ha] at hF;cases hF;exact N.up a o ha nF
 have ne:∀ a o,h.get? a=some o->a≠e:=λa o q z=>by rw[z,hn] at q;cases q
 refine⟨G.pre,λa o q n x=>?_,G.fresh,λa ha o q=>?_⟩
 ·obtain⟨o',e',z⟩:=G.keep a o q n x;by_cases f:a∈frs A
  ·obtain⟨sl,e''⟩:=up a o' e' (by rw[q];rfl) f;refine⟨_,e'',.inr ⟨f,?_⟩⟩;rcases z with rfl|⟨_,sl',rfl⟩
   ·exact⟨sl,rfl⟩
   ·exact⟨sl,rfl⟩
  ·exact⟨o',N.zL F e' (.inl (by rw[q];rfl)) f (ne a o q),z⟩
 ·obtain⟨o',e',z1,z2⟩:=G.xs a ha o q;by_cases f:a∈frs A
  ·obtain⟨sl,e''⟩:=up a o' e' (by rw[q];rfl) f;exact⟨_,e'',z1,z2⟩
  ·exact⟨o',N.zL F e' (.inl (by rw[q];rfl)) f (ne a o q),z1,z2⟩
theorem ez.jK(N:ez B h' h'' e fs l)(F:jk base A h ρ' h' e B)(D:Rep w base ρ' σ' h')(there:∀ a o,h.get? a=some o->∃ o',h'.get? a=some o') :
  ∀ a o,h''.get? a=some o->((h.get? a).isSome=true\/a∈ρ')->a∉frs A->a≠e->B.get? a=some o:=λa o ha r nf ne=>by
 obtain⟨o1a,h1⟩:∃ o1a,h'.get? a=some o1a:=by
  rcases r with r|r
  ·obtain⟨o0,h0⟩:=Option.isSome_iff_exists.mp r;exact there a o0 h0
  ·obtain⟨o1a,h1,_⟩:=D.there r;exact⟨o1a,h1⟩
 have:=N.zL F h1 r nf ne;rw[ha] at this;cases this;exact F.jK a _ h1 r nf ne
theorem ez.flight(N:ez B h' h'' e fs l)(F:jk base A h ρ' h' e B)(hA:A.frames=some fs)(hl:l=headOf A)(D:Rep w base ρ' σ' h')(there:∀ a o,h.get? a=some o->∃ o',h'.get? a=some o'):jk base A h ρ' h'' e B:=
 ⟨F.over,N.stays,F.new,⟨fs,hA,N.ff⟩,N.jK F D there,hl▸N.trace⟩
end
def fin(m:M ay):M V:=do match<-m with
 |.next=>pure .none
 |.ret v=>pure v
section
variable{R:V->Value->Prop}{l:List (Str×V)}{xs:List (Str×Value)}
theorem cI.lookup{l:List (Str×V)}{xs:List (Str×Value)}(H:cI R l xs){k:Str}{v:V}(e:l.lookup k=some v):∃ x,xs.lookup k=some x/\R v x:=by
 induction H with
 |nil=>cases e
 |@cons k' v' x' l xs r _ ih=>
  rw[List.lookup_cons] at e ⊢;cases q:k==k' with
  |true=>rw[q] at e;cases e;exact⟨_,rfl,r⟩
  |false=>rw[q] at e;exact ih e
theorem cI.rev{l:List (Str×V)}{xs:List (Str×Value)}(H:cI R l xs):cI R l.reverse xs.reverse:=by
 induction H with
 |nil=>exact .nil
 |cons r _ ih=>rw[List.reverse_cons,List.reverse_cons];exact ih.append (.cons r .nil)
end
theorem cI.zip{ρ:List Addr}{h:Heap}:∀ {names:List Str} {l:List V} {xs:List Value},bq ρ h l xs->cI (VR ρ h) (names.zip l) (names.zip xs)
 |[],_,_,_=>.nil
 |_::_,_,_,.nil=>.nil
 |_::names,_,_,.cons a b=>.cons a (cI.zip b)
section
variable{prog:Program}{w:World}{base:Heap}{n:Nat}{env:Env}{le keep:List (Str×V)}{K:Frag}{mg mb:Str->Option Value}{α β γ δ:Type}
theorem eY{A:Around}{env:Env}{L:Addr}(hf:env.frame=some L){fs:List Env}(h:A.frames=some fs):frs (A.deeper env)=L::frs A:=by
 unfold frs;rw[Around.frames_deeper h,h];simp[hf]
theorem c7.deeper{A:Around}(R:c7 (n+1) A)(env:Env):c7 n (A.deeper env):=
 ⟨by show A.depth+1+3*n<=600;have:=R.depth;lia,by show A.units+3+60*n<=9000;have:=R.units;lia,λu=>R.handled (Nat.succ_pos _)⟩
theorem Goes.left{FR X:List Addr}{L:Addr}{ρ ρ':List Addr}{h h1a h':Heap}(hk:∀ a o,h.get? a=some o->h1a.get? a=some o)(G:Goes (L::FR) X ρ ρ' h1a h')(hL:h.get? L=none)(hX:∀ a∈X,h.get? a=none):Goes FR [] ρ ρ' h h':=by
 refine⟨G.pre,λa o e n u=>?_,λa ha=>?_,λu q=>nomatch q⟩
 ·have nx:a∉X:=λq=>by rw[hX a q] at e;cases e
  obtain⟨o',e',q⟩:=G.keep a o (hk a o e) n nx;refine⟨o',e',?_⟩;rcases q with rfl|⟨f,sl,rfl⟩
  ·exact .inl rfl
  ·rcases Lx f with rfl|f
   ·rw[hL] at e;cases e
   ·exact .inr ⟨f,sl,rfl⟩
 ·rcases G.fresh a ha with q|q
  ·exact .inl q
  ·right;cases e:h.get? a with
   |none=>rfl
   |some o=>rw[hk a o e] at q;cases q
theorem oM{A:Around}{env:Env}{L:Addr}{ρ ρ':List Addr}{σ':ai}{s s₁ s':Shared}{X:List Addr}{fs:List Env}{v:V}{x:Value}{Q:Unit->Shared->Prop}{E:Value->Shared->Prop}(hA:A.frames=some fs)(hf:env.frame=some L)(S:fj base A ρ s.heap)
 (hLo:∃ o,s₁.heap.get? L=some o/\∀ vs n,o.data≠.seq vs n)(hLX:L∈X)(hkeep:∀ a o,s.heap.get? a=some o->s₁.heap.get? a=some o)(hL:s.heap.get? L=none)(hLρ:L∉ρ')
 (G:Goes (frs (A.deeper env)) X ρ ρ' s₁.heap s'.heap)(hX:∀ a∈X,s.heap.get? a=none)(D:Rep w base ρ' σ' s'.heap)(H:fT base (A.deeper env) s₁.heap ρ' σ' s'.heap v x)
 (k:∀ h'' tk,Goes (frs A) [] ρ ρ' s.heap h''->Rep w base ρ' σ' h''->fT base A s.heap ρ' σ' h'' v x->Q () {s' with heap:=h'',toks:=tk}) :
  wpAny (model prog w) (A.deeper env) (leaving env x) Q E s':=by
 revert hA hf S hLo hLX hkeep hL hLρ G hX D H k;revert v x Q E;revert prog w base A env L ρ ρ' σ' s s₁ s' X fs;apply b9;generalize cM=zt;generalize zt.1.1.1=prog,zt.1.1.2.1=w,zt.1.1.2.2=base,zt.1.2.1.1=A,zt.1.2.1.2=env,zt.1.2.2.1=L,zt.1.2.2.2=ρ,zt.2.1.1=ρ',zt.2.1.2.1=σ',zt.2.1.2.2=s,zt.2.2.1.1=s₁,zt.2.2.1.2=s',zt.2.2.2.1=X,zt.2.2.2.2=fs;intros v x Q E;intro hA hf S hLo hLX hkeep hL hLρ G hX D H k;injection H with H i e B hz;obtain⟨rfl,rfl,hi,hen,hx,F⟩:=hz
 have hAd:(A.deeper env).frames=some (env::fs):=Around.frames_deeper hA;injection F.fr with x0 fs' hz;obtain⟨q,ff⟩:=hz
 rw[hAd] at q;cases q;have hfr:(env::fs).filterMap (·.frame)=frs (A.deeper env):=by unfold frs;rw[hAd];rfl
 have hh:headOf (A.deeper env)=some L:=by unfold headOf;rw[hAd];simp[hf]
 have hfd:=eY hf hA;have GA:Goes (frs A) [] ρ ρ' s.heap s'.heap:=by
  rw[hfd] at G;exact G.left hkeep hL hX
 have S':=S.step GA;have off:∀ a∈frs (A.deeper env),a∉ρ':=λa ha=>by
  rw[hfd] at ha;rcases Lx ha with rfl|ha
  ·exact hLρ
  ·exact S'.off a ha
 have cls:∀ a∈frs (A.deeper env),∃ o,s'.heap.get? a=some o/\∀ vs n,o.data≠.seq vs n:=λa ha=>by
  rw[hfd] at ha;rcases Lx ha with rfl|ha
  ·obtain⟨o,ho,hc⟩:=hLo;obtain⟨o',ho',hc',_⟩:=G.xs a hLX o ho;exact⟨o',ho',hc' hc⟩
  ·exact S'.cls a ha
 unfold leaving;refine LB (oB hAd ff hf F.stays F.new (hh▸F.trace) ?_);intros h1a;intro N tb;refine lM (l':=headOf A) (f:=none) N.stays N.ff N.trace tb (.inl rfl) ?_;intros h2a;intro N' tb';have NN:=N.trans N';have R:=NN.rep F hfr off cls D hi hx;have G2a:=NN.goes ff F hfr G hen;have hes:s.heap.get? e=none:=by
  cases q:s.heap.get? e with
  |none=>rfl
  |some o=>
   rw[hkeep e o q] at hen;cases hen
 refine k h2a s'.toks (by rw[hfd] at G2a;exact G2a.left hkeep hL hX) R ⟨i,e,B,rfl,rfl,hi,hes,hx,F.over,NN.stays,F.new,⟨fs,hA,NN.ff.2.2⟩,λa o ha r nf ne=>?_,NN.trace⟩;have nL:a≠L:=λz=>by
  subst z;rcases r with r|r
  ·rw[hL] at r;cases r
  ·exact hLρ r
 refine NN.jK F D (λa o q=>G.there D q) a o ha (r.imp (λr=>?_) id) (λz=>?_) ne
 ·injection Option.isSome_iff_exists.mp r with x0 o' q
  revert a o;intros a o;intro ha _ nf ne nL r q;rw[hkeep a o' q];rfl
 ·rw[hfd] at z;rcases Lx z with z|z
  ·exact nL z
  ·exact nf z
theorem Ci{names:List (Str×NameKind)}{x:Str}(hc:∀ p∈names,p.2≠.cell):names.lookup x≠some .cell:=λe=>by
 obtain⟨p,hp,e⟩:=List.mem_iff_append.mp (LJ e) |> λu=>(⟨_,LJ e,rfl⟩:∃ p,p∈names/\p.2=NameKind.cell)
 exact hc p hp e
theorem oS{names:List (Str×NameKind)}{x:Str}(hc:∀ p∈names,p.2≠.free):names.lookup x≠some .free:=λe=>hc _ (LJ e) rfl
def jA(prog:Program)(w:World)(base:Heap)(A:Around)(c:Code)(s:Shared)(ρ:List Addr)(r:Option (Except V V×ai)):Prop:=
 match r with
 |none=>True
 |some (.ok b,σ')=>∀ (Rz:Result->Shared->Prop),(∀ ρ' h' tk a,Goes (frs A) [] ρ ρ' s.heap h'->Rep w base ρ' σ' h'->VR ρ' h' b a->Rz (.ok (.ret a)) {s with heap:=h',toks:=tk})->codeAny (model prog w) A c Rz s
 |some (.error v,σ')=>∀ (Rz:Result->Shared->Prop),(∀ ρ' h' tk x,Goes (frs A) [] ρ ρ' s.heap h'->Rep w base ρ' σ' h'->fT base A s.heap ρ' σ' h' v x->Rz (.error x) {s with heap:=h',toks:=tk})->codeAny (model prog w) A c Rz s
def gO(prog:Program)(w:World)(base:Heap)(n:Nat)(f:Value)(m:List V->M V):Prop:=
 ∀ (A:Around) (σ:ai) (ρ:List Addr) (s:Shared) (args:List V) (vals:List Value),Rep w base ρ σ s.heap->fj base A ρ s.heap->c7 n A->bq ρ s.heap args vals->jA prog w base A (.call f ⟨vals,[]⟩) s ρ (m args σ)
theorem gO.f{f:Value}{m:List V->M V}(H:gO prog w base n f m):bC prog w base n f m:=by
 intro A σ ρ s args vals D S R r;have z:=H A σ ρ s args vals D S R r;cases hm:m args σ with
 |none=>trivial
 |some q=>
  obtain⟨q,σ'⟩:=q;rw[hm] at z;cases q with
  |error v=>exact λQ E k=>wpAny_call (z _ λρ' h' tk x G D e=>k ρ' h' tk x G D e)
  |ok b=>exact λQ E k=>wpAny_call (z _ λρ' h' tk a G D r=>k ρ' h' tk a G D r)
theorem jT(G:Gd K mg mb base){f:Addr}{od:Option Addr}{cv:Value}{osl:Array (Option Value)}{name qual:Str}{params:Arguments}{body:List Stmt}{scope:Scope}{dV kV doc pm cdv ct:Value}{an:Option Addr}
 {names:List Str}{k:Nat}{defs:List V}{m:List V->M ay}
 (ho:K.lookup f=some ⟨cv,od,.func (fnOf name qual params body scope dV kV doc pm an cdv ct),osl⟩)(hcd:codeIn K cdv qual=true)
 (hbind:∀ (ρ:List Addr) (s:Shared) (l:List V) (xs:List Value),K.In s.heap->bq ρ s.heap l xs->l.length=k->∃ vals,BindsTo s (fnOf name qual params body scope dV kV doc pm an cdv ct) ⟨xs,[]⟩ (names.zip vals)/\bq ρ s.heap (l++defs) vals)
 (hloc:∀ x∈names,scope.names.lookup x=some .local)
 (hb:∀ (l:List V) (L:Addr),l.length=k->aJ prog w base n (callEnv (fnOf name qual params body scope dV kV doc pm an cdv ct) L f) (names.zip (l++defs)).reverse [] body (m l))
 (hco:scope.isCoroutine=false)(hgen:scope.isGenerator=false)(hk:scope.kind=.function)(hcell:∀ x∈scope.names,x.2≠.cell)(hfree:∀ x∈scope.names,x.2≠.free) :
  gO prog w base (n+1) (.ref f) (λl=>if l.length=k then fin (m l) else M.fail):=by
 revert G ho hcd hbind hloc hb hco hgen hk hcell hfree;revert cdv ct an names k defs m;revert prog w base n K mg mb f od cv osl name qual params body scope dV kV doc pm;apply nS;generalize gm=zt;generalize zt.1.1.1.1=prog,zt.1.1.1.2=w,zt.1.1.2.1=base,zt.1.1.2.2.1=n,zt.1.1.2.2.2=K,zt.1.2.1.1=mg,zt.1.2.1.2=mb,zt.1.2.2.1=f,zt.1.2.2.2.1=od,zt.1.2.2.2.2=cv,zt.2.1.1.1=osl,zt.2.1.1.2=name,zt.2.1.2.1=qual,zt.2.1.2.2.1=params,zt.2.1.2.2.2=body,zt.2.2.1.1=scope,zt.2.2.1.2=dV,zt.2.2.2.1=kV,zt.2.2.2.2.1=doc,zt.2.2.2.2.2=pm;intros cdv ct an names;intros k defs m;intro G ho hcd hbind hloc hb hco hgen hk hcell hfree;intros A σ ρ s;intros l xs;intro D S R r;show jA _ _ _ _ _ _ _ ((if l.length=k then fin (m l) else M.fail) σ);split
 ·rename_i hl;injection S.fr with x0 fs hz;obtain⟨hA,hfs⟩:=hz
  have Xh:=G.X.keeps D.sub;injection hbind ρ s l xs Xh r hl with x0 vals hz;obtain⟨hbd,rv⟩:=hz
  have hLn:s.heap.get? s.heap.objs.size=none:=by
   cases e:s.heap.get? s.heap.objs.size with
   |none=>rfl
   |some o=>exact LW (LM e) (LV _)
  have hLb:base.get? s.heap.objs.size=none:=by
   cases e:base.get? s.heap.objs.size with
   |none=>rfl
   |some o=>
    rw[D.sub _ _ e] at hLn;cases hLn
  have hLρ:s.heap.objs.size∉ρ:=λq=>LV _ (D.lt q);have zz:=(cI.zip (names:=names) rv)
  have hlocb:∀ y∈names.zip vals,scope.names.lookup y.1=some .local:=λy hy=>hloc y.1 (List.of_mem_zip hy).1;have hcellN:∀ x,(callEnv (fnOf name qual params body scope dV kV doc pm an cdv ct) s.heap.objs.size f).kindOf x≠some .cell:=λx=>Ci hcell;have hroom:A.depth<recursionLimit:=by have:=R.depth;show A.depth<1000;lia
  have enter:∀ (Rz:Result->Shared->Prop),
    (∀ h1a,h1a.Ns s.heap.objs.size (λx=>(names.zip vals).reverse.lookup x)->(∀ b o,s.heap.get? b=some o->h1a.get? b=some o) ->
     wpAny (model prog w) (A.deeper (callEnv (fnOf name qual params body scope dV kV doc pm an cdv ct) s.heap.objs.size f)) (execs body (callEnv (fnOf name qual params body scope dV kV doc pm an cdv ct) s.heap.objs.size f))
      (λfl s'=>Rz (.ok (.ret (match fl with|.ret v=>v|_=>.none))) s')
      (λe s'=>wpAny (model prog w) (A.deeper (callEnv (fnOf name qual params body scope dV kV doc pm an cdv ct) s.heap.objs.size f)) (leaving (callEnv (fnOf name qual params body scope dV kV doc pm an cdv ct) s.heap.objs.size f) e) (λu s''=>Rz (.error e) s'') (λe' s''=>Rz (.error e') s'') s')
      {s with heap:=h1a,toks:=s.toks+(names.zip vals).length}) ->
    codeAny (model prog w) A (.call (.ref f) ⟨xs,[]⟩) Rz s:=λRz h=>
   (codeAny_call_def (fd:=fnOf name qual params body scope dV kV doc pm an cdv ct) (body:=body) (binds:=names.zip vals) hroom (Xh _ _ ho) rfl (G.nolimit.keeps D.sub) (codeRec_of Xh hcd) rfl hbd hcell hlocb (λh1a hns hk1=>h h1a hns hk1) hco hgen hk)
  have within:∀ h1a tk,h1a.Ns s.heap.objs.size (λx=>(names.zip vals).reverse.lookup x)->(∀ b o,s.heap.get? b=some o->h1a.get? b=some o) ->
    Runs prog w base (A.deeper (callEnv (fnOf name qual params body scope dV kV doc pm an cdv ct) s.heap.objs.size f)) (own (callEnv (fnOf name qual params body scope dV kV doc pm an cdv ct) s.heap.objs.size f)) (execs body (callEnv (fnOf name qual params body scope dV kV doc pm an cdv ct) s.heap.objs.size f)) {s with heap:=h1a,toks:=tk} ρ (m l σ) (qc (callEnv (fnOf name qual params body scope dV kV doc pm an cdv ct) s.heap.objs.size f) []):=by
   intro h1a tk hns hk1;obtain⟨oL,es,ep,hoL,hdL,_⟩:=id hns;have nf:∀ vs,oL.data≠.fields vs:=λvs e=>by rw[hdL] at e;cases e
   have hown:own (callEnv (fnOf name qual params body scope dV kV doc pm an cdv ct) s.heap.objs.size f)=[s.heap.objs.size]:=rfl;refine hb l s.heap.objs.size hl _ σ ρ {s with heap:=h1a,toks:=tk} ⟨D.keeps hk1,⟨⟨_,Around.frames_deeper hA,?_⟩,?_,?_⟩,R.deeper _,?_⟩ ⟨⟨_,Around.frames_deeper hA⟩,rfl,?_⟩
   ·refine⟨by show scope.kind≠.module;rw[hk];decide,⟨_,oL,rfl,hLb,hoL,nf⟩,hfs.of_keeps λb o e u=>⟨o,hk1 b o e,rfl⟩⟩
   ·intro a ha;rw[eY rfl hA] at ha;rcases Lx ha with rfl|ha
    ·exact hLρ
    ·exact S.off a ha
   ·intro a ha;rw[eY rfl hA] at ha;rcases Lx ha with rfl|ha
    ·exact⟨oL,hoL,λu u e=>by rw[hdL] at e;cases e⟩
    ·obtain⟨o,e,q⟩:=S.cls a ha;exact⟨o,hk1 _ _ e,q⟩
   ·have rz:cI (VR ρ h1a) (names.zip (l++defs)).reverse (names.zip vals).reverse:=zz.rev.mono λv x r=>r.mono (λu u z=>z) λu u u z=>hk1 _ _ z;have loc:∀ x v,(names.zip (l++defs)).reverse.lookup x=some v->scope.names.lookup x=some .local:=λx v e=>by
     have:=List.mem_reverse.mp (LJ e);exact hloc x (List.of_mem_zip this).1
    refine⟨⟨_,hns,λx v e u=>rz.lookup e⟩,λx v e q=>?_,λx v e=>.inl (loc x v e),hLρ,λp hp=>(nomatch hp),List.Pairwise.nil,λx e=>LW e (λe=>e.elim (hcellN x) (oS hfree)),hk,rfl,rfl⟩;have q':scope.names.lookup x=some .cell\/scope.names.lookup x=some .free:=q;rw[loc x v e] at q';simp at q'
   ·intro a ha;rw[hown] at ha;simp at ha;subst ha;exact hLb
  unfold fin;rw[M.bind_eq];cases hm:m l σ with
  |none=>trivial
  |some r'=>
   revert r';intros r';intro hm;obtain⟨r',σ'⟩:=r';revert r' σ';intros r' σ';intro hm;have outL:∀ {ρ':List Addr} {h1a h':Heap},(∀ b o,s.heap.get? b=some o->h1a.get? b=some o)->Goes (frs (A.deeper (callEnv (fnOf name qual params body scope dV kV doc pm an cdv ct) s.heap.objs.size f))) (own (callEnv (fnOf name qual params body scope dV kV doc pm an cdv ct) s.heap.objs.size f)) ρ ρ' h1a h'->Goes (frs A) [] ρ ρ' s.heap h':=λhk1 G=>by
    rw[eY rfl hA] at G;exact G.left hk1 hLn λa ha=>by
     have hown:own (callEnv (fnOf name qual params body scope dV kV doc pm an cdv ct) s.heap.objs.size f)=[s.heap.objs.size]:=rfl;rw[hown] at ha;simp at ha;subst ha;exact hLn
   cases r' with
   |error v=>
    revert v;intros v;intro hm;intros Rz;intro q;refine enter Rz ?_;intros h1a;intro hns hk1;have z:=within h1a (s.toks+(names.zip vals).length) hns hk1;rw[hm] at z;refine z _ _ ?_;intros ρ' h' tk x;intro G' D' e;have hLρ':s.heap.objs.size∉ρ':=by
     obtain⟨oL,_,_,hoL,_⟩:=id hns;exact G'.gu hoL hLρ
    exact oM (s:=s) (s₁:={s with heap:=h1a}) (L:=s.heap.objs.size) (X:=own (callEnv (fnOf name qual params body scope dV kV doc pm an cdv ct) s.heap.objs.size f)) hA rfl S (let⟨oL,_,_,hoL,hdL,_⟩:=hns;⟨oL,hoL,λu u e=>by rw[hdL] at e;cases e⟩) (.head _) hk1 hLn hLρ' G' (λa ha=>by
     have hown:own (callEnv (fnOf name qual params body scope dV kV doc pm an cdv ct) s.heap.objs.size f)=[s.heap.objs.size]:=rfl;rw[hown] at ha;simp at ha;subst ha;exact hLn) D' e λh'' tk' G'' D'' e''=>q ρ' h'' tk' x G'' D'' e''
   |ok c=>
    revert c;intros c;intro hm;cases c with
    |next=>
     intros Rz;intro q;refine enter Rz ?_;intros h1a;intro hns hk1;have z:=within h1a (s.toks+(names.zip vals).length) hns hk1;rw[hm] at z;refine z _ _ ?_;intros ρ' h' tk fl;intro G' D' e;obtain⟨rfl,_⟩:=e;exact q ρ' h' tk .none (outL hk1 G') D' .none
    |ret v=>
     revert v;intros v;intro hm;intros Rz;intro q;refine enter Rz ?_;intros h1a;intro hns hk1;have z:=within h1a (s.toks+(names.zip vals).length) hns hk1;rw[hm] at z;refine z _ _ ?_;intros ρ' h' tk fl;intro G' D' e;injection e with e x hz;obtain⟨rfl,rx⟩:=hz
     exact q ρ' h' tk x (outL hk1 G') D' rx
 ·trivial
theorem cg(G:Gd K mg mb base){f:Addr}{od:Option Addr}{cv:Value}{osl:Array (Option Value)}{name qual:Str}{params:Arguments}{body:List Stmt}{scope:Scope}{dV kV doc pm cdv ct:Value}{an:Option Addr}
 {names:List Str}{k:Nat}{defs:List V}{m:List V->M ay}
 (ho:K.lookup f=some ⟨cv,od,.func (fnOf name qual params body scope dV kV doc pm an cdv ct),osl⟩)(hcd:codeIn K cdv qual=true)
 (hbind:∀ (ρ:List Addr) (s:Shared) (l:List V) (xs:List Value),K.In s.heap->bq ρ s.heap l xs->l.length=k->∃ vals,BindsTo s (fnOf name qual params body scope dV kV doc pm an cdv ct) ⟨xs,[]⟩ (names.zip vals)/\bq ρ s.heap (l++defs) vals)
 (hloc:∀ x∈names,scope.names.lookup x=some .local)
 (hb:∀ (l:List V) (L:Addr),l.length=k->aJ prog w base n (callEnv (fnOf name qual params body scope dV kV doc pm an cdv ct) L f) (names.zip (l++defs)).reverse [] body (m l))
 (hco:scope.isCoroutine=false)(hgen:scope.isGenerator=false)(hk:scope.kind=.function)(hcell:∀ x∈scope.names,x.2≠.cell)(hfree:∀ x∈scope.names,x.2≠.free) :
  bC prog w base (n+1) (.ref f) (λl=>if l.length=k then fin (m l) else M.fail):=
 (jT G ho hcd hbind hloc hb hco hgen hk hcell hfree).f
end
def c8(l:List V):M V:=λσ=>
 ((one l).bind λa=>a.dh.bind λm=>few m.length (.int m.length) σ).or ((one l).bind λa=>a.bO.bind λi=>
  ((listAt σ i).bind λm=>few m.length (.int m.length) σ).or (((gp σ i).bind λm=>few m.length (.int m.length) σ).or ((jC σ i).bind λm=>few m.length (.int m.length) σ)))
noncomputable def DX(T:String):V->Option Bool
 |.bool _=>if T="bool"\/T="int" then some true else if T="bytes" then some false else none
 |.int _=>if T="int" then some true else if T="bool"\/T="bytes" then some false else none
 |.bytes _=>if T="bytes" then some true else if T="bool"\/T="int" then some false else none
 |.tup _=>if T="bytes"\/T="bool"\/T="int" then some false else none
 |_=>none
def Ag(l:List V):M V:=λσ=>(two l).bind λp=>p.2.Hf.bind λT=>(DX T p.1).map λb=>(.ok (.bool b),σ)
def DZ(l:List V):M V:=λσ=>(one l).bind λa=>a.qV.bind λb=>some (.ok (.int (if b then 1 else 0)),σ)
def sM(l:List V):M V:=λσ=>(one l).bind λa=>a.dh.bind λm=>few m.length (.obj σ.length) (σ++[.list m])
def vZ(l:List V):M V:=λσ=>(one l).bind λa=>a.bO.bind λi=>(listAt σ i).bind λm=>few m.length (.tup m) σ
def C4(σ:ai)(i:Nat)(v:V):Option (Except V V×ai):=(listAt σ i).bind λm=>few m.length .none (σ.set i (.list (m++[v])))
def cB(l:List V):M V:=λσ=>(two l).bind λp=>p.1.bO.bind λi=>C4 σ i p.2
def DH(l:List V):M V:=λσ=>(one l).bind λa=>a.bO.bind λi=>(listAt σ i).bind λm=>if m.length<=1000 then (m.getLast?).map λv=>(.ok v,σ.set i (.list m.dropLast)) else none
def C3(σ:ai)(i:Nat)(v:V):Option (Except V V×ai):=v.bO.bind λj=>(listAt σ i).bind λm=>(listAt σ j).bind λr=>if m.length<=1000/\r.length<=1000 then some (.ok .none,σ.set i (.list (m++r))) else none
def sP(l:List V):M V:=λσ=>(two l).bind λp=>p.1.bO.bind λi=>C3 σ i p.2
section
variable{prog:Program}{w:World}{base:Heap}{n:Nat}{env:Env}{le keep:List (Str×V)}{K:Frag}{mg mb:Str->Option Value}{α β γ δ:Type}
theorem gV{ρ:List Addr}{h:Heap}{v:V}{xs:List Value}(r:bq ρ h [v] xs):∃ x,xs=[x]/\VR ρ h v x:=by
 refine r.bf λx1 xs1 a b=>?_;cases b;exact⟨_,rfl,a⟩
theorem kU{ρ:List Addr}{h:Heap}{v u:V}{xs:List Value}(r:bq ρ h [v,u] xs):∃ x y,xs=[x,y]/\VR ρ h v x/\VR ρ h u y:=by
 refine r.bf λx2 xs2 a b=>?_;refine b.bf λx3 xs3 b c=>?_;cases c;exact⟨_,_,rfl,a,b⟩
theorem CT{ρ:List Addr}{h:Heap}{v u t:V}{xs:List Value}(r:bq ρ h [v,u,t] xs):∃ x y z,xs=[x,y,z]/\VR ρ h v x/\VR ρ h u y/\VR ρ h t z:=by
 refine r.bf λx4 xs4 a b=>?_;refine b.bf λx5 xs5 b c=>?_;refine c.bf λx6 xs6 c d=>?_;cases d;exact⟨_,_,_,rfl,a,b,c⟩
theorem VR.mw{ρ:List Addr}{h:Heap}{i:Nat}{x:Value}(r:VR ρ h (.obj i) x):∃ a,x=.ref a/\ρ[i]?=some a:=by
 cases r with|obj e=>exact⟨_,rfl,e⟩
theorem Cc{A:Around}{E:Value->Shared->Prop}{s:Shared}{d:Addr}{es:Array DictEntry}{k:Nat}{Q:Value->Shared->Prop}(hd:(d==sysModules)=false)(ho:s.heap.get? d=some (aN es k))(hfit:es.size<2^63)
 (h:Q (.int es.size (s.toks+1)) {s with toks:=s.toks+1+1}):wpAny (model prog w) A (call (.builtin "len") [.ref d]) Q E s:=by
 have hT:s.TypeIs (.ref d) "dict":=⟨_,ho,rfl⟩
 have meet:MeetsIn prog w (Builtin.«dict.__len__» ⟨[.ref d],[]⟩) (λu R s=>s.heap.get? d=some (aN es k)/\R (.ok (.ret (.int es.size s.toks))) {s with toks:=s.toks+1}):=
  .of_wp λA R s ⟨ho,h⟩=>by
   show wpAny _ _ (dictSize d>>=_) _ _ s;unfold dictSize;refine LB (LB (wpAny_dictEntries ho rfl (LC ?_)));show wpAny _ _ (Builtin.Dict.pendingCount d>>=_) _ _ s;refine LB (wpAny_pendingCount_other hd ?_);exact wpAny_ret_mkInt (by rw[Nat.add_zero];exact h)
 refine Calls.call_function_entry kind_len plain_len entry_len (args_len1 _) ?_;unfold Builtin.«len»;refine LB (m:=oneArg "len" _) (LC ?_);refine LB (m:=callSpecial? (.ref d) (Str.ofString "__len__")) (wpAny_callSpecial?_slot (name:=Str.ofString "__len__") hT F.slot_dict_len
  (call_meetsIn F.slot_dict_len hT F.entry_dict_len (F.args_dict_len_1 _) meet ⟨ho,?_⟩))
 show wpAny _ _ _ _ _ {s with toks:=s.toks+1};refine LB (LU (LC ?_));refine LB (wpAny_letGo ?_);show wpAny _ _ (if ((es.size:Nat):Int)<0 then _ else _) _ _ _;rw[if_neg (by lia)];show wpAny _ _ (if ((es.size:Nat):Int) >= 2^63 then _ else _) _ _ _;rw[if_neg (by lia)];exact LB (wpAny_mkInt (LC ⟨_,rfl,h⟩))
theorem mP{n:Nat}{v:V}{σ:ai}(h:n<=1000):few n v σ=some (.ok v,σ):=if_pos h
theorem len_list{σ:ai}{i:Nat}{l:List V}(h:σ[i]?=some (.list l))(hn:l.length<=1000):c8 [.obj i] σ=some (.ok (.int l.length),σ):=by
 show ((listAt σ i).bind _).or _=_;rw[cj h];show (few _ _ _).or _=_;rw[mP hn];rfl
theorem I6{σ:ai}{i k:Nat}{l:List (Int×V)}(h:σ[i]?=some (.idd l k))(hn:l.length<=1000):c8 [.obj i] σ=some (.ok (.int l.length),σ):=by
 show ((listAt σ i).bind _).or (((gp σ i).bind _).or _)=_;rw[uM h,show listAt σ i=none by unfold listAt;rw[h];rfl];show (few _ _ _).or _=_;rw[mP hn];rfl
theorem Kp{σ:ai}{i:Nat}{l:List (List V×V)}(h:σ[i]?=some (.td l))(hn:l.length<=1000):c8 [.obj i] σ=some (.ok (.int l.length),σ):=by
 show ((listAt σ i).bind _).or (((gp σ i).bind _).or ((jC σ i).bind _))=_;rw[mE h,show listAt σ i=none by unfold listAt;rw[h];rfl,show gp σ i=none by unfold gp;rw[h];rfl];exact mP hn
theorem wV{n:Nat}(h:n<=1000):(n:Int)<2^63:=Int.lt_of_le_of_lt (Int.ofNat_le.mpr h) (by decide)
theorem Gj{n:Nat}(h:n<=1000):n<2^63:=L8 h (by decide)
theorem dW:bC prog w base 0 (.builtin "len") c8:=by
 revert prog w base;intros prog w base;intros A σ ρ s;intros l xs;intro D S R r;refine Runs.inv ?_;intros res σ';intro ev;rcases or_some ev with hz|hz
 ·injection CS hz with hz l' hz;obtain⟨rfl,hz⟩:=hz
  obtain⟨hl,hr⟩:=kT hz;cases hr;injection gV r with x0 x hz;obtain⟨rfl,rx⟩:=hz
  refine rx.rX ?_;intros a vs m;intro e rl;intros Q E;intro q;refine len_tuple (iM e) (wV (rl.size▸hl)) ?_;rw[<- rl.size];exact q ρ s.heap _ _ .refl D (.int _ _)
 ·injection sH hz with hz i hz;obtain⟨rfl,hz⟩:=hz
  injection gV r with x0 x hy;obtain⟨rfl,rx⟩:=hy
  refine rx.objE ?_;intros a;intro hi;have lo:=low_ne D (LG hi);rcases or_some hz with hz|hz
  ·injection fO hz with hz l hz;obtain⟨h1,hz⟩:=hz
   obtain⟨hl,hr⟩:=kT hz;cases hr;injection D.list h1 hi with x0 vs u4 hz;obtain⟨_,e,rl⟩:=hz
   intros Q E;intro q;refine PySem.Calls.call_len_list e (wV (rl.size▸hl)) ?_;rw[<- rl.size];exact q ρ s.heap _ _ .refl D (.int _ _)
  rcases or_some hz with hz|hz
  ·injection Gf hz with hz l ep hz;obtain⟨h1,hz⟩:=hz
   obtain⟨hl,hr⟩:=kT hz;cases hr;injection D.obj _ _ _ h1 hi with x0 es hz;obtain⟨e,rl,nd⟩:=hz
   injection jP (lQ prog w) e rl nd with x0 ys hz;obtain⟨hd,q⟩:=hz
   intros Q E;intro k;refine call_len_dict (knd:=intKind prog w) lo hd (by rw[q.length];exact wV hl) ?_;rw[q.length];exact k ρ s.heap _ _ .refl D (.int _ _)
  ·injection sO hz with hz l hz;obtain⟨h1,hz⟩:=hz
   obtain⟨hl,hr⟩:=kT hz;cases hr;injection D.obj _ _ _ h1 hi with x0 es k hz;obtain⟨e,rl,nd⟩:=hz
   have hz:es.size=l.length:=by rw[<- Array.length_toList];exact rl.length.symm
   intros Q E;intro q;refine Cc lo e (Gj (hz▸hl)) ?_;rw[hz];exact q ρ s.heap _ _ .refl D (.int _ _)
set_option tactic.hygienic true in
theorem ur:bC prog w base 0 (.builtin "isinstance") Ag:=by
 revert prog w base;intros prog w base;intros A σ ρ s;intros l xs;intro D S R r;refine Runs.inv ?_;intros res σ';intro ev;injection Lv ev with ev p hz;obtain⟨hp,hz⟩:=hz
 injection Lv hz with hz T hz;obtain⟨hT,hz⟩:=hz
 injection Lw hz with hz b hz;obtain⟨e,hr⟩:=hz
 cases hr;rw[two_of hp,V.KV hT] at r;clear hp hT;revert r e;generalize p.1=v;intro r e;injection kU r with x0 x y hz;obtain⟨rfl,rx,ry⟩:=hz
 cases ry.inv;intros Q E;intro q;have fin:∀ tk,Q (.bool b) {s with toks:=tk}:=λtk=>q ρ s.heap tk _ .refl D (.bool b);unfold DX at e;cases rx<;>simp only at e
 case bool=>
  split at e
  ·rename_i u7 h;revert u7;intros u7;intro r;cases e;rcases h with hz|hz
   ·obtain rfl:=hz;exact IsiPair.bool_bool (fin s.toks)
   ·obtain rfl:=hz;exact IsiPair.bool_int (fin s.toks)
  ·split at e
   ·rename_i u8 u9 h;revert u8;intros u8;intro r;cases e;subst h;exact IsiPair.bool_bytes (fin _)
   ·cases e
 case int=>
  split at e
  ·rename_i u10 u11 h;revert u10 u11;intros u10 u11;intro r;cases e;subst h;exact IsiPair.int_int (fin s.toks)
  ·split at e
   ·rename_i u12 u13 u14 h;revert u12 u13;intros u12 u13;intro r;cases e;rcases h with hz|hz
    ·obtain rfl:=hz;exact IsiPair.int_bool (fin _)
    ·obtain rfl:=hz;exact IsiPair.int_bytes (fin _)
   ·cases e
 case bytes b t=>
  revert b t;intros b t;intro r;split at e
  ·rename_i h;cases e;subst h;exact call_isinstance (isinstance_true (Tx:="bytes") F.isi_meta_bytes F.isi_self_bytes) ⟨rfl,fin s.toks⟩
  ·split at e
   ·rename_i h;cases e;have meet:∀ T:String,(Value.type "bytes"==Value.type T)=false->typeOf (.type T)=pure (.type "type")->isSubtype (.type "bytes") (.type T)=pure false ->
      Meets (Builtin.«isinstance» ⟨[.bytes b t,.type T],[]⟩) (λu R s=>R (.ok (.ret (.bool false))) {s with toks:=s.toks+1}):=λT h1 h2 h3 u u u u s hs=>by
     obtain⟨h,g,d,t,os⟩:=s;exact isinstance_outer (isinstance_nested_false_bytes h1 h2 h3 hs)
    rcases h with hz|hz
    ·obtain rfl:=hz;exact call_isinstance (meet "bool" (by decide) (by kernel_rfl) (by rw[isSubtype_type];kernel_rfl)) (fin _)
    ·obtain rfl:=hz;exact call_isinstance (meet "int" (by decide) (by kernel_rfl) (by rw[isSubtype_type];kernel_rfl)) (fin _)
   ·cases e
 case tup ho _=>
  rename_i u15 u16 u17 u18 u19;revert u15 u16 u17 u18;intros u15 u16 u17 u18;intro ho u19 r;split at e
  ·rename_i h;cases e;rcases h with hz|hz|hz
   ·obtain rfl:=hz;exact IsiPair.tuple_bytes ho rfl (fin _)
   ·obtain rfl:=hz;exact IsiPair.tuple_bool ho rfl (fin _)
   ·obtain rfl:=hz;exact IsiPair.tuple_int ho rfl (fin _)
  ·cases e
 all_goals cases e
theorem G0:bC prog w base 0 (.type "int") DZ:=by
 revert prog w base;intros prog w base;intros A σ ρ s;intros l xs;intro D S R r;refine Runs.inv ?_;intros res σ';intro ev;injection Lv ev with x0 a hz;obtain⟨ha,ev⟩:=hz
 injection Lv ev with x0 b hz;obtain⟨hb,ev⟩:=hz
 cases ev;cases pC ha;cases V.wB hb;injection gV r with x0 x hz;obtain⟨rfl,rx⟩:=hz
 cases rx.inv;exact λQ E q=>call_int_bool (q ρ s.heap _ _ .refl D (.int _ _))
theorem Cm:bC prog w base 0 (.type "list") sM:=by
 intro A σ ρ s l xs D S R r;refine Runs.inv λres σ' ev=>?_;obtain⟨l,rfl,ev⟩:=CS ev;obtain⟨hl,hr⟩:=kT ev;cases hr;obtain⟨x,rfl,rx⟩:=gV r;refine rx.rX λa vs m e rl Q E q=>?_;refine call_list_seq a (.inr rfl) e rfl rfl (λh' c' hk hn=>?_) (fW (Nat.le_succ_of_le (rl.size▸hl)));refine q (ρ++[s.heap.objs.size]) h' s.toks _ (Goes.alloc hk (LP _)) (D.alloc hk (LP _) ⟨vs,c',hn,?_⟩) (.obj (jS D.len));exact rl.mono iU λu u u z=>hk _ _ z
theorem EE:bC prog w base 0 (.type "tuple") vZ:=by
 intro A σ ρ s l xs D S R r;refine Runs.inv λres σ' ev=>?_;obtain⟨i,rfl,ev⟩:=sH ev;obtain⟨l,h1,ev⟩:=fO ev;obtain⟨hl,hr⟩:=kT ev;cases hr;obtain⟨x,rfl,rx⟩:=gV r;refine rx.objE λa hi Q E q=>?_;obtain⟨vs,_,_,e,rl⟩:=D.list h1 hi;refine call_tuple_list e (λh' hk=>?_) (fW (Nat.le_succ_of_le (rl.size▸hl)));have k2:∀ b o,s.heap.get? b=some o->(h'.push {cls:=.type "tuple",data:=.seq vs}).get? b=some o:=λb o z=>aP _ _ (hk b o z);exact q ρ _ s.toks _ (Goes.keeps k2) (D.keeps k2) (.tup (LK _ rfl) (rl.mono (λu u z=>z) λu u u z=>k2 _ _ z))
theorem dN:bC prog w base 0 (.builtin "list.append") cB:=by
 revert prog w base;intros prog w base;intros A σ ρ s;intros l xs;intro D S R r;refine Runs.inv ?_;intros res σ';intro ev;injection mS (f:=C4 σ) ev with ev i v hz;obtain⟨rfl,hz⟩:=hz
 injection fO hz with hz l hz;obtain⟨h1,hz⟩:=hz
 obtain⟨hl,hr⟩:=kT hz;cases hr;injection kU r with x0 x y hz;obtain⟨rfl,rx,ry⟩:=hz
 refine rx.objE ?_;intros a;intro hi;injection D.list h1 hi with x0 vs k hz;obtain⟨e,il,rl⟩:=hz
 have hs:=rl.size;intros Q E;intro q;injection jc (·.push y) vs k with x0 k' hk'
 have eU:=LN (Obj.mapSeq (·.push y)) e (by rw[hk'];rfl);rw[hk'] at eU;refine wpAny_call_entry slot_list_append il.typeIs entry_list_append ?_ (args_list_append _ _);show wpAny _ _ (updateSeq a (·.push y)>>=λu=>ret .none) _ _ s;refine LB (wpAny_updateSeq e rfl (LC ⟨.none,rfl,?_⟩) (fW (by omega)));obtain⟨G,D'⟩:=lq (A:=A) (X:=[]) (l:=l++[v]) hi D (λu u q=>nomatch q) e (LQ ..) eU (by rw[Array.toList_push];exact rl.append (.cons ry .nil));exact q ρ _ s.toks _ G D' .none
theorem yh{α:Type}:∀ l:List α,l.eraseIdx (l.length - 1)=l.dropLast
 |[]=>rfl
 |[a]=>rfl
 |a::b::l=>by
  show (a::b::l).eraseIdx (l.length+1)=a::(b::l).dropLast;rw[List.eraseIdx_cons_succ];exact LH _ (yh (b::l))
theorem HB:bC prog w base 0 (.builtin "list.pop") DH:=by
 revert prog w base;intros prog w base;intros A σ ρ s;intros l xs;intro D S R r;refine Runs.inv ?_;intros res σ';intro ev;injection sH ev with ev i hz;obtain⟨rfl,hz⟩:=hz
 injection fO hz with hz l hz;obtain⟨h1,hz⟩:=hz
 obtain⟨hl,hz⟩:=aE hz;injection Lw hz with hz v hz;obtain⟨hg,hr⟩:=hz
 cases hr;injection gV r with x0 x hz;obtain⟨rfl,rx⟩:=hz
 refine rx.objE ?_;intros a;intro hi;injection D.list h1 hi with x0 vs k hz;obtain⟨e,il,rl⟩:=hz
 have hs:=rl.size;rw[List.getLast?_eq_getElem?] at hg;injection rl.get hg with x0 y hz;obtain⟨hy,ry⟩:=hz
 rw[Array.getElem?_toList,hs] at hy;intros Q E;intro q;injection jc (λxs=>xs.eraseIdxIfInBounds (vs.size - 1)) vs k with x0 k' hk'
 have eU:=LN (Obj.mapSeq λxs=>xs.eraseIdxIfInBounds (vs.size - 1)) e (by rw[hk'];rfl);rw[hk'] at eU;refine call_meets F.slot_list_pop ⟨_,e,rfl⟩ F.entry_list_pop (F.args_list_pop_1 _) (MeetsSeq.list_pop_last a vs k y hy (fW (by lia))) ⟨e,?_⟩;have hlt:vs.size - 1<vs.size:=(Array.getElem?_eq_some_iff.mp hy).1;have hsame:Heap.SameBut a s.heap (s.heap.update a (Obj.mapSeq λxs=>xs.eraseIdxIfInBounds (vs.size - 1))):=LQ ..;have hdrop:bq ρ s.heap l.dropLast (vs.eraseIdxIfInBounds (vs.size - 1)).toList:=by
  have e1:(vs.eraseIdxIfInBounds (vs.size - 1)).toList=vs.toList.dropLast:=by
   obtain⟨vl⟩:=vs;simp only[List.eraseIdxIfInBounds_toArray,List.size_toArray];exact yh vl
  rw[e1];have:∀ {l:List V} {vs:List Value},bq ρ s.heap l vs->bq ρ s.heap l.dropLast vs.dropLast:=by
   intro l vs r
   induction l generalizing vs with
   |nil=>cases r;exact .nil
   |cons v l ih=>
    refine r.bf λx6 xs6 a b=>?_;cases b with
    |nil=>exact .nil
    |cons c d=>
     exact .cons a (ih (.cons c d))
  exact this rl
 obtain⟨G,D'⟩:=lq (A:=A) (X:=[]) (l:=l.dropLast) hi D (λu u q=>nomatch q) e hsame eU hdrop;exact q ρ _ s.toks _ G D' (ry.same hsame e j0)
theorem Cu:bC prog w base 0 (.builtin "list.extend") sP:=by
 revert prog w base;intros prog w base;intros A σ ρ s;intros l xs;intro D S R r;refine Runs.inv ?_;intros res σ';intro ev;injection mS (f:=C3 σ) ev with ev i v hz;obtain⟨rfl,hz⟩:=hz
 injection Lv hz with hz j hz;obtain⟨hv,hz⟩:=hz
 cases V.cu hv;injection fO hz with hz l hz;obtain⟨h1,hz⟩:=hz
 injection fO hz with hz r' hz;obtain⟨h2,hz⟩:=hz
 obtain⟨hl,hr⟩:=aE hz;cases hr;injection kU r with x0 x y hz;obtain⟨rfl,rx,ry⟩:=hz
 refine rx.objE ?_;intros a;intro hi;refine ry.objE ?_;intros b;intro hj;injection D.list h1 hi with x0 vs k hz;obtain⟨e,il,rl⟩:=hz
 injection D.list h2 hj with x0 us k2 hz;obtain⟨e2,il2,rl2⟩:=hz
 have hs:=rl.size;have hs2:=rl2.size;intros Q E;intro q;injection jc (λxs=>xs++us) vs k with x0 k' hk'
 have eU:=LN (Obj.mapSeq λxs=>xs++us) e (by rw[hk'];rfl);rw[hk'] at eU;have z:sizeLine=16777216:=by decide
 refine call_meets F.slot_list_extend ⟨_,e,rfl⟩ F.entry_list_extend (F.args_list_extend_2 _ _) (AutoSeq1.list_extend_list_list_0 a vs k b us k2 (extend_door (by lia)) (by lia) (by lia)) ⟨e,e2,?_⟩;obtain⟨G,D'⟩:=lq (A:=A) (X:=[]) (l:=l++r') hi D (λu u q=>nomatch q) e (LQ ..) eU (by rw[Array.toList_append];exact rl.append rl2);exact q ρ _ s.toks _ G D' .none
end
inductive It where
 |list (j:Nat)
 |range (n:Int)
 |enum (j:Nat)
 |keys (j n ep:Nat)
instance:Nonempty It:=⟨.list 0⟩
def bF(it:It)(i:Nat):M (Option V):=λσ=>It.casesOn it (λj=>(listAt σ j).bind λl=>some (.ok l[i]?,σ)) (λn=>some (.ok (if (i:Int)<n then some (.int i) else none),σ))
 (λj=>(listAt σ j).bind λl=>some (.ok (l[i]?.map λv=>.tup [.int i,v]),σ)) (λj n ep=>(σ[j]?.bind aq.iO).bind λq=>if q.2=ep/\q.1.length=n then some (.ok (q.1[i]?.map λp=>.int p.1),σ) else none)
section
variable{σ:ai}{i j:Nat}{l:List V}
theorem pK{o:Option V}(h:σ[j]?=some (.list l))(q:l[i]?=o):bF (.list j) i σ=some (.ok o,σ):=by
 show (listAt σ j).bind _=_;rw[cj h,<- q];rfl
theorem sU{o:Option V}(h:σ[j]?=some (.list l))(q:l[i]?=o):bF (.enum j) i σ=some (.ok (o.map λv=>.tup [.int i,v]),σ):=by
 show (listAt σ j).bind _=_;rw[cj h,<- q];rfl
theorem I5{l:List (Int×V)}{ep n:Nat}{o:Option (Int×V)}(h:σ[j]?=some (.idd l ep))(hn:l.length=n)(q:l[i]?=o):bF (.keys j n ep) i σ=some (.ok (o.map λp=>.int p.1),σ):=by
 show (σ[j]?.bind aq.iO).bind _=_;rw[h,<- q];exact if_pos ⟨rfl,hn⟩
theorem kI{n:Int}(h:(i:Int)<n):bF (.range n) i σ=some (.ok (some (.int i)),σ):=LH (λo=>some (Except.ok o,σ)) (if_pos h)
theorem mK{n:Int}(h:¬(i:Int)<n):bF (.range n) i σ=some (.ok none,σ):=LH (λo=>some (Except.ok o,σ)) (if_neg h)
end
def Hid(base:Heap)(ρ:List Addr)(h:Heap)(b:Addr):Prop:=b∉ρ/\base.get? b=none/\∃ o vs,h.get? b=some o/\o.data=.fields vs
noncomputable def hidden:It->Addr->Addr->List Addr
 |.enum _,a,b=>[a,b]
 |_,a,_=>[a]
def iy(base:Heap)(it:It)(i:Nat)(ρ:List Addr)(h:Heap)(a b:Addr):Prop:=
 (∀ c∈hidden it a b,Hid base ρ h c)/\match it with
 |.list j=>∃ l,ρ[j]?=some l/\h.IsListIter a l i
 |.range n=>∃ x left:Int,IsRangeIter h a x left 1/\x=i/\n=i+left
 |.enum j=>∃ l old,ρ[j]?=some l/\IsEnum h a b i old/\h.IsListIter b l i/\a≠b
 |.keys j n ep=>∃ d,ρ[j]?=some d/\h.IsKeyIter a d i n ep
section
variable{prog:Program}{w:World}{base:Heap}{n:Nat}{env:Env}{le keep:List (Str×V)}{K:Frag}{mg mb:Str->Option Value}{α β γ δ:Type}{A:Around}{σ σ':ai}{ρ ρ':List Addr}{s:Shared}{h h':Heap}{it:It}{i:Nat}{a b:Addr}{X Y:List Addr}
theorem qC(S:fj base A ρ h){c:Addr}(hc:c∈frs A){o:Obj}(e:h.get? c=some o):∀ vs,o.data≠.fields vs:=by
 obtain⟨fs,hA,hf⟩:=S.fr;obtain⟨env,he,hfr⟩:=(sV hA).mp hc;obtain⟨_,o',ho',hn⟩:=hf.mem (List.mem_filterMap.mpr ⟨env,he,hfr⟩);rw[e] at ho';cases ho';exact hn
theorem Hid.Eo(S:fj base A ρ h){c:Addr}(H:Hid base ρ h c):c∉frs A:=λq=>by
 obtain⟨_,_,o,vs,e,d⟩:=H;exact qC S q e vs d
theorem Hid.lD(Y:br env le ρ h){c:Addr}(H:Hid base ρ h c):c∉own env:=by
 revert Y H;revert base env le ρ h c;intros base env le ρ;intros h c;intro Y H;intro q;obtain⟨_,_,hz⟩:=H;injection hz with hz o vs hz;obtain⟨e,d⟩:=hz
 rcases m6 q with hz|hz
 ·obtain rfl:=hz;injection iu Y with x0 o' hz;obtain⟨e',_,nf⟩:=hz
  rw[e] at e';cases e';exact nf vs d
 ·injection hz with hz p hz;obtain⟨hp,rfl⟩:=hz
  obtain⟨_,_,hz⟩:=Y.offC p hp;injection hz with hz v o' hz;obtain⟨e',d'⟩:=hz
  rw[e] at e';cases e';rw[d] at d';cases d'
theorem Hid.step(S:fj base A ρ h){c:Addr}(H:Hid base ρ h c)(hX:c∉X)(G:Goes (frs A) X ρ ρ' h h'):Hid base ρ' h' c/\∀ o,h.get? c=some o->h'.get? c=some o:=by
 have hf:=H.Eo S;obtain⟨h1,h2,o,vs,e,d⟩:=H;have k:∀ o,h.get? c=some o->h'.get? c=some o:=λo e=>G.exact e h1 hX hf;exact⟨⟨G.gu e h1,h2,o,vs,k o e,d⟩,k⟩
theorem iy.step(S:fj base A ρ h)(H:iy base it i ρ h a b)(hX:∀ c∈hidden it a b,c∉X)(G:Goes (frs A) X ρ ρ' h h'):iy base it i ρ' h' a b:=by
 revert S H hX G;revert X;revert base A ρ ρ' h h' it i a b;apply cK;generalize dm=zt;generalize zt.1.1.1=base,zt.1.1.2=A,zt.1.2.1=ρ,zt.1.2.2.1=ρ',zt.1.2.2.2=h,zt.2.1.1=h',zt.2.1.2=it,zt.2.2.1=i,zt.2.2.2.1=a,zt.2.2.2.2=b;intros X;intro S H hX G;obtain⟨hh,r⟩:=H;have st:=λc hc=>(hh c hc).step S (hX c hc) G;refine⟨λc hc=>(st c hc).1,?_⟩;cases it with
 |list j=>
  revert j;intros j;intro hX hh r st;injection r with r l hz;obtain⟨e,hz⟩:=hz;injection hz with hz o hz;obtain⟨ho,q⟩:=hz
  exact⟨l,G.idx e,o,(st a (.head _)).2 o ho,q⟩
 |range n=>
  revert n;intros n;intro hX hh r st;injection r with r x left hz;obtain⟨ho,q⟩:=hz
  exact⟨x,left,(st a (.head _)).2 _ ho,q⟩
 |enum j=>
  revert j;intros j;intro hX hh r st;injection r with r l old hz;obtain⟨e,ho,⟨o,ho',q⟩,ne⟩:=hz
  revert o;intros o;intro ho' q;exact⟨l,old,G.idx e,(st a (.head _)).2 _ ho,⟨o,(st b (.tail _ (.head _))).2 o ho',q⟩,ne⟩
 |keys j n ep=>
  revert j n ep;intros j n ep;intro hX hh r st;injection r with r l hz;obtain⟨e,hz⟩:=hz;injection hz with hz o hz;obtain⟨ho,q⟩:=hz
  exact⟨l,G.idx e,o,(st a (.head _)).2 o ho,q⟩
theorem Goes.hid(hk:∀ c o,c∉Y->h.get? c=some o->h'.get? c=some o)(hY:∀ c∈Y,∃ o' vs,h'.get? c=some o'/\o'.data=.fields vs)(hf:∀ c∈Y,∀ o,h.get? c=some o->∃ vs,o.data=.fields vs){FR:List Addr}:Goes FR (X++Y) ρ ρ h h':=by
 refine⟨⟨[],by simp⟩,λc o e u x=>⟨o,hk c o (λq=>x (List.mem_append_right _ q)) e,.inl rfl⟩,λu q=>.inl q,λc hc o e=>?_⟩;by_cases q:c∈Y
 ·obtain⟨o',vs,e',d⟩:=hY c q;obtain⟨us,du⟩:=hf c q o e;exact⟨o',e',(λu u u z=>by rw[d] at z;cases z),λz=>LW du (z us)⟩
 ·exact⟨o,hk c o q e,id,id⟩
theorem Rep.hid(D:Rep w base ρ σ h)(hY:∀ c∈Y,Hid base ρ h c)(hk:∀ c o,c∉Y->h.get? c=some o->h'.get? c=some o):Rep w base ρ σ h':=by
 refine D.hidden λb o e c=>hk b o (λq=>?_) e;obtain⟨h1,h2,o',vs,e',d⟩:=hY b q;rw[e] at e';cases e';rcases c with c|c|⟨us,m,c⟩
 ·exact h1 c
 ·rw[h2] at c;cases c
 ·rw[c] at d;cases d
theorem sR(hY:∀ c∈Y,Hid base ρ h c)(hk:∀ c o,c∉Y->h.get? c=some o->h'.get? c=some o):∀ a vs n,h.get? a=some {cls:=.type "tuple",data:=.seq vs n}->h'.get? a=some {cls:=.type "tuple",data:=.seq vs n}:=λa vs n e=>
 hk a _ (λq=>by
  obtain⟨_,_,o',us,e',d⟩:=hY a q;rw[e] at e';cases e';cases d) e
noncomputable def wY:List String:=["enumerate","zip","dict_itemiterator","dict_reverseitemiterator","odict_iterator","itertools.zip_longest","itertools.pairwise"]
theorem mz{t:Expr}{x:Value}{o:Obj}{T:String}{vs:Array Value}{E:Value->Shared->Prop}{Q:Unit->Shared->Prop}(ho:s.heap.get? a=some o)(hc:o.cls=.type T)(hd:o.data=.fields vs)(hn:wY.contains T=false)(h:Q () s) :
  wpAny (model prog w) A (letOwnedTupleGo t (.ref a) x) Q E s:=by
 have key:wpAny (model prog w) A (do
   let(.ref r,.ref a):=(Value.ref a,x)|return
   let o<-load r
   match o.cls,o.data with
   |.type n,.fields vs=>
    if wY.contains n&&vs[0]?==some (rawInt a) then
     rule "for.unpacks-the-owned-tuple"
     updateField r 0 .none
   |_,_=>pure ()) Q E s:=by
  cases x<;>first|exact LC h|skip
  refine LB (wpAny_load ho ?_);rw[hc,hd];show wpAny _ _ (if (wY.contains T&&_)=true then _ else _) _ _ _;rw[hn,Bool.false_and,if_neg (by decide)];exact LC h
 unfold letOwnedTupleGo;cases t<;>first|exact key|exact LC h
def rF(prog:Program)(w:World)(base:Heap)(A:Around)(X:List Addr)(ρ:List Addr)(σ:ai)(s:Shared)(target:Expr)(it:It)(i:Nat)(a b:Addr)(r:Option V):Prop:=
 match r with
 |none=>∀ (Q:Option Value->Shared->Prop) E,(∀ h' tk,Rep w base ρ σ h'->(∀ c o,c∉hidden it a b->s.heap.get? c=some o->h'.get? c=some o)->Q none {s with heap:=h',toks:=tk})->wpAny (model prog w) A (pyNext (.ref a)) Q E s
 |some v=>∀ (Q:Option Value->Shared->Prop) (Qs:Value->Shared->Prop) E,(∀ x s₁,wpAny (model prog w) A (letOwnedTupleGo target (.ref a) x) (λu s2=>Qs x s2) E s₁->Q (some x) s₁) ->
    (∀ h' tk x,Goes (frs A) (X++hidden it a b) ρ ρ s.heap h'->Rep w base ρ σ h'->(∀ c o,c∉hidden it a b->s.heap.get? c=some o->h'.get? c=some o)->VR ρ h' v x->iy base it (i+1) ρ h' a b->Qs x {s with heap:=h',toks:=tk})->wpAny (model prog w) A (pyNext (.ref a)) Q E s
theorem nh(H:∀ c∈Y,Hid base ρ h c)(hk:∀ c o,c∉Y->h.get? c=some o->h'.get? c=some o)(hY:∀ c∈Y,∃ o' vs,h'.get? c=some o'/\o'.data=.fields vs){FR:List Addr}:Goes FR (X++Y) ρ ρ h h':=
 Goes.hid hk hY λc hc o e=>by
  obtain⟨_,_,o',vs,e',d⟩:=H c hc;rw[e] at e';cases e';exact⟨vs,d⟩
theorem yQ{j:Nat}{l:List V}{target:Expr}(D:Rep w base ρ σ s.heap)(R:c7 n A)(H:iy base (.list j) i ρ s.heap a b)(hj:σ[j]?=some (.list l))(hn1:1<=n:=by lia):rF prog w base A X ρ σ s target (.list j) i a b l[i]?:=by
 obtain⟨hh,la,hla,hit⟩:=H;obtain⟨vs,k,e,il,rl⟩:=D.list hj hla;have ha:=hh a (.head _);have ne:la≠a:=λq=>ha.1 (q▸LG hla);cases hx:l[i]? with
 |none=>
  intro Q E k;have hx':vs[i]?=none:=by
   rw[Array.getElem?_eq_none_iff];have:=rl.size;rw[List.getElem?_eq_none_iff] at hx;lia
  refine wpAny_pyNext_list_end (R.handled hn1) hit il hx' λh' hb=>?_;have hk:∀ c o,c∉hidden (.list j) a b->s.heap.get? c=some o->h'.get? c=some o:=λc o nc ec=>hb c o (λz=>nc (z▸.head _)) ec;exact k h' s.toks (D.hid hh hk) hk
 |some v=>
  intro Q Qs E q1 q2;obtain⟨x,hx',rx⟩:=rl.get hx;rw[Array.getElem?_toList] at hx';refine wpAny_pyNext_list_item hit il hx' λh' hit' hs=>q1 _ _ ?_;have hk:∀ c o,c∉hidden (.list j) a b->s.heap.get? c=some o->h'.get? c=some o:=λc o nc ec=>(hs.2 c λz=>nc (z▸.head _)).trans ec;obtain⟨o',ho',hc',hd'⟩:=id hit';refine mz ho' hc' hd' (by decide) (q2 h' s.toks x (nh hh hk λc hc=>?_) (D.hid hh hk) hk (rx.mono (λu u z=>z) (sR hh hk)) ⟨λc hc=>?_,la,hla,hit'⟩)
  ·simp[hidden] at hc;subst hc;exact⟨o',_,ho',hd'⟩
  ·simp[hidden] at hc;subst hc;exact⟨ha.1,ha.2.1,o',_,ho',hd'⟩
theorem wC{m:Int}{target:Expr}(D:Rep w base ρ σ s.heap)(R:c7 n A)(H:iy base (.range m) i ρ s.heap a b)(hn1:1<=n:=by lia):rF prog w base A X ρ σ s target (.range m) i a b (if (i:Int)<m then some (.int i) else none):=by
 revert D R H hn1;revert prog w base n A σ ρ s i a b X m target;apply b9;generalize cM=zt;generalize zt.1.1.1=prog,zt.1.1.2.1=w,zt.1.1.2.2=base,zt.1.2.1.1=n,zt.1.2.1.2=A,zt.1.2.2.1=σ,zt.1.2.2.2=ρ,zt.2.1.1=s,zt.2.1.2.1=i,zt.2.1.2.2=a,zt.2.2.1.1=b,zt.2.2.1.2=X,zt.2.2.2.1=m,zt.2.2.2.2=target;intro D R H hn1;obtain⟨hh,hz⟩:=H;injection hz with hz x left hz;obtain⟨hit,rfl,hm⟩:=hz
 have ha:=hh a (.head _);split
 ·rename_i hlt;intros Q Qs E;intro q1 q2;refine wpAny_pyNext_range_item hit (by lia) λh' hit' hs=>q1 _ _ ?_;have hk:∀ c o,c∉hidden (.range m) a b->s.heap.get? c=some o->h'.get? c=some o:=λc o nc ec=>(hs.2 c λz=>nc (z▸.head _)).trans ec;refine mz (T:="range_iterator") hit' rfl rfl (by decide) (q2 h' _ _ (nh hh hk λc hc=>?_) (D.hid hh hk) hk (.int _ _) ⟨λc hc=>?_,_,_,hit',by simp,by lia⟩)
  ·simp[hidden] at hc;subst hc;exact⟨_,_,hit',rfl⟩
  ·simp[hidden] at hc;subst hc;exact⟨ha.1,ha.2.1,_,_,hit',rfl⟩
 ·rename_i hlt;intros Q E;intro k;refine wpAny_pyNext_range_end (R.handled hn1) hit (by lia) ?_;intros h';intro hb;have hk:∀ c o,c∉hidden (.range m) a b->s.heap.get? c=some o->h'.get? c=some o:=λc o nc ec=>hb c o (λz=>nc (z▸.head _)) ec;exact k h' s.toks (D.hid hh hk) hk
theorem yD{j m ep:Nat}{l:List (Int×V)}{target:Expr}(D:Rep w base ρ σ s.heap)(R:c7 n A)(H:iy base (.keys j m ep) i ρ s.heap a b)(hj:σ[j]?=some (.idd l ep))(hm:l.length=m)(hn1:1<=n:=by lia) :
  rF prog w base A X ρ σ s target (.keys j m ep) i a b (l[i]?.map λp=>.int p.1):=by
 obtain⟨hh,da,hda,hit⟩:=H;obtain⟨es,e,rl,nd⟩:=D.obj _ _ _ hj hda;obtain⟨xs,hd,q⟩:=nT (lQ prog w) e rl nd;have ha:=hh a (.head _);have hxl:xs.length=m:=q.length.trans hm;rw[<- hxl] at hit;cases hx:l[i]? with
 |none=>
  intro Q E k;have hx':xs[i]?=none:=by
   rw[List.getElem?_eq_none_iff] at hx ⊢;lia
  refine wpAny_pyNext_dict_end (R.handled hn1) hit hd hx' λh' hb=>?_;have hk:∀ c o,c∉hidden (.keys j m ep) a b->s.heap.get? c=some o->h'.get? c=some o:=λc o nc ec=>hb c o (λz=>nc (z▸.head _)) ec;exact k h' s.toks (D.hid hh hk) hk
 |some p=>
  intro Q Qs E q1 q2;have hx':∃ y,xs[i]?=some (p.1,y):=by
   have e1:(xs.map (·.1))[i]?=some p.1:=by rw[q.keys,List.getElem?_map,hx];rfl
   rw[List.getElem?_map] at e1;obtain⟨z,hz,e2⟩:=Lw e1;exact⟨z.2,by rw[hz,<- e2]⟩
  obtain⟨y,hx'⟩:=hx';refine wpAny_pyNext_dict_item hit hd hx' λkey h' hkey hit' hs=>q1 _ _ ?_;have hk:∀ c o,c∉hidden (.keys j m ep) a b->s.heap.get? c=some o->h'.get? c=some o:=λc o nc ec=>(hs.2 c λz=>nc (z▸.head _)).trans ec;obtain⟨o',ho',hc',hd'⟩:=id hit';obtain⟨t,rfl⟩:=(lQ prog w _ _).mpr hkey;rw[hxl] at hit';refine mz ho' hc' hd' (by decide) (q2 h' s.toks _ (nh hh hk λc hc=>?_) (D.hid hh hk) hk (.int _ _) ⟨λc hc=>?_,da,hda,hit'⟩)
  ·simp[hidden] at hc;subst hc;exact⟨o',_,ho',hd'⟩
  ·simp[hidden] at hc;subst hc;exact⟨ha.1,ha.2.1,o',_,ho',hd'⟩
theorem zh{j:Nat}{l:List V}{ts:List Expr}{k':Nat}{pos:Pos}(D:Rep w base ρ σ s.heap)(R:c7 n A)(H:iy base (.enum j) i ρ s.heap a b)(hj:σ[j]?=some (.list l))(hn1:1<=n:=by lia) :
  rF prog w base A X ρ σ s (.Tuple ts k' pos) (.enum j) i a b (l[i]?.map λv=>.tup [.int i,v]):=by
 obtain⟨hh,la,old,hla,hen,hit,ne⟩:=H;obtain⟨vs,k,e,il,rl⟩:=D.list hj hla;have ha:=hh a (.head _);have hb:=hh b (.tail _ (.head _));cases hx:l[i]? with
 |none=>
  intro Q E k;have hx':vs[i]?=none:=by
   rw[Array.getElem?_eq_none_iff];have:=rl.size;rw[List.getElem?_eq_none_iff] at hx;lia
  refine wpAny_pyNext_enum_end (R.handled hn1) hen hit il hx' λh' hb=>?_;have hk:∀ c o,c∉hidden (.enum j) a b->s.heap.get? c=some o->h'.get? c=some o:=λc o nc ec=>hb c o (λz=>nc (z▸.tail _ (.head _))) ec;exact k h' s.toks (D.hid hh hk) hk
 |some v=>
  intro Q Qs E q1 q2;obtain⟨x,hx',rx⟩:=rl.get hx;rw[Array.getElem?_toList] at hx';refine wpAny_pyNext_enum_item hen hit il hx' ne λh1a he1a hit1 ht1a hz1 hk1=>q1 _ _ ?_;refine wpAny_letOwnedTupleGo_enum he1a λh' he' hs'=>?_;have hk:∀ c o,c∉hidden (.enum j) a b->s.heap.get? c=some o->h'.get? c=some o:=λc o nc ec=>
   (hs'.2 c λz=>nc (z▸.head _)).trans (hk1 c o (λz=>nc (z▸.head _)) (λz=>nc (z▸.tail _ (.head _))) ec)
  have hit':h'.IsListIter b la (i+1):=by
   obtain⟨o,ho,q⟩:=hit1;exact⟨o,(hs'.2 b ne.symm).trans ho,q⟩
  obtain⟨ob,hob,_,hdb⟩:=id hit';have hza:s.heap.objs.size≠a:=L7 (LM hen);have hY:∀ c∈hidden (.enum j) a b,∃ o' vs,h'.get? c=some o'/\o'.data=.fields vs:=λc hc=>by
   simp[hidden] at hc;rcases hc with rfl|rfl
   ·exact⟨_,_,he',rfl⟩
   ·exact⟨_,_,hob,hdb⟩
  refine q2 h' _ _ (nh hh hk hY) (D.hid hh hk) hk ?_ ⟨λc hc=>?_,la,x,hla,?_,hit',ne⟩
  ·refine .tup (n:=0) ((hs'.2 _ hza).trans ht1a) (.cons (.int _ _) (.cons (rx.mono (λu u z=>z) (sR hh hk)) .nil))
  ·obtain⟨o',us,eo,d⟩:=hY c hc;have:=hh c hc;exact⟨this.1,this.2.1,o',us,eo,d⟩
  ·simpa using he'
def iB(it:It)(t:Expr):Prop:=∀ j,it=.enum j->∃ ts k p,t=.Tuple ts k p
theorem gi{target:Expr}{r:Option V}(D:Rep w base ρ σ s.heap)(R:c7 n A)(H:iy base it i ρ s.heap a b)(ht:iB it target)(e:bF it i σ=some (.ok r,σ'))(hn1:1<=n:=by omega):σ'=σ/\rF prog w base A X ρ σ s target it i a b r:=by
 revert D R H ht e hn1;revert target r;revert prog w base n A σ σ' ρ s it i a b X;apply b9;generalize cM=zt;generalize zt.1.1.1=prog,zt.1.1.2.1=w,zt.1.1.2.2=base,zt.1.2.1.1=n,zt.1.2.1.2=A,zt.1.2.2.1=σ,zt.1.2.2.2=σ',zt.2.1.1=ρ,zt.2.1.2.1=s,zt.2.1.2.2=it,zt.2.2.1.1=i,zt.2.2.1.2=a,zt.2.2.2.1=b,zt.2.2.2.2=X;intros target r;intro D R H ht e hn1;cases it with
 |list j=>
  revert j;intros j;intro H ht e;injection fO e with e l hz;obtain⟨hj,hr⟩:=hz
  cases hr;exact⟨rfl,yQ D R H hj⟩
 |range m=>
  revert m;intros m;intro H ht e;cases (show some (Except.ok (if (i:Int)<m then some (V.int i) else none),σ)=some (.ok r,σ') from e);exact⟨rfl,wC D R H⟩
 |enum j=>
  revert j;intros j;intro H ht e;injection fO e with e l hz;obtain⟨hj,hr⟩:=hz
  cases hr;injection ht j rfl with x0 ts k p hz
  cases hz;exact⟨rfl,zh D R H hj⟩
 |keys j m ep=>
  revert j m ep;intros j m ep;intro H ht e;injection tD e with e l ep' hz;obtain⟨hj,hz⟩:=hz
  obtain⟨hh,hr⟩:=aE hz;clear hz;cases hr;obtain⟨rfl,hm⟩:ep'=ep/\l.length=m:=hh;exact⟨rfl,yD D R H hj hm⟩
end
def iN(it:It)(g:V->M ay)(f:Nat):Nat->M ay:=
 Nat.rec (motive:=λu=>Nat->M ay) (λu u=>none) (λu ih i σ=>(jz (bF it i σ)).bind λp=>p.1.elim (some (.ok .next,p.2)) λv=>(jz (g v p.2)).bind λq=>ay.casesOn q.1 (ih (i+1) q.2) λx=>some (.ok (.ret x),q.2)) f
section
variable{it:It}{g:V->M ay}{f i:Nat}{σ σ' σ'' σf:ai}{c:ay}{v:V}
theorem yc{r:Except V ay×ai}(h:iN it g (f+1) i σ=some r):(∃ σ',bF it i σ=some (.ok none,σ')/\(.ok .next,σ')=r) \/
  ∃ v σ',bF it i σ=some (.ok (some v),σ')/\((∃ σ'',g v σ'=some (.ok .next,σ'')/\iN it g f (i+1) σ''=some r)\/∃ x σ'',g v σ'=some (.ok (.ret x),σ'')/\(.ok (.ret x),σ'')=r):=by
 obtain⟨o,σ',h1,h⟩:=iL h;cases o with
 |none=>exact .inl ⟨σ',h1,LF h⟩
 |some v=>
  obtain⟨c,σ'',h2,h⟩:=iL (show (jz (g v σ')).bind _=some r from h);cases c with
  |next=>exact .inr ⟨v,σ',h1,.inl ⟨σ'',h2,h⟩⟩
  |ret x=>exact .inr ⟨v,σ',h1,.inr ⟨x,σ'',h2,LF h⟩⟩
theorem HP(h:iN it g (f+1) i σ=some (.ok c,σf)):(bF it i σ=some (.ok none,σf)/\c=.next) \/
  ∃ v σ',bF it i σ=some (.ok (some v),σ')/\((∃ σ'',g v σ'=some (.ok .next,σ'')/\iN it g f (i+1) σ''=some (.ok c,σf))\/∃ x,g v σ'=some (.ok (.ret x),σf)/\c=.ret x):=
 (yc h).imp (λz=>z.elim λτ z=>by cases z.2;exact⟨z.1,rfl⟩) λz=>z.imp λv z=>z.imp λτ z=>⟨z.1,z.2.imp id λy=>y.imp λx y=>y.elim λτ y=>by cases y.2;exact⟨y.1,rfl⟩⟩
theorem Io{e:V}:iN it g f i σ≠some (.error e,σ'):=by
 revert i σ
 induction f with
 |zero=>exact λh=>nomatch h
 |succ f ih=>exact λh=>(yc h).elim (λz=>z.elim λτ z=>nomatch z.2) λz=>z.elim λv z=>z.elim λτ z=>z.2.elim (λy=>y.elim λτ y=>ih y.2) λy=>y.elim λx y=>y.elim λτ y=>nomatch y.2
theorem Gl(h:bF it i σ=some (.ok none,σ')):iN it g (f+1) i σ=some (.ok .next,σ'):=fV h
theorem EX(h:bF it i σ=some (.ok (some v),σ'))(h2:g v σ'=some (.ok .next,σ'')):iN it g (f+1) i σ=iN it g f (i+1) σ'':=(fV h).trans (fV h2)
end
def Ig(base h0a:Heap)(it:It)(ρ:List Addr)(h:Heap)(x:Value):Prop:=match it with
 |.list j=>∃ a,ρ[j]?=some a/\x=.ref a
 |.keys j _ _=>∃ a,ρ[j]?=some a/\x=.ref a
 |.range n=>0<=n/\n<=1000/\∃ r t u v,x=.ref r/\IsRange h r 0 n 1 t u v
 |.enum _=>∃ e b,x=.ref e/\iy base it 0 ρ h e b/\h0a.get? e=none/\h0a.get? b=none
def Ko(it:It)(σ:ai):Prop:=match it with
 |.list j=>∃ l,σ[j]?=some (.list l)
 |.keys j m ep=>∃ l,σ[j]?=some (.idd l ep)/\l.length=m/\m<=1000
 |_=>True
section
variable(prog:Program)(w:World)(base:Heap)(n:Nat)(env:Env)(le:List (Str×V))
def mR(e:Expr)(m:M It):Prop:=
 ∀ (A:Around) (σ:ai) (ρ:List Addr) (s:Shared),Pre w base n A env le σ ρ s.heap->Runs prog w base A [] (eval e env) s ρ (m σ) (λρ' h' it x=>Ig base s.heap it ρ' h' x)/\∀ it σ',m σ=some (.ok it,σ')->Ko it σ'
end
section
variable{prog:Program}{w:World}{base:Heap}{n:Nat}{env:Env}{le keep:List (Str×V)}{K:Frag}{mg mb:Str->Option Value}{α β γ δ:Type}{A:Around}{σ σ':ai}{ρ ρ':List Addr}{s:Shared}{h h' h0a:Heap}{it:It}{i:Nat}{a b:Addr}{X Y:List Addr}
theorem pJ{c:Addr}{o:Obj}{vs:Array Value}(D:Rep w base ρ σ h)(hn:h.get? c=none)(e:h'.get? c=some o)(d:o.data=.fields vs):Hid base ρ h' c:=
 by
 refine⟨λq=>?_,?_,o,vs,e,d⟩
 ·obtain⟨o',e',_⟩:=D.there q;rw[hn] at e';cases e'
 ·cases q:base.get? c with
  |none=>rfl
  |some o'=>rw[D.sub _ _ q] at hn;cases hn
theorem dD(h:Heap):h.get? h.objs.size=none:=by
 cases e:h.get? h.objs.size with
 |none=>rfl
 |some o=>exact LW (LM e) (LV _)
theorem qt{x:Value}{Q:Value->Shared->Prop}{E:Value->Shared->Prop}(D:Rep w base ρ σ s.heap)(hs:∀ c,s.heap.get? c=none->h0a.get? c=none)(H:Ig base h0a it ρ s.heap x)(hi:Ko it σ)
 (k:∀ h' tk a b,(∀ c o,s.heap.get? c=some o->h'.get? c=some o)->Rep w base ρ σ h'->iy base it 0 ρ h' a b->(∀ c∈hidden it a b,h0a.get? c=none)->Q (.ref a) {s with heap:=h',toks:=tk}):wpAny (model prog w) A (pyIter x) Q E s:=by
 revert D hs H hi k;revert Q E;revert prog w base A σ ρ s h0a it x;apply cK;generalize dm=zt;generalize zt.1.1.1=prog,zt.1.1.2=w,zt.1.2.1=base,zt.1.2.2.1=A,zt.1.2.2.2=σ,zt.2.1.1=ρ,zt.2.1.2=s,zt.2.2.1=h0a,zt.2.2.2.1=it,zt.2.2.2.2=x;intros Q E;intro D hs H hi k;cases it with
 |list j=>
  revert j;intros j;intro H hi k;injection hi with hi l hl
  injection H with H la hz;obtain⟨hla,rfl⟩:=hz
  injection D.list hl hla with x0 vs u3 hz;obtain⟨e,il,rl⟩:=hz
  have eN:=LK s.heap (o:={cls:=.type "list_iterator",data:=.fields #[.ref la,.int 0 0]}) rfl;refine wpAny_pyIter_list il (k _ s.toks s.heap.objs.size 0 (λc o q=>aP _ _ q) (D.keeps aP) ⟨λc hc=>?_,la,hla,⟨_,eN,rfl,rfl⟩⟩ ?_)
  ·simp[hidden] at hc;subst hc;exact pJ D (dD _) eN rfl
  ·intros c;intro hc;simp[hidden] at hc;subst hc;exact hs _ (dD _)
 |range m=>
  revert m;intros m;intro H hi k;obtain⟨h0,h1,hz⟩:=H;injection hz with hz r t u v hz;obtain⟨rfl,hr⟩:=hz
  have hsz:Builtin.Range.rangeSize 0 m 1=m:=by
   rw[rangeSize_one];split<;>lia
  have eN:=LK s.heap (o:={cls:=.type "range_iterator",data:=.fields #[rawInt 0,rawInt (Builtin.Range.rangeSize 0 m 1),rawInt 1]}) rfl;refine wpAny_pyIter_range hr (small_one (by decide) (by decide) (by lia) (by lia)) (k _ s.toks s.heap.objs.size 0 (λc o q=>aP _ _ q) (D.keeps aP) ⟨λc hc=>?_,0,_,eN,rfl,by rw[hsz];simp⟩ ?_)
  ·simp[hidden] at hc;subst hc;exact pJ D (dD _) eN rfl
  ·intros c;intro hc;simp[hidden] at hc;subst hc;exact hs _ (dD _)
 |enum j=>
  revert j;intros j;intro H hi k;injection H with H e b hz;obtain⟨rfl,hI,n1,n2⟩:=hz
  obtain⟨hh,hz⟩:=id hI;injection hz with hz l old hz;obtain⟨hl,he,hit,ne⟩:=hz
  refine wpAny_pyIter_enum he (k s.heap s.toks e b (λ_ _ q=>q) D hI ?_);intros c;intro hc;simp[hidden] at hc;rcases hc with hz|hz
  ·obtain rfl:=hz;exact n1
  ·obtain rfl:=hz;exact n2
 |keys j m ep=>
  revert j m ep;intros j m ep;intro H hi k;injection hi with hi l hz;obtain⟨hl,hm,hm2⟩:=hz
  injection H with H da hz;obtain⟨hda,rfl⟩:=hz
  injection D.obj _ _ _ hl hda with x0 es hz;obtain⟨e,rl,nd⟩:=hz
  injection nT (lQ prog w) e rl nd with x0 xs hz;obtain⟨hd,q⟩:=hz
  have eN:=LK s.heap (o:={cls:=.type "dict_keyiterator",data:=.fields #[.ref da,.int 0 0,.int xs.length 0,.int ep 0]}) rfl;refine wpAny_pyIter_dict (low_ne D (LG hda)) hd (k _ s.toks s.heap.objs.size 0 (λc o q=>aP _ _ q) (D.keeps aP) ⟨λc hc=>?_,da,hda,⟨_,eN,rfl,?_⟩⟩ ?_)
  ·simp[hidden] at hc;subst hc;exact pJ D (dD _) eN rfl
  ·rw[q.length,hm];rfl
  ·intros c;intro hc;simp[hidden] at hc;subst hc;exact hs _ (dD _)
theorem br.hid(Y':br env le ρ h)(hY:∀ c∈Y,Hid base ρ h c)(hk:∀ c o,c∉Y->h.get? c=some o->h'.get? c=some o):br env le ρ h':=by
 have nL:env.locals∉Y:=λq=>(hY _ q).lD Y' (.head _);have nC:∀ p∈env.cells,p.2∉Y:=λp hp q=>by
  obtain⟨_,_,o,vs,e,d⟩:=hY _ q;obtain⟨_,_,v,o',e',d'⟩:=Y'.offC p hp;rw[e] at e';cases e';rw[d] at d';cases d'
 have vr:∀ {v:V} {x:Value},VR ρ h v x->VR ρ h' v x:=λr=>r.mono (λ_ _ z=>z) (sR hY hk);obtain⟨m,⟨o,es,ep,ho,q⟩,hv⟩:=Y'.ns;refine⟨⟨m,⟨o,es,ep,hk _ _ nL ho,q⟩,λx v e kk=>?_⟩,λx v e kk=>?_,Y'.kinds,Y'.offL,λp hp=>?_,Y'.apart,Y'.full,Y'.fn,Y'.gl,Y'.bl⟩
 ·obtain⟨val,e1,r⟩:=hv x v e kk;exact⟨val,e1,vr r⟩
 ·obtain⟨c,val,e1,⟨oc,e2,e3⟩,r⟩:=Y'.cell x v e kk;exact⟨c,val,e1,⟨oc,hk _ _ (nC _ (LJ e1)) e2,e3⟩,vr r⟩
 ·obtain⟨a,b,v,oc,e2,e3⟩:=Y'.offC p hp;exact⟨a,b,v,oc,hk _ _ (nC _ hp) e2,e3⟩
theorem Goes.done{FR:List Addr}(G:Goes FR (X++Y) ρ ρ' h0a h)(hY:∀ c∈Y,h0a.get? c=none)(hk:∀ c o,c∉Y->h.get? c=some o->h'.get? c=some o):Goes FR X ρ ρ' h0a h':=by
 have nY:∀ c o,h0a.get? c=some o->c∉Y:=λc o e q=>by rw[hY c q] at e;cases e
 refine⟨G.pre,λc o e nr nx=>?_,G.fresh,λc hc o e=>?_⟩
 ·obtain⟨o',e',q⟩:=G.keep c o e nr (λz=>(Ly z).elim nx (nY c o e));exact⟨o',hk c o' (nY c o e) e',q⟩
 ·obtain⟨o',e',q⟩:=G.xs c (List.mem_append_left _ hc) o e;exact⟨o',hk c o' (nY c o e) e',q⟩
theorem Goes.more{FR:List Addr}(G:Goes FR X ρ ρ' h h')(hY:∀ c∈Y,c∉ρ):Goes FR (X++Y) ρ ρ' h h':=
 G.mono (λ_ _ _ q=>q) (λ_ _ _ q=>List.mem_append_left _ q) λc o _ q=>(Ly q).imp id (hY c)
theorem Au{R:Result->Shared->Prop}{target:Expr}{x:Value}{body orelse:List Stmt}(I:Nat->Shared->Prop)
 (turn:∀ n s,I n s->wpAny (model prog w) A (pyNext x) (λr s₁=>match r with
   |none=>wpAny (model prog w) A (execs orelse env) (λf s3=>R (.ok f) s3) (notedBy (model prog w) A env λe s'=>R (.error e) s') s₁
   |some v=>wpAny (model prog w) A (letOwnedTupleGo target x v) (λ_ s1'=>wpAny (model prog w) A (assign target env v) (λ_ s2=>wpAny (model prog w) A (execs body env) (λf s3=>match f with
     |.next|.cont=>∃ m,m<n/\I m s3
     |.brk=>R (.ok .next) s3
     |.ret v=>R (.ok (.ret v)) s3) (notedBy (model prog w) A env λe s'=>R (.error e) s') s2) (notedBy (model prog w) A env λe s'=>R (.error e) s') s1') (notedBy (model prog w) A env λe s'=>R (.error e) s') s₁) (notedBy (model prog w) A env λe s'=>R (.error e) s') s)
 (n:Nat)(h:I n s):codeAny (model prog w) A (.forLoop target x body orelse env) R s:=by
 revert turn h;revert I n;revert prog w env A s R target x body orelse;apply cK;generalize dm=zt;generalize zt.1.1.1=prog,zt.1.1.2=w,zt.1.2.1=env,zt.1.2.2.1=A,zt.1.2.2.2=s,zt.2.1.1=R,zt.2.1.2=target,zt.2.2.1=x,zt.2.2.2.1=body,zt.2.2.2.2=orelse;intros I n;intro turn h;refine codeAny_loop' rfl I ?_ n h;intros n s;intro hI;show wpAny _ _ ((PySem.forTurn target x body orelse env).onRaise (λx=>do noteFrame x env;theTreesLotGoes x)) _ _ s;refine wpAny_noted ?_;simp only[PySem.forTurn];refine LB (LX (LB (wpAny_onRaise (LY (turn n s hI) ?_ λ_ _ h'=>LX h'))));intros r s₁;intro h1a;cases r with
 |none=>exact LC (.inr ⟨rfl,codeAny_block h1a⟩)
 |some v=>
  revert v;intros v;intro h1a;refine LB (LY h1a ?_ λ_ _ h'=>h');intros u1 s1';intro h1a;refine LB (LY h1a (λ_ s2 h2a=>LB (LY h2a ?_ λ_ _ h'=>h')) λ_ _ h'=>h');intros f s3;intro h3a;rename_i u2;revert u2 s2;apply uU;generalize nj Unit=u2,oO Shared=s2;intro h2a;cases f with
  |next=>exact LC (.inl ⟨rfl,h3a⟩)
  |cont=>exact LC (.inl ⟨rfl,h3a⟩)
  |brk=>exact LC h3a
  |ret v=>
   revert v;intros v;intro h3a;exact LC h3a
theorem dz.Az{t:Sem Flow}{rest:List Stmt}{m:M ay}{f:M ay}{st:Stmt}(he:exec st env=t)(h1:dz prog w base n env le t m (qc env le))(h2:aJ prog w base n env le keep rest f) :
  aJ prog w base n env le keep (st::rest) (do match<-m with|.next=>f|.ret v=>pure (.ret v)):=by
 intro A σ ρ s P H;show Runs _ _ _ _ _ (exec st env>>=λfl=>match fl with|.next=>execs rest env|f=>pure f) _ _ _ _;rw[he];refine Runs.bind (h1 A σ ρ s P H) λc σ' _ ρ' h' tk fl G D q=>?_;cases c with
 |next=>
  obtain⟨rfl,Y⟩:=q;exact h2 A σ' ρ' _ (P.jq G D Y) H
 |ret v=>
  obtain⟨x,rfl,r⟩:=q;exact Runs.pure D ⟨x,rfl,r⟩
structure xB(prog:Program)(w:World)(base:Heap)(n:Nat)(env:Env)(le:List (Str×V))(A:Around)(s₀:Shared)(ρ0:List Addr)(it:It)(a b:Addr)(i:Nat)(σ:ai)(ρ:List Addr)(s:Shared):Prop where
 at_:∃ h tk,s={s₀ with heap:=h,toks:=tk}
 G:Goes (frs A) (own env++hidden it a b) ρ0 ρ s₀.heap s.heap
 D:Rep w base ρ σ s.heap
 Y:br env le ρ s.heap
 I:iy base it i ρ s.heap a b
theorem J7{s₀:Shared}{ρ0 ρ2 ρ3:List Addr}{h2a h3a:Heap}(T:xB prog w base n env le A s₀ ρ0 it a b i σ ρ s)(G':Goes (frs A) (own env++hidden it a b) ρ ρ s.heap h')(I:∀ c∈hidden it a b,Hid base ρ h' c)
 (G2a:Goes (frs A) (own env) ρ ρ2 h' h2a)(G3a:Goes (frs A) (own env) ρ2 ρ3 h2a h3a):Goes (frs A) (own env++hidden it a b) ρ0 ρ3 s₀.heap h3a:=
 ((T.G.trans G').trans (G2a.more λc hc=>(I c hc).1)).trans (G3a.more λc hc=>let⟨h1,_,_,_,e,_⟩:=I c hc;G2a.gu e h1)
theorem EJ[Nonempty γ]{t:Expr}{pat:V->Option γ}{ext:γ->List (Str×V)}{body:List Stmt}{g:γ->M ay}{s₀:Shared}{ρ0:List Addr}{c:ay}{σf:ai}{Rz:Result->Shared->Prop}(ht:eE prog w base n env (own env) t pat ext)
 (hb:∀ p,aJ prog w base n env (ext p++le) le body (g p))(htk:iB it t)(S0:fj base A ρ0 s₀.heap)(R0:c7 n A)(H:Head base env A)(hn:∀ c∈hidden it a b,s₀.heap.get? c=none)
 (k:∀ ρ' h' tk fl,Goes (frs A) (own env) ρ0 ρ' s₀.heap h'->Rep w base ρ' σf h'->qc env le ρ' h' c fl->Rz (.ok fl) {s₀ with heap:=h',toks:=tk}){fuel i:Nat}{σ:ai}{ρ:List Addr}{s:Shared}
 (T:xB prog w base n env le A s₀ ρ0 it a b i σ ρ s)(hr:iN it (λv=>bR pat v g) fuel i σ=some (.ok c,σf))(hn1:1<=n:=by lia):codeAny (model prog w) A (.forLoop t (.ref a) body [] env) Rz s:=by
 revert ht hb htk S0 R0 H hn k T hr hn1;revert fuel i σ ρ s;revert prog w base n env le A it a b t pat ext body g s₀ ρ0 c σf Rz;revert γ;apply Ia;generalize PT _=cT;apply nS;generalize gm=zt;generalize zt.1.1.1.1=prog,zt.1.1.1.2=w,zt.1.1.2.1=base,zt.1.1.2.2.1=n,zt.1.1.2.2.2=env,zt.1.2.1.1=le,zt.1.2.1.2=A,zt.1.2.2.1=it,zt.1.2.2.2.1=a,zt.1.2.2.2.2=b,zt.2.1.1.1=t,zt.2.1.1.2=pat,zt.2.1.2.1=ext,zt.2.1.2.2.1=body,zt.2.1.2.2.2=g,zt.2.2.1.1=s₀,zt.2.2.1.2=ρ0,zt.2.2.2.1=c,zt.2.2.2.2.1=σf,zt.2.2.2.2.2=Rz;intros fuel i σ ρ;intros s;intro ht hb htk S0 R0 H hn k T hr hn1;refine Au (λm s'=>∃ i σ ρ,iN it (λv=>bR pat v g) m i σ=some (.ok c,σf)/\xB prog w base n env le A s₀ ρ0 it a b i σ ρ s') ?_ fuel ⟨i,σ,ρ,hr,T⟩;intros m s';intro hI;injection hI with hI i σ ρ hz;obtain⟨hr,T⟩:=hz
 obtain _|m:=m
 ·exact nomatch hr
 injection T.at_ with x0 h1a tk1 es
 revert m;intros m;intro hr;replace hr:=HP hr;rcases hr with hz|hz
 ·obtain⟨hx,rfl⟩:=hz;obtain⟨rfl,N⟩:=gi (prog:=prog) (X:=own env) T.D R0 T.I htk hx;refine N _ _ λh' tk D' hk=>wpAny_execs_nil ?_;have:=k ρ h' tk .next (T.G.done hn hk) D' ⟨rfl,T.Y.hid T.I.1 hk⟩;rw[es];exact this
 ·injection hz with hz v σ' hz;obtain⟨hx,hr⟩:=hz
  obtain⟨rfl,N⟩:=gi (prog:=prog) (X:=own env) T.D R0 T.I htk hx;refine N _ (λx s2=>wpAny (model prog w) A (assign t env x) (λ_ s2=>wpAny (model prog w) A (execs body env) _ _ s2) _ s2) _ (λx s₁ q=>q) ?_;intros h' tk x;intro G' D' hk rx I';have P':Pre w base n A env le σ' ρ h':=⟨D',(S0.step T.G).step G',R0,T.Y.hid T.I.1 hk⟩
  rcases hr with hz|hz
  ·injection hz with hz σ2 hz;obtain⟨hg,hr⟩:=hz
   injection uf hg with x0 p hz;obtain⟨hp,hg⟩:=hz
   refine(ht le A σ' ρ {s' with heap:=h',toks:=tk} v x p P' H.may rx hp) _ _ ?_;intros ρ2 h2a tk2 u1;intro G2a D2a Y2;have P2:=P'.jq G2a D2a Y2;refine(hb p A σ' ρ2 {s' with heap:=h2a,toks:=tk2} P2 H).ok hg _ _ ?_;intros ρ3 h3a tk3 fl;intro G3a D3a F3a;obtain⟨rfl,Y3⟩:=F3a;have I2a:=I'.step P'.S (λc hc=>(I'.1 c hc).lD P'.Y) G2a;exact⟨m,Nat.lt_succ_self m,i+1,σ2,ρ3,hr,⟨h3a,tk3,by rw[es]⟩,J7 T G' I'.1 G2a G3a,D3a,Y3,I2a.step P2.S (λc hc=>(I2a.1 c hc).lD P2.Y) G3a⟩
  ·injection hz with hz u hz;obtain⟨hg,rfl⟩:=hz
   injection uf hg with x0 p hz;obtain⟨hp,hg⟩:=hz
   refine(ht le A σ' ρ {s' with heap:=h',toks:=tk} v x p P' H.may rx hp) _ _ ?_;intros ρ2 h2a tk2 u2;intro G2a D2a Y2;refine(hb p A σ' ρ2 {s' with heap:=h2a,toks:=tk2} (P'.jq G2a D2a Y2) H).ok hg _ _ ?_;intros ρ3 h3a tk3 fl;intro G3a D3a F3a;injection F3a with F3a y hz;obtain⟨rfl,ry⟩:=hz
   have:=k ρ3 h3a tk3 (.ret y) ((J7 T G' I'.1 G2a G3a).done hn λ_ _ _ q=>q) D3a ⟨y,rfl,ry⟩;rw[es];exact this
theorem jN[Nonempty γ]{t iter:Expr}{pat:V->Option γ}{ext:γ->List (Str×V)}{body rest:List Stmt}{pos:Pos}{mi:M It}{g:γ->M ay}{f:M ay}{fuel:Nat}(ht:eE prog w base n env (own env) t pat ext)(hi:mR prog w base n env le iter mi)
 (hb:∀ p,aJ prog w base n env (ext p++le) le body (g p))(h2:aJ prog w base n env le keep rest f)(hs:∀ x,foldedSetIterable iter env x=pure x)(hok:∀ σ it σ',mi σ=some (.ok it,σ')->iB it t)(hn1:1<=n:=by omega) :
  aJ prog w base n env le keep (.For t iter body [] pos::rest) (do match<-(do let it<-mi;iN it (λv=>bR pat v g) fuel 0) with|.next=>f|.ret v=>pure (.ret v)):=by
 refine dz.Az rfl ?_ h2;intro A σ ρ s P H;obtain⟨z,zi⟩:=hi A σ ρ s P;rw[M.bind_eq];cases hm:mi σ with
 |none=>trivial
 |some r=>
  obtain⟨r,σ1⟩:=r;cases r with
  |error v=>
   rw[hm] at z;have z':=Runs.lift P.Y z;exact λQ E k=>wpAny_For (z' _ E k) hs
  |ok it=>
   rw[hm] at z;have hio:=zi it σ1 hm;have htk:=hok σ it σ1 hm;show Runs _ _ _ _ _ _ _ _ (iN it (λv=>bR pat v g) fuel 0 σ1) _;have z':=Runs.vn z;cases hr:iN it (λv=>bR pat v g) fuel 0 σ1 with
   |none=>trivial
   |some r=>
    obtain⟨r,σf⟩:=r;cases r with
    |error=>exact LW hr Io
    |ok c=>
     intro Q E k;refine wpAny_For (z' _ E λρ1 h1a tk1 x G1a D1a q=>?_) hs;obtain⟨_,src⟩:=q;have P1:=P.step G1a D1a;have hnone:∀ c,h1a.get? c=none->s.heap.get? c=none:=λc e=>by
      cases q:s.heap.get? c with
      |none=>rfl
      |some o=>
       obtain⟨o',e'⟩:=G1a.there D1a q;rw[e] at e';cases e'
     refine qt (s:={s with heap:=h1a,toks:=tk1}) D1a hnone src hio λh2a tk2 a b hk D2a I2a hn=>?_;have G2a:Goes (frs A) [] ρ1 ρ1 h1a h2a:=Goes.keeps hk;have P2:=P1.step G2a D2a;have G12a:=G1a.trans G2a;have Gown:Goes (frs A) (own env) ρ ρ1 s.heap h2a:=G12a.mono (λ_ _ _ z=>z) (λ_ _ _ z=>nomatch z) λa o _ ha=>.inr (gA P.Y ha);have hoff:∀ c∈hidden it a b,c∉ρ:=λc hc q=>by
      obtain⟨o,e,_⟩:=P.D.there q;rw[hn c hc] at e;cases e
     exact EJ ht hb htk P.S P.R H hn (λρ' h' tk fl G D F=>k ρ' h' tk fl G D F) ⟨⟨h2a,tk2,rfl⟩,Gown.more hoff,D2a,P2.Y,I2a⟩ hr
end
def je(t:M Bool)(g:M ay):Nat->M ay
 |0=>M.fail
 |f+1=>λσ=>match t σ with
  |some (.ok true,σ')=>match g σ' with
   |some (.ok .next,σ'')=>je t g f σ''
   |some (.ok (.ret x),σ'')=>some (.ok (.ret x),σ'')
   |some (.error e,σ'')=>some (.error e,σ'')
   |none=>none
  |some (.ok false,σ')=>some (.ok .next,σ')
  |some (.error e,σ')=>some (.error e,σ')
  |none=>none
section
variable{prog:Program}{w:World}{base:Heap}{n:Nat}{env:Env}{le keep:List (Str×V)}{K:Frag}{mg mb:Str->Option Value}{α β γ δ:Type}{A:Around}{σ σ':ai}{ρ ρ':List Addr}{s:Shared}{h h' h0a:Heap}{X Y:List Addr}
def Tb(h:Heap)(x:Value):Prop:=∃ e,x=.ref e/\sW h e
theorem p6{X:List Addr}{v:V}{x:Value}{fs:List Env}{l:Option Addr}{e:Addr}{B h'':Heap}(hA:A.frames=some fs)(hl:l=headOf A)(N:ez B h' h'' e fs l)(F:jk base A s.heap ρ' h' e B)(S:fj base A ρ' h')(D:Rep w base ρ' σ' h')(G:Goes (frs A) X ρ ρ' s.heap h')(hn:s.heap.get? e=none){ie:Nat}(hi:ρ'[ie]?=some e)(hx:∃ c d,σ'[ie]?=some (.exc c d false)) :
  Goes (frs A) X ρ ρ' s.heap h''/\Rep w base ρ' σ' h''/\jk base A s.heap ρ' h'' e B:=by
 obtain⟨fs',q,ff⟩:=F.fr;rw[hA] at q;cases q;have hfr:fs.filterMap (·.frame)=frs A:=by unfold frs;rw[hA];rfl
 exact⟨N.goes ff F hfr G hn,N.rep F hfr S.off S.cls D hi hx,N.flight F hA hl D λa o q=>G.there D q⟩
theorem xF{X:List Addr}{v:V}{x:Value}{tk:Nat}{Q:Value->Shared->Prop}(H:Head base env A)(hk:env.scope.kind=.function)(S:fj base A ρ' h')(D:Rep w base ρ' σ' h')(G:Goes (frs A) X ρ ρ' s.heap h')(e:fT base A s.heap ρ' σ' h' v x)
 (k:∀ h'' tk,Goes (frs A) X ρ ρ' s.heap h''->Rep w base ρ' σ' h''->fT base A s.heap ρ' σ' h'' v x->Tb h'' x->Q x {s with heap:=h'',toks:=tk}) :
  notedBy (model prog w) A env (λx s'=>Q x s') x {s with heap:=h',toks:=tk}:=by
 revert H hk S D G e k;revert Q;revert prog w base env A σ' ρ ρ' s h' X v x tk;apply b9;generalize cM=zt;generalize zt.1.1.1=prog,zt.1.1.2.1=w,zt.1.1.2.2=base,zt.1.2.1.1=env,zt.1.2.1.2=A,zt.1.2.2.1=σ',zt.1.2.2.2=ρ,zt.2.1.1=ρ',zt.2.1.2.1=s,zt.2.1.2.2=h',zt.2.2.1.1=X,zt.2.2.1.2=v,zt.2.2.2.1=x,zt.2.2.2.2=tk;intros Q;intro H hk S D G e k;injection e with e i e B hz;obtain⟨rfl,rfl,hi,hen,hx,F⟩:=hz
 injection H.fr with x0 fs hA
 injection (id F.fr) with x0 fs' hz;obtain⟨q,ff⟩:=hz
 rw[hA] at q;cases q;have hh:headOf A=some env.locals:=by unfold headOf;rw[hA];simp[H.frame]
 refine oB (s:={s with heap:=h',toks:=tk}) hA ff H.frame F.stays F.new (hh▸F.trace) ?_;intros h'';intro N tb;obtain⟨G',D',F'⟩:=p6 (v:=.obj i) (x:=.ref e) hA hh.symm N F S D G hen hi hx;exact k h'' tk G' D' ⟨i,e,B,rfl,rfl,hi,hen,hx,F'⟩ ⟨e,rfl,tb⟩
theorem HJ{X:List Addr}{v:V}{x:Value}{tk:Nat}{Q:Value->Shared->Prop}(H:Head base env A)(hk:env.scope.kind=.function)(S:fj base A ρ' h')(D:Rep w base ρ' σ' h')(G:Goes (frs A) X ρ ρ' s.heap h')(e:fT base A s.heap ρ' σ' h' v x)(tb:Tb h' x)
 (k:∀ h'' tk,Goes (frs A) X ρ ρ' s.heap h''->Rep w base ρ' σ' h''->fT base A s.heap ρ' σ' h'' v x->Q x {s with heap:=h'',toks:=tk}) :
  cameBackBy (model prog w) A env Q x {s with heap:=h',toks:=tk}:=by
 revert H hk S D G e tb k;revert Q;revert prog w base env A σ' ρ ρ' s h' X v x tk;apply b9;generalize cM=zt;generalize zt.1.1.1=prog,zt.1.1.2.1=w,zt.1.1.2.2=base,zt.1.2.1.1=env,zt.1.2.1.2=A,zt.1.2.2.1=σ',zt.1.2.2.2=ρ,zt.2.1.1=ρ',zt.2.1.2.1=s,zt.2.1.2.2=h',zt.2.2.1.1=X,zt.2.2.1.2=v,zt.2.2.2.1=x,zt.2.2.2.2=tk;intros Q;intro H hk S D G e tb k;injection e with e i e B hz;obtain⟨rfl,rfl,hi,hen,hx,F⟩:=hz
 injection tb with tb e' hz;obtain⟨q,tb⟩:=hz
 cases q;injection H.fr with x0 fs hA
 injection (id F.fr) with x0 fs' hz;obtain⟨q,ff⟩:=hz
 rw[hA] at q;cases q;have hh:headOf A=some env.locals:=by unfold headOf;rw[hA];simp[H.frame]
 injection (id tb) with x0 oe vs T hz;obtain⟨he,hd,h1⟩:=hz
 refine LB (wpAny_field (s:={s with heap:=h',toks:=tk}) he hd h1 ?_);rw[if_neg (by simp)];refine lM (s:={s with heap:=h',toks:=tk}) (l':=some env.locals) F.stays ff F.trace tb (.inr H.frame) ?_;intros h'';intro N tb';obtain⟨G',D',F'⟩:=p6 (v:=.obj i) (x:=.ref e) hA hh.symm N F S D G hen hi hx;exact k h'' tk G' D' ⟨i,e,B,rfl,rfl,hi,hen,hx,F'⟩
theorem CQ{test:Expr}{body rest:List Stmt}{pos:Pos}{mt:M Bool}{g f:M ay}{fuel:Nat}(hc:kD prog w base n env le test mt)(hb:aJ prog w base n env le le body g)(h2:aJ prog w base n env le keep rest f) :
  aJ prog w base n env le keep (.While test body [] pos::rest) (do match<-je mt g fuel with|.next=>f|.ret v=>pure (.ret v)):=by
 revert hc hb h2;revert fuel;revert prog w base n env le keep test body rest pos mt g f;apply b9;generalize cM=zt;generalize zt.1.1.1=prog,zt.1.1.2.1=w,zt.1.1.2.2=base,zt.1.2.1.1=n,zt.1.2.1.2=env,zt.1.2.2.1=le,zt.1.2.2.2=keep,zt.2.1.1=test,zt.2.1.2.1=body,zt.2.1.2.2=rest,zt.2.2.1.1=pos,zt.2.2.1.2=mt,zt.2.2.2.1=g,zt.2.2.2.2=f;intros fuel;intro hc hb h2;refine dz.Az rfl ?_ h2;intros A σ ρ s;intro P H;cases hr:je mt g fuel σ with
 |none=>trivial
 |some r=>
  revert r;intros r;intro hr;obtain⟨r,σf⟩:=r;revert r σf;intros r σf;intro hr;have key:∀ (Rz:Result->Shared->Prop),
    (∀ c,r=.ok c->∀ ρ' h' tk fl,Goes (frs A) (own env) ρ ρ' s.heap h'->Rep w base ρ' σf h'->qc env le ρ' h' c fl->Rz (.ok fl) {s with heap:=h',toks:=tk}) ->
    (∀ v,r=.error v->∀ ρ' h' tk x,Goes (frs A) (own env) ρ ρ' s.heap h'->Rep w base ρ' σf h'->fT base A s.heap ρ' σf h' v x->Tb h' x->Rz (.error x) {s with heap:=h',toks:=tk}) ->
    codeAny (model prog w) A (.whileLoop test body [] env) Rz s:=by
   intro Rz kok kerr;refine codeAny_whileLoop (λm s'=>∃ σ1 ρ1 h1a tk1,s'={s with heap:=h1a,toks:=tk1}/\je mt g m σ1=some (r,σf)/\Goes (frs A) (own env) ρ ρ1 s.heap h1a/\Pre w base n A env le σ1 ρ1 h1a) (λm s' hI=>?_) fuel ⟨σ,ρ,s.heap,s.toks,rfl,hr,.refl,P⟩;obtain⟨σ1,ρ1,h1a,tk1,rfl,hr,G1a,P1⟩:=hI;cases m with
   |zero=>cases hr
   |succ m=>
    have zt:=hc A σ1 ρ1 {s with heap:=h1a,toks:=tk1} P1;unfold je at hr;cases ht:mt σ1 with
    |none=>rw[ht] at hr;cases hr
    |some rt=>
     obtain⟨rt,σ2⟩:=rt;rw[ht] at hr zt;cases rt with
     |error v=>
      cases hr;refine zt _ _ λρ' h' tk x G D e=>?_;have Gx:Goes (frs A) (own env) ρ1 ρ' h1a h':=G.mono (λj j j z=>z) (λj j j z=>nomatch z) λa o j ha=>.inr (gA P1.Y ha);exact xF (s:=s) (Q:=λx s'=>Rz (.error x) s') H P.Y.fn (P1.S.step G) D (G1a.trans Gx) (e.older G1a P1.D) λh'' tk G D e tb=>kerr v rfl _ h'' tk x G D e tb
     |ok b=>
      refine zt _ _ λρ' h' tk b' G D eb=>?_;have eb':b'=b:=eb;subst eb';have Gx:Goes (frs A) (own env) ρ1 ρ' h1a h':=G.mono (λj j j z=>z) (λj j j z=>nomatch z) λa o j ha=>.inr (gA P1.Y ha);have P2:Pre w base n A env le σ2 ρ' h':=P1.step G D;cases b' with
      |false=>
       cases hr;exact wpAny_execs_nil (kok .next rfl ρ' h' tk .next (G1a.trans Gx) D ⟨rfl,P2.Y⟩)
      |true=>
       have zb:=hb A σ2 ρ' {s with heap:=h',toks:=tk} P2 H;simp only at hr;cases hg:g σ2 with
       |none=>rw[hg] at hr;cases hr
       |some rg=>
        obtain⟨rg,σ3⟩:=rg;rw[hg] at hr zb;cases rg with
        |error v=>
         cases hr;refine zb _ _ λρ3 h3a tk3 x G3a D3a e=>?_;have G12:=G1a.trans Gx;exact xF (s:=s) (Q:=λx s'=>Rz (.error x) s') H P.Y.fn (P2.S.step G3a) D3a (G12.trans G3a) (e.older G12 P2.D) λh'' tk G D e tb=>kerr v rfl _ h'' tk x G D e tb
        |ok c=>
         refine zb _ _ λρ3 h3a tk3 fl G3a D3a F3a=>?_;have G13:=(G1a.trans Gx).trans G3a;cases c with
         |next=>
          obtain⟨rfl,Y3⟩:=F3a;exact⟨m,Nat.lt_succ_self m,σ3,ρ3,h3a,tk3,rfl,hr,G13,P2.jq G3a D3a Y3⟩
         |ret u=>
          cases hr;obtain⟨y,rfl,ry⟩:=F3a;exact kok (.ret u) rfl ρ3 h3a tk3 (.ret y) G13 D3a ⟨y,rfl,ry⟩
  cases r with
  |ok c=>
   revert c;intros c;intro hr key;intros Q E;intro k;exact wpAny_While (key _ (λc' e ρ' h' tk fl G D F=>by cases e;exact k ρ' h' tk fl G D F) λv e=>by cases e)
  |error v=>
   revert v;intros v;intro hr key;intros Q E;intro k;refine wpAny_While (key _ (λc e=>by cases e) ?_);intros v';intro e;intros ρ' h' tk x;intro G D er tb;cases e;exact HJ H P.Y.fn (P.S.step G) D G er tb λh'' tk G D e=>k ρ' h'' tk x G D e
end
def bV(it:It)(g:V->M (Option V))(f:Nat):Nat->List V->M (List V):=
 Nat.rec (motive:=λu=>Nat->List V->M (List V)) (λu u u=>none) (λu ih i acc σ=>(jz (bF it i σ)).bind λp=>p.1.elim (some (.ok acc,p.2)) λv=>(jz (g v p.2)).bind λq=>q.1.elim (ih (i+1) acc q.2) λx=>if acc.length<=900 then ih (i+1) (acc++[x]) q.2 else none) f
section
variable{it:It}{g:V->M (Option V)}{m i:Nat}{l:List V}{σ σ' σ'' σf:ai}{lf:List V}{v x:V}
theorem vD{r:Except V (List V)×ai}(h:bV it g (m+1) i l σ=some r):(∃ σ',bF it i σ=some (.ok none,σ')/\(.ok l,σ')=r) \/
  ∃ v σ' q σ'',bF it i σ=some (.ok (some v),σ')/\g v σ'=some (.ok q,σ'')/\((q=none/\bV it g m (i+1) l σ''=some r)\/∃ x,q=some x/\l.length<=900/\bV it g m (i+1) (l++[x]) σ''=some r):=by
 obtain⟨o,σ',h1,h⟩:=iL h;cases o with
 |none=>exact .inl ⟨σ',h1,LF h⟩
 |some v=>
  obtain⟨c,σ'',h2,h⟩:=iL (show (jz (g v σ')).bind _=some r from h);cases c with
  |none=>exact .inr ⟨v,σ',none,σ'',h1,h2,.inl ⟨rfl,h⟩⟩
  |some x=>exact .inr ⟨v,σ',some x,σ'',h1,h2,.inr ⟨x,rfl,aE h⟩⟩
theorem EI(h:bV it g (m+1) i l σ=some (.ok lf,σf)):(bF it i σ=some (.ok none,σf)/\l=lf) \/
  ∃ v σ' r σ'',bF it i σ=some (.ok (some v),σ')/\g v σ'=some (.ok r,σ'')/\((r=none/\bV it g m (i+1) l σ''=some (.ok lf,σf))\/∃ x,r=some x/\l.length<=900/\bV it g m (i+1) (l++[x]) σ''=some (.ok lf,σf)):=
 (vD h).imp (λz=>z.elim λτ z=>by cases z.2;exact⟨z.1,rfl⟩) id
theorem Ae{e:V}:bV it g m i l σ≠some (.error e,σ'):=by
 revert i l σ
 induction m with
 |zero=>exact λh=>nomatch h
 |succ f ih=>exact λh=>(vD h).elim (λz=>z.elim λτ z=>nomatch z.2) λz=>z.elim λv z=>z.elim λτ z=>z.elim λq z=>z.elim λυ z=>z.2.2.elim (λy=>ih y.2) λy=>y.elim λx y=>ih y.2.2
theorem ES(h:bF it i σ=some (.ok none,σ')):bV it g (m+1) i l σ=some (.ok l,σ'):=fV h
theorem DM(h:bF it i σ=some (.ok (some v),σ'))(h2:g v σ'=some (.ok none,σ'')):bV it g (m+1) i l σ=bV it g m (i+1) l σ'':=(fV h).trans (fV h2)
theorem Dv(h:bF it i σ=some (.ok (some v),σ'))(h2:g v σ'=some (.ok (some x),σ''))(hl:l.length<=900):bV it g (m+1) i l σ=bV it g m (i+1) (l++[x]) σ'':=((fV h).trans (fV h2)).trans (if_pos hl)
end
noncomputable def bx(env:Env):List (Str×NameKind)->List (Str×Addr)->List (Str×Addr)
 |[],acc=>acc
 |(x,k)::r,acc=>bx env r (if k==.free then (x,(env.cells.lookup x).getD 0)::acc else acc)
section
variable{prog:Program}{w:World}{base:Heap}{n:Nat}{env:Env}{le keep:List (Str×V)}{K:Frag}{mg mb:Str->Option Value}{α β γ δ:Type}{A:Around}{σ σ':ai}{ρ ρ':List Addr}{s:Shared}{h h' h0a:Heap}{it:It}{i:Nat}{a b:Addr}{X Y:List Addr}
theorem nA:∀ (names:List (Str×NameKind)) (acc:List (Str×Addr)),(∀ p∈names,p.2=.free->∃ c,env.cells.lookup p.1=some c) ->
  (forIn names acc (λ(x:Str×NameKind) (cs:List (Str×Addr))=>if x.2==.free then cellOf env x.1>>=λc=>(pure (ForInStep.yield ((x.1,c)::cs)):Sem (ForInStep (List (Str×Addr)))) else pure (ForInStep.yield cs)))=pure (bx env names acc)
 |[],acc,_=>rfl
 |(x,k)::r,acc,h=>by
  rw[List.forIn_cons];simp only[];cases q:k==NameKind.free with
  |true=>
   obtain⟨c,hc⟩:=h (x,k) (.head _) (by simpa using q);have e:cellOf env x=pure c:=by unfold cellOf;rw[hc]
   simp only[if_true,e,pure_bind];rw[nA r _ λp hp=>h p (.tail _ hp)];simp only[bx,q,if_true,hc,Option.getD_some]
  |false=>
   simp only[Bool.false_eq_true,if_false,pure_bind];rw[nA r _ λp hp=>h p (.tail _ hp)];simp only[bx,q,Bool.false_eq_true,if_false]
theorem lY{scope:Scope}(h:∀ p∈scope.names,p.2=.free->∃ c,env.cells.lookup p.1=some c):closureFor scope env=pure (bx env scope.names []):=by
 have e:closureFor scope env=(forIn scope.names [] (λ(x:Str×NameKind) (cs:List (Str×Addr))=>if x.2==.free then cellOf env x.1>>=λc=>(pure (ForInStep.yield ((x.1,c)::cs)):Sem (ForInStep (List (Str×Addr)))) else pure (ForInStep.yield cs))>>=λr=>pure r):=rfl;rw[e,nA _ _ h,pure_bind]
theorem t6:∀ {names:List (Str×NameKind)} {acc:List (Str×Addr)} {p:Str×Addr},p∈bx env names acc->p∈acc\/((p.1,NameKind.free)∈names/\p.2=(env.cells.lookup p.1).getD 0)
 |[],acc,p,h=>.inl h
 |(x,k)::r,acc,p,h=>by
  unfold bx at h;rcases t6 h with q|⟨q,e⟩
  ·split at q
   ·rename_i hk;rcases Lx q with rfl|q
    ·exact .inr ⟨by rw[show k=NameKind.free from by simpa using hk];exact .head _,rfl⟩
    ·exact .inl q
   ·exact .inl q
  ·exact .inr ⟨.tail _ q,e⟩
theorem BW:∀ {names:List (Str×NameKind)} {acc:List (Str×Addr)} {p:Str×Addr},p∈acc->p∈bx env names acc
 |[],_,_,h=>h
 |(x,k)::r,acc,p,h=>by
  unfold bx;refine BW ?_;split
  ·exact .tail _ h
  ·exact h
theorem zY:∀ {names:List (Str×NameKind)} {acc:List (Str×Addr)} {x:Str},(x,NameKind.free)∈names->∃ c,(x,c)∈bx env names acc
 |(y,k)::r,acc,x,h=>by
  unfold bx;rcases Lx h with e|e
  ·cases e;exact⟨_,BW (by simp;exact .inl rfl)⟩
  ·exact zY e
theorem lookup_all{l:List (Str×Addr)}{x:Str}{c d:Addr}(h:(x,c)∈l)(hd:∀ p∈l,p.1=x->p.2=d):l.lookup x=some d:=by
 induction l with
 |nil=>cases h
 |cons p l ih=>
  obtain⟨y,e⟩:=p;rw[List.lookup_cons];cases q:x==y with
  |true=>rw[show e=d from hd (y,e) (.head _) (by simpa using (by simpa using q:x=y).symm)]
  |false=>
   rcases Lx h with z|z
   ·cases z;simp at q
   ·exact ih z λp hp=>hd p (.tail _ hp)
theorem lC{names:List (Str×NameKind)}{x:Str}(h:(x,NameKind.free)∈names){c:Addr}(e:env.cells.lookup x=some c):(bx env names []).lookup x=some c:=by
 obtain⟨d,hd⟩:=zY (env:=env) (acc:=[]) h;refine lookup_all hd λp hp q=>?_;rcases t6 hp with z|⟨_,z⟩
 ·cases z
 ·rw[z,q,e];rfl
theorem iY{names:List (Str×NameKind)}(h:∀ p∈names,p.2=.free->∃ c,env.cells.lookup p.1=some c){p:Str×Addr}(hp:p∈bx env names []):p∈env.cells:=by
 rcases t6 hp with z|⟨z,e⟩
 ·cases z
 ·obtain⟨c,hc⟩:=h _ z rfl;rw[hc] at e;have:=LJ hc;obtain⟨x,d⟩:=p;simp only[Option.getD_some] at e;subst e;exact this
theorem p9:∀ {names:List (Str×NameKind)} {acc:List (Str×Addr)},(names.map (·.1)).Nodup->(∀ p∈acc,p.1∉names.map (·.1))->acc.Pairwise (λx y=>x.1≠y.1)->(bx env names acc).Pairwise (λx y=>x.1≠y.1)
 |[],_,_,_,h=>h
 |(x,k)::r,acc,hn,ha,h=>by
  unfold bx;rw[List.map_cons,List.nodup_cons] at hn;refine p9 hn.2 (λp hp=>?_) ?_
  ·split at hp
   ·rcases Lx hp with rfl|hp
    ·exact hn.1
    ·exact λq=>ha p hp (.tail _ q)
   ·exact λq=>ha p hp (.tail _ q)
  ·split
   ·exact List.pairwise_cons.mpr ⟨λp hp e=>ha p hp (by rw[<- e];exact .head _),h⟩
   ·exact h
theorem mO{scope:Scope}{x:Str}{k:NameKind}(e:(relabel scope env).names.lookup x=some k):scope.names.lookup x=some k\/(scope.names.lookup x=some .free/\k=.cell):=by
 revert e;revert env scope x k;intros env scope x k;intro e;unfold relabel at e;simp only at e;generalize scope.names=names at e
 induction names with
 |nil=>cases e
 |cons p r ih=>
  revert p r;intros p r;intro ih e;obtain⟨y,k'⟩:=p;revert y k';intros y k';intro e;rw[List.map_cons] at e;rw[List.lookup_cons];by_cases c:(k'==NameKind.free&&env.scope.kind==.function&&env.kindOf y==some .cell)=true
  ·rw[if_pos c,List.lookup_cons] at e;cases q:x==y with
   |true=>
    rw[q] at e;cases e;simp only[Bool.and_eq_true] at c;exact .inr ⟨by rw[show k'=NameKind.free from by simpa using c.1.1],rfl⟩
   |false=>rw[q] at e;exact ih e
  ·rw[if_neg c,List.lookup_cons] at e;cases q:x==y with
   |true=>rw[q] at e;cases e;exact .inl rfl
   |false=>rw[q] at e;exact ih e
theorem br.comp{scope:Scope}{C:Addr}{lec:List (Str×V)}(Y:br env le ρ h)(hC:h'.Ns C λu=>none)(hk:∀ b o,h.get? b=some o->h'.get? b=some o)(hCn:h.get? C=none)(hCρ:C∉ρ)(hf:∀ p∈scope.names,p.2=.free->env.kindOf p.1=some .cell\/env.kindOf p.1=some .free)
 (hnc:∀ p∈scope.names,p.2≠.cell)(hnd:(scope.names.map (·.1)).Nodup)(hl:∀ p∈lec,scope.names.lookup p.1=some .free)(hw:∀ x v,lec.lookup x=some v->le.lookup x=some v)(hkind:scope.kind=.function) :
  br (compEnvC scope (bx env scope.names []) C env) lec ρ h':=by
 have hfull:∀ p∈scope.names,p.2=.free->∃ c,env.cells.lookup p.1=some c:=λp hp e=>Y.full _ (hf p hp e);have vr:∀ {v:V} {x:Value},VR ρ h v x->VR ρ h' v x:=λr=>r.mono (λu u z=>z) λu u u z=>hk _ _ z;have free:∀ x v,lec.lookup x=some v->scope.names.lookup x=some .free:=λx v e=>hl _ (LJ e);have kinds:∀ x v,lec.lookup x=some v->env.kindOf x=some .cell\/env.kindOf x=some .free:=λx v e=>hf _ (LJ (free x v e)) rfl;refine⟨⟨_,hC,λx v e q=>?_⟩,λx v e q=>?_,λx v e=>?_,hCρ,λp hp=>?_,?_,λx q=>?_,hkind,Y.gl,Y.bl⟩
 ·rcases mO q with z|⟨_,z⟩
  ·rw[free x v e] at z;cases z
  ·cases z
 ·obtain⟨c,val,e1,⟨o,e2,e3⟩,r⟩:=Y.cell x v (hw x v e) (kinds x v e);exact⟨c,val,lC (LJ (free x v e)) e1,⟨o,hk _ _ e2,e3⟩,vr r⟩
 ·have f:=free x v e;have:∃ k,(relabel scope env).names.lookup x=some k/\(k=.cell\/k=.free):=by
   unfold relabel;simp only;generalize scope.names=names at f
   induction names with
   |nil=>cases f
   |cons p r ih=>
    obtain⟨y,k'⟩:=p;rw[List.lookup_cons] at f;rw[List.map_cons];by_cases c:(k'==NameKind.free&&env.scope.kind==.function&&env.kindOf y==some .cell)=true
    ·rw[if_pos c,List.lookup_cons];cases q:x==y with
     |true=>exact⟨_,rfl,.inl rfl⟩
     |false=>rw[q] at f;exact ih f
    ·rw[if_neg c,List.lookup_cons];cases q:x==y with
     |true=>rw[q] at f;cases f;exact⟨_,rfl,.inr rfl⟩
     |false=>rw[q] at f;exact ih f
  obtain⟨k,e,q⟩:=this;rcases q with rfl|rfl
  ·exact .inr (.inl e)
  ·exact .inr (.inr e)
 ·have hp':=iY hfull hp;obtain⟨a,b,v,o,e1,e2⟩:=Y.offC p hp';exact⟨a,λq=>(by rw[show p.2=C from q,hCn] at e1;cases e1),v,o,hk _ _ e1,e2⟩
 ·refine List.Pairwise.imp_of_mem ?_ (p9 (env:=env) (acc:=[]) hnd (λu h=>nomatch h) .nil);intro x y hx hy ne;exact mD Y.apart (iY hfull hx) (iY hfull hy) ne
 ·have hx:(x,NameKind.free)∈scope.names:=by
   rcases q with q|q
   ·rcases mO q with z|⟨z,_⟩
    ·exact LW rfl (hnc _ (LJ z))
    ·exact LJ z
   ·rcases mO q with z|⟨z,e⟩
    ·exact LJ z
    ·cases e
  obtain⟨c,hc⟩:=hfull _ hx rfl;exact⟨c,lC hx hc⟩
end
noncomputable def iQ(ifs:List Expr)(env:Env):Sem Bool:=forIn ifs true λc r=>if r=true then do let ok<-isTrue c env (eval c env);pure (ForInStep.yield ok) else pure (ForInStep.yield r)
def fu(base:Heap)(acc:Addr)(l:List V)(ρ:List Addr)(h:Heap):Prop:=acc∉ρ/\∃ vs k,h.get? acc=some (aO vs k)/\bq ρ h l vs.toList
section
variable{prog:Program}{w:World}{base:Heap}{n:Nat}{env:Env}{le keep:List (Str×V)}{K:Frag}{mg mb:Str->Option Value}{α β γ δ:Type}{A:Around}{σ σ':ai}{ρ ρ':List Addr}{s:Shared}{h h' h0a:Heap}{it:It}{i:Nat}{a b acc:Addr}{X Y:List Addr}{l:List V}
theorem br.frame(Y':br env le ρ h)(kL:∀ o,h.get? env.locals=some o->h'.get? env.locals=some o)(kC:∀ p∈env.cells,∀ o,h.get? p.2=some o->h'.get? p.2=some o)
 (tup:∀ a vs n,h.get? a=some {cls:=.type "tuple",data:=.seq vs n}->h'.get? a=some {cls:=.type "tuple",data:=.seq vs n}):br env le ρ h':=by
 have vr:∀ {v:V} {x:Value},VR ρ h v x->VR ρ h' v x:=λr=>r.mono (λ_ _ z=>z) tup;obtain⟨m,⟨o,es,ep,ho,q⟩,hv⟩:=Y'.ns;refine⟨⟨m,⟨o,es,ep,kL _ ho,q⟩,λx v e kk=>?_⟩,λx v e kk=>?_,Y'.kinds,Y'.offL,λp hp=>?_,Y'.apart,Y'.full,Y'.fn,Y'.gl,Y'.bl⟩
 ·obtain⟨val,e1,r⟩:=hv x v e kk;exact⟨val,e1,vr r⟩
 ·obtain⟨c,val,e1,⟨oc,e2,e3⟩,r⟩:=Y'.cell x v e kk;exact⟨c,val,e1,⟨oc,kC _ (LJ e1) _ e2,e3⟩,vr r⟩
 ·obtain⟨a,b,v,oc,e2,e3⟩:=Y'.offC p hp;exact⟨a,b,v,oc,kC _ hp _ e2,e3⟩
theorem fu.Eo(S:fj base A ρ h)(H:fu base acc l ρ h):acc∉frs A:=λq=>by
 obtain⟨_,vs,k,e,_⟩:=H;obtain⟨o,e',nf⟩:=S.cls acc q;rw[e] at e';cases e';exact nf _ _ rfl
theorem fu.step(D:Rep w base ρ σ h)(S:fj base A ρ h)(hX:ja X h)(H:fu base acc l ρ h)(nX:acc∉X)(G:Goes (frs A) X ρ ρ' h h'):fu base acc l ρ' h':=by
 have nf:=H.Eo S;obtain⟨h1,vs,k,e,r⟩:=H;exact⟨G.gu e h1,vs,k,G.exact e h1 nX nf,r.step D S hX G⟩
theorem fu.CY(H:fu base acc l ρ h)(hX:ja X h):acc∉X:=λq=>by
 obtain⟨_,vs,k,e,_⟩:=H;obtain⟨o,e',nf⟩:=hX acc q;rw[e] at e';cases e';exact nf _ _ rfl
theorem fu.zV(H:fu base acc l ρ h)(hY:∀ c∈Y,Hid base ρ h c):acc∉Y:=λq=>by
 obtain⟨_,vs,k,e,_⟩:=H;obtain⟨_,_,o,us,e',d⟩:=hY acc q;rw[e] at e';cases e';cases d
theorem DL{x:Value}{v:V}{Q:Value->Shared->Prop}{E:Value->Shared->Prop}(D:Rep w base ρ σ s.heap)(Y':br env le ρ s.heap)(hb:base.get? acc=none)(H:fu base acc l ρ s.heap)(hl:l.length<=900)(r:VR ρ s.heap v x)
 (k:∀ h',Heap.SameBut acc s.heap h'->(∀ FR:List Addr,Goes FR [acc] ρ ρ s.heap h')->Rep w base ρ σ h'->br env le ρ h'->fu base acc (l++[v]) ρ h'->Q .none {s with heap:=h'}) :
  wpAny (model prog w) A (call (.builtin "list.append") [.ref acc,x]) Q E s:=by
 obtain⟨h1,vs,k',e,rl⟩:=H;have hs:=rl.size;obtain⟨k2,hk2⟩:=jc (·.push x) vs k';have eU:=LN (Obj.mapSeq (·.push x)) e (by rw[hk2];rfl);rw[hk2] at eU;have il:s.heap.IsList acc vs:=⟨_,e,rfl,_,rfl⟩
 refine wpAny_call_entry slot_list_append il.typeIs entry_list_append ?_ (args_list_append _ _);show wpAny _ _ (updateSeq acc (·.push x)>>=λ_=>ret .none) _ _ s;refine LB (wpAny_updateSeq e rfl (LC ⟨.none,rfl,?_⟩) (fW (by omega)));have hsb:Heap.SameBut acc s.heap (s.heap.update acc (Obj.mapSeq (·.push x))):=LQ ..;refine k _ hsb (λFR=>⟨⟨[],by simp⟩,λc o q _ nx=>⟨o,(hsb.2 c λz=>nx (z▸.head _)).trans q,.inl rfl⟩,λ_ q=>.inl q,λc hc o q=>?_⟩) (D.hidden λc o q cc=>(hsb.2 c λz=>?_).trans q) ?_ ⟨h1,_,_,eU,?_⟩
 ·simp at hc;subst hc;rw[e] at q;cases q;exact⟨_,eU,λz=>LW rfl (z vs k'),λ_ _ q=>by simp[aO] at q⟩
 ·subst z;rcases cc with cc|cc|⟨us,m,cc⟩
  ·exact h1 cc
  ·rw[hb] at cc;cases cc
  ·rw[e] at q;cases q;simp[aO] at cc
 ·obtain⟨oL,e1,e2,_⟩:=iu Y';refine Y'.frame (λo q=>(hsb.2 _ λz=>?_).trans q) (λp hp o q=>(hsb.2 _ λz=>?_).trans q) (ig hsb e j0)
  ·rw[z,e] at e1;cases e1;exact e2 _ _ rfl
  ·obtain⟨_,_,v',o',e3,e4⟩:=Y'.offC p hp;rw[z,e] at e3;cases e3;simp[aO] at e4
 ·rw[Array.toList_push];exact(rl.same hsb e j0).append (.cons (r.same hsb e j0) .nil)
theorem Rep.adopt(D:Rep w base ρ σ h){o:aq}(hn:acc∉ρ)(hb:base.get? acc=none)(hlow:mainGlobals<acc)(r:jB w (ρ++[acc]) h acc o):Rep w base (ρ++[acc]) (σ++[o]) h:=by
 refine⟨by simp[D.len],?_,λi o' b e1 e2=>?_,D.sub,λb hb'=>?_,D.glob,λb hb'=>?_⟩
 ·rw[List.nodup_append];exact⟨D.nd,by simp,λx hx y hy=>by simp at hy;subst hy;exact λe=>hn (e▸hx)⟩
 ·rcases Nat.lt_or_ge i σ.length with hi|hi
  ·rw[List.getElem?_append_left hi] at e1;rw[List.getElem?_append_left (by rw[D.len];exact hi)] at e2;exact(D.obj i o' b e1 e2).move iU (λ_ _ _ z=>z) λ_ z=>z
  ·rw[List.getElem?_append_right hi] at e1;rw[List.getElem?_append_right (by rw[D.len];exact hi)] at e2;have h0:i - σ.length=0:=by
    rcases Nat.eq_zero_or_pos (i - σ.length) with q|q
    ·exact q
    ·rw[List.getElem?_eq_none (by simp;lia)] at e1;cases e1
   rw[h0] at e1;rw[D.len,h0] at e2;simp at e1 e2;subst e1;subst e2;exact r
 ·rcases Ly hb' with q|q
  ·exact D.off b q
  ·simp at q;subst q;exact hb
 ·rcases Ly hb' with q|q
  ·exact D.low b q
  ·simp at q;subst q;exact hlow
theorem Goes.adopt{FR:List Addr}(G:Goes FR X ρ ρ' h h')(hn:h.get? acc=none):Goes FR X ρ (ρ'++[acc]) h h':=by
 obtain⟨l,hl⟩:=G.pre;exact⟨⟨l++[acc],by rw[hl,List.append_assoc]⟩,G.keep,λc hc=>(Ly hc).elim (G.fresh c) λq=>by simp at q;subst q;exact .inr hn,G.xs⟩
theorem vC{Q:Value->Shared->Prop}{E:Value->Shared->Prop}(H:iy base it i ρ s.heap a b)(h:Q (.ref a) s):wpAny (model prog w) A (pyIter (.ref a)) Q E s:=by
 obtain⟨_,r⟩:=H;cases it with
 |list j=>obtain⟨l,_,hit⟩:=r;exact wpAny_pyIter_listiter hit h
 |range m=>obtain⟨x,left,hit,_⟩:=r;exact wpAny_pyIter_rangeiter hit h
 |enum j=>obtain⟨l,old,_,he,_⟩:=r;exact wpAny_pyIter_enum he h
 |keys j m ep=>obtain⟨d,_,hit⟩:=r;exact wpAny_pyIter_keyiter hit h
theorem CO{elt target iter:Expr}{ifs:List Expr}{gens:List Comprehension}{dep:Nat}{scope:Scope}{pos:Pos}{it acc:Value}{env:Env}(hg:gens[dep]?=some ⟨target,iter,ifs,0⟩)(hg2:gens[dep+1]?=none) :
  compTurn (.ListComp elt gens scope pos) dep it acc env=(standAt iter.pos>>=λ_=>pyNext it>>=λr=>match r with
   |none=>pure (.done .next)
   |some v=>letOwnedTupleGo target it v>>=λ_=>assign target env v>>=λ_=>iQ ifs env>>=λok=>if ok=true then
     (eval elt env>>=λx=>call (.builtin "list.append") [acc,x]>>=λ_=>pure ())>>=λ_=>again (.compLoop (.ListComp elt gens scope pos) dep it acc env)
    else again (.compLoop (.ListComp elt gens scope pos) dep it acc env)):=by
 revert hg hg2;revert env;revert elt target iter ifs gens dep scope pos it acc;apply cK;generalize dm=zt;generalize zt.1.1.1=elt,zt.1.1.2=target,zt.1.2.1=iter,zt.1.2.2.1=ifs,zt.1.2.2.2=gens,zt.2.1.1=dep,zt.2.1.2=scope,zt.2.2.1=pos,zt.2.2.2.1=it,zt.2.2.2.2=acc;intros env;intro hg hg2;unfold compTurn;simp only[hg,hg2];rfl
theorem Fz{R:Result->Shared->Prop}{elt target iter:Expr}{ifs:List Expr}{gens:List Comprehension}{dep:Nat}{scope:Scope}{pos:Pos}{x accv:Value}(hg:gens[dep]?=some ⟨target,iter,ifs,0⟩)(hg2:gens[dep+1]?=none)(I:Nat->Shared->Prop)
 (turn:∀ n s,I n s->wpAny (model prog w) A (pyNext x) (λr s₁=>match r with
   |none=>R (.ok .next) s₁
   |some v=>wpAny (model prog w) A (letOwnedTupleGo target x v) (λ_ s1'=>wpAny (model prog w) A (assign target env v) (λ_ s2=>
     wpAny (model prog w) A (iQ ifs env) (λok s3=>
      if ok=true then wpAny (model prog w) A (eval elt env) (λx s4=>
       wpAny (model prog w) A (call (.builtin "list.append") [accv,x]) (λ_ s5=>∃ m,m<n/\I m s5) (notedBy (model prog w) A env λe s'=>R (.error e) s') s4) (notedBy (model prog w) A env λe s'=>R (.error e) s') s3
      else ∃ m,m<n/\I m s3) (notedBy (model prog w) A env λe s'=>R (.error e) s') s2) (notedBy (model prog w) A env λe s'=>R (.error e) s') s1') (notedBy (model prog w) A env λe s'=>R (.error e) s') s₁) (notedBy (model prog w) A env λe s'=>R (.error e) s') s)
 (n:Nat)(h:I n s):codeAny (model prog w) A (.compLoop (.ListComp elt gens scope pos) dep x accv env) R s:=by
 revert hg hg2 turn h;revert x accv I n;revert prog w env A s R elt target iter ifs gens dep scope pos;apply b9;generalize cM=zt;generalize zt.1.1.1=prog,zt.1.1.2.1=w,zt.1.1.2.2=env,zt.1.2.1.1=A,zt.1.2.1.2=s,zt.1.2.2.1=R,zt.1.2.2.2=elt,zt.2.1.1=target,zt.2.1.2.1=iter,zt.2.1.2.2=ifs,zt.2.2.1.1=gens,zt.2.2.1.2=dep,zt.2.2.2.1=scope,zt.2.2.2.2=pos;intros x accv I n;intro hg hg2 turn h;refine codeAny_loop rfl I ?_ n h;intros n s;intro hI;show wpAny _ A ((PySem.compTurn (.ListComp elt gens scope pos) dep x accv env).onRaise (λx=>do noteFrame x env;theTreesLotGoes x)) _ _ s;refine wpAny_noted ?_;rw[CO hg hg2];refine LB (LX (LB (LY (turn n s hI) ?_ λ_ _ h'=>h')));intros r s₁;intro h1a;cases r with
 |none=>exact LC h1a
 |some v=>
  revert v;intros v;intro h1a;refine LB (LY h1a ?_ λ_ _ h'=>h');intros u1 s1';intro h1a;refine LB (LY h1a (λ_ s2 h2a=>LB (LY h2a ?_ λ_ _ h'=>h')) λ_ _ h'=>h');intros ok s3;intro h3a;rename_i u2;revert u2 s2;apply uU;generalize nj Unit=u2,oO Shared=s2;intro h2a;cases ok with
  |false=>exact LC ⟨rfl,h3a⟩
  |true=>
   exact LB (LB (LY h3a (λx s4 h4a=>LB (LY h4a (λ_ s5 h5a=>LC (LC ⟨rfl,h5a⟩)) λ_ _ h'=>h')) λ_ _ h'=>h'))
end
def eg{γ:Type}(mt:γ->M Bool)(me:γ->M V)(p:γ):M (Option V):=do
 if<-mt p then (do let x<-me p;pure (some x)) else pure none
structure qa(w:World)(base:Heap)(env:Env)(le:List (Str×V))(A:Around)(s₀:Shared)(ρ0:List Addr)(it:It)(a b acc:Addr)(i:Nat)(l:List V)(σ:ai)(ρ:List Addr)(s:Shared):Prop where
 at_:∃ h tk,s={s₀ with heap:=h,toks:=tk}
 G:Goes (frs A) (env.locals::acc::hidden it a b) ρ0 ρ s₀.heap s.heap
 D:Rep w base ρ σ s.heap
 Y:br env le ρ s.heap
 I:iy base it i ρ s.heap a b
 L:fu base acc l ρ s.heap
section
variable{prog:Program}{w:World}{base:Heap}{n:Nat}{env:Env}{le keep:List (Str×V)}{K:Frag}{mg mb:Str->Option Value}{α β γ δ:Type}{A:Around}{σ σ':ai}{ρ ρ':List Addr}{s:Shared}{h h' h0a:Heap}{it:It}{i:Nat}{a b acc:Addr}{X Y:List Addr}{l:List V}
theorem Bh{mt:γ->M Bool}{me:γ->M V}{p:γ}{r:Option V}(h:eg mt me p σ=some (.ok r,σ')):(mt p σ=some (.ok false,σ')/\r=none)\/∃ τ x,mt p σ=some (.ok true,τ)/\me p τ=some (.ok x,σ')/\r=some x:=by
 obtain⟨b,τ,h1,h2⟩:=M.inv h;cases b with
 |false=>cases h2;exact .inl ⟨h1,rfl⟩
 |true=>
  obtain⟨x,υ,h3,h4⟩:=M.inv h2;cases h4;exact .inr ⟨τ,x,h1,h3,rfl⟩
theorem qa.tZ{s₀:Shared}{ρ0:List Addr}(T:qa w base env le A s₀ ρ0 it a b acc i l σ ρ s)(hk:∀ c o,c∉hidden it a b->s.heap.get? c=some o->h'.get? c=some o):fu base acc l ρ h':=by
 obtain⟨n1,vs,k',e,rl⟩:=T.L;exact⟨n1,vs,k',hk _ _ (T.L.zV T.I.1) e,rl.mono (λu u z=>z) (sR T.I.1 hk)⟩
theorem nB(Y:br env le ρ h)(L:fu base acc l ρ h)(I:iy base it i ρ h a b):∀ c∈env.locals::acc::hidden it a b,c∉ρ:=λc hc=>by
 rcases Lx hc with rfl|hc
 ·exact Y.offL
 ·rcases Lx hc with rfl|hc
  ·exact L.1
  ·exact(I.1 c hc).1
theorem Goes.wide{Z:List Addr}(hZ:∀ c∈Z,c∈Y)(ho:∀ c∈Y,c∉ρ)(G:Goes (frs A) Z ρ ρ' h h'):Goes (frs A) Y ρ ρ' h h':=G.mono (λu u u q=>q) (λu u u q=>hZ _ q) λc o u q=>.inr (ho c q)
theorem Dg(hbC:base.get? env.locals=none):BR base env [env.locals]:=⟨.head _,λc hc=>Lz hc▸hbC,λc hc=>Lz hc▸.head _⟩
theorem AX{c:Addr}(q:c∈[env.locals]):c∈env.locals::Y:=Lz q▸.head _
theorem sy{ρ0:List Addr}(P:Pre w base n A env le σ ρ h)(L:fu base acc l ρ h)(I:iy base it i ρ h a b)(G0a:Goes (frs A) (env.locals::acc::hidden it a b) ρ0 ρ h0a h)(G:Goes (frs A) [] ρ ρ' h h')(D:Rep w base ρ' σ' h') :
  Pre w base n A env le σ' ρ' h'/\fu base acc l ρ' h'/\iy base it i ρ' h' a b/\Goes (frs A) (env.locals::acc::hidden it a b) ρ0 ρ' h0a h':=
 ⟨P.step G D,L.step P.D P.S ja.nil (λq=>nomatch q) G,I.step (X:=[]) P.S (λu u=>List.not_mem_nil) G,G0a.trans (G.wide (Z:=[]) (λu q=>nomatch q) (nB P.Y L I))⟩
theorem vY[Nonempty γ]{elt t iter:Expr}{ifs:List Expr}{gens:List Comprehension}{dep:Nat}{scope:Scope}{pos:Pos}{pat:V->Option γ}{ext:γ->List (Str×V)}{mt:γ->M Bool}{me:γ->M V}{s₀:Shared}{ρ0:List Addr}{lf:List V}{σf:ai}{Rz:Result->Shared->Prop}
 (hg:gens[dep]?=some ⟨t,iter,ifs,0⟩)(hg2:gens[dep+1]?=none)(ht:eE prog w base n env [env.locals] t pat ext)(hts:∀ p,bI prog w base n env (ext p++le) (iQ ifs env) (mt p) kc)(he:∀ p,aC prog w base n env (ext p++le) elt (me p))(hw:∀ p x v,le.lookup x=some v->(ext p++le).lookup x=some v)
 (htk:iB it t)(S0:fj base A ρ0 s₀.heap)(R0:c7 n A)(hbC:base.get? env.locals=none)(hba:base.get? acc=none)
 (k:∀ ρ' h'' h' tk,Goes (frs A) (env.locals::acc::hidden it a b) ρ0 ρ' s₀.heap h''->(∀ c o,c∉hidden it a b->h''.get? c=some o->h'.get? c=some o)->Rep w base ρ' σf h'->br env le ρ' h'->fu base acc lf ρ' h'->Rz (.ok .next) {s₀ with heap:=h',toks:=tk}){fuel i:Nat}{σ:ai}{ρ:List Addr}{s:Shared}{l:List V}
 (T:qa w base env le A s₀ ρ0 it a b acc i l σ ρ s)(hr:bV it (λv=>bR pat v (eg mt me)) fuel i l σ=some (.ok lf,σf))(hn1:1<=n:=by lia):codeAny (model prog w) A (.compLoop (.ListComp elt gens scope pos) dep (.ref a) (.ref acc) env) Rz s:=by
 revert hg hg2 ht hts he hw htk S0 R0 hbC hba k T hr hn1;revert fuel i σ ρ s l;revert prog w base n env le A it a b acc elt t iter ifs gens dep scope pos pat ext mt me s₀ ρ0 lf σf Rz;revert γ;apply Ia;generalize PT _=cT;apply zD;generalize fH=zt;generalize zt.1.1.1.1=prog,zt.1.1.1.2.1=w,zt.1.1.1.2.2=base,zt.1.1.2.1.1=n,zt.1.1.2.1.2=env,zt.1.1.2.2.1=le,zt.1.1.2.2.2=A,zt.1.2.1.1=it,zt.1.2.1.2.1=a,zt.1.2.1.2.2=b,zt.1.2.2.1.1=acc,zt.1.2.2.1.2=elt,zt.1.2.2.2.1=t,zt.1.2.2.2.2=iter,zt.2.1.1.1=ifs,zt.2.1.1.2.1=gens,zt.2.1.1.2.2=dep,zt.2.1.2.1.1=scope,zt.2.1.2.1.2=pos,zt.2.1.2.2.1=pat,zt.2.1.2.2.2=ext,zt.2.2.1.1=mt,zt.2.2.1.2.1=me,zt.2.2.1.2.2=s₀,zt.2.2.2.1.1=ρ0,zt.2.2.2.1.2=lf,zt.2.2.2.2.1=σf,zt.2.2.2.2.2=Rz;intros fuel i σ ρ;intros s l;intro hg hg2 ht hts he hw htk S0 R0 hbC hba k T hr hn1;refine Fz hg hg2 (λm s'=>∃ i l σ ρ,bV it (λv=>bR pat v (eg mt me)) m i l σ=some (.ok lf,σf)/\qa w base env le A s₀ ρ0 it a b acc i l σ ρ s') ?_ fuel ⟨i,l,σ,ρ,hr,T⟩;clear hr T;intros m s';intro hI;injection hI with hI i l σ ρ hz;obtain⟨hr,T⟩:=hz
 obtain⟨m',rfl⟩:∃ m',m=m'+1:=by
  cases m
  ·exact nomatch hr
  ·exact⟨_,rfl⟩
 have hr:=EI hr;have S:=S0.step T.G;have hM:=Dg hbC;injection T.at_ with x0 h1a tk1 es
 revert m';intros m';intro _ hr;have tZ:=λ{h'}=>T.tZ (h':=h');rcases hr with hr|hr
 ·obtain⟨hx,el⟩:=hr;refine(gi (prog:=prog) (X:=[env.locals,acc]) T.D R0 T.I htk hx).2 _ _ ?_;intros h' tk;intro D' hk;have:=k ρ s'.heap h' tk T.G hk ((gi (prog:=prog) (X:=[env.locals,acc]) T.D R0 T.I htk hx).1▸D') (T.Y.hid T.I.1 hk) (el▸tZ hk);rw[es];exact this
 injection hr with hr v σ' r σ4 hz;obtain⟨hx,hp,hr⟩:=hz
 have e1:=(gi (prog:=prog) (X:=[env.locals,acc]) T.D R0 T.I htk hx).1;rw[e1] at hp;refine(gi (prog:=prog) (X:=[env.locals,acc]) T.D R0 T.I htk hx).2 _ (λx s2=>wpAny (model prog w) A (assign t env x) (λu s2=>_) _ s2) _ (λx s₁ q=>q) ?_;clear hx e1;intros h' tk x;intro G' D' hk rx I';have G':Goes (frs A) (env.locals::acc::hidden it a b) ρ ρ s'.heap h':=G';have P':Pre w base n A env le σ ρ h':=⟨D',S.step G',R0,T.Y.hid T.I.1 hk⟩
 have L':=tZ hk;clear tZ;injection uf hp with x0 p hz;obtain⟨hp,hq⟩:=hz
 refine(ht le A σ ρ {s' with heap:=h',toks:=tk} v x p P' hM rx hp) _ _ ?_;intros ρ2 h2a tk2 u1;intro G2a D2a Y2;have P2:=P'.jq G2a D2a Y2;have sL:ja [env.locals] h':=λc hc=>mL P'.Y c (hM.sub c hc);have L2a:=L'.step P'.D P'.S sL (L'.CY sL) G2a;have I2a:=I'.step P'.S (λc hc q=>(I'.1 c hc).lD P'.Y (hM.sub c q)) G2a;have G02:=(T.G.trans G').trans (G2a.wide (λu q=>AX q) (nB P'.Y L' I'));clear G' L' I' sL;rcases hr with hr|hr
 ·obtain⟨er,hr⟩:=hr;subst er;have hq:mt p σ=some (.ok false,σ4):=(Bh hq).elim (λz=>z.1) λ⟨_,_,_,_,z⟩=>nomatch z;refine(hts p A σ ρ2 {s' with heap:=h2a,toks:=tk2} P2).ok hq _ _ ?_;intros ρ3 h3a tk3 ok';intro G3a D3a e;obtain⟨P3,L3a,I3a,G03⟩:=sy P2 L2a I2a G02 G3a D3a;rw[if_neg (λq=>Bool.noConfusion ((Eq.symm e).trans q))];exact⟨m',Nat.lt_succ_self m',i+1,l,σ4,ρ3,hr,⟨h3a,tk3,by rw[es]⟩,G03,D3a,P3.Y.weak (hw p),I3a,L3a⟩
 injection hr with hr y hz;obtain⟨er,hlen,hr⟩:=hz
 subst er;have hq:∃ σ3,mt p σ=some (.ok true,σ3)/\me p σ3=some (.ok y,σ4):=(Bh hq).elim (λz=>nomatch z.2) λ⟨τ,_,z1,z2,z⟩=>⟨τ,z1,LF z▸z2⟩
 injection hq with hq σ3 hz;obtain⟨hq,hm⟩:=hz
 refine(hts p A σ ρ2 {s' with heap:=h2a,toks:=tk2} P2).ok hq _ _ ?_;intros ρ3 h3a tk3 ok';intro G3a D3a e;obtain⟨P3,L3a,I3a,G03⟩:=sy P2 L2a I2a G02 G3a D3a;rw[if_pos e];refine(he p A σ3 ρ3 {s' with heap:=h3a,toks:=tk3} P3).ok hm _ _ ?_;intros ρ4 h4a tk4 z;intro G4a D4a rz;obtain⟨P4,L4,I4a,G04⟩:=sy P3 L3a I3a G03 G4a D4a;refine DL (s:={s' with heap:=h4a,toks:=tk4}) D4a P4.Y hba L4 hlen rz ?_;intros h5a;intro hs5 G5a D5a Y5 L5;have I5a:=I4a.step (X:=[acc]) P4.S (λc hc q=>L4.zV I4a.1 (Lz q▸hc)) (G5a (frs A));exact⟨m',Nat.lt_succ_self m',i+1,l++[y],σ4,ρ4,hr,⟨h5a,tk4,by rw[es]⟩,G04.trans ((G5a (frs A)).wide (λc q=>Lz q▸.tail _ (.head _)) (nB P4.Y L4 I4a)),D5a,Y5.weak (hw p),I5a,L5⟩
end
structure jf(env:Env)(scope:Scope)(le lec:List (Str×V)):Prop where
 free:∀ p∈scope.names,p.2=.free->env.kindOf p.1=some .cell\/env.kindOf p.1=some .free
 nocell:∀ p∈scope.names,p.2≠.cell
 nd:(scope.names.map (·.1)).Nodup
 loc:∀ p∈scope.names,p.2=.local->scope.names.lookup p.1=some .local
 caps:∀ p∈lec,scope.names.lookup p.1=some .free
 weak:∀ x v,lec.lookup x=some v->le.lookup x=some v
 kind:scope.kind=.function
section
variable{prog:Program}{w:World}{base:Heap}{n:Nat}{env:Env}{le keep:List (Str×V)}{K:Frag}{mg mb:Str->Option Value}{α β γ δ:Type}{A:Around}{σ σ':ai}{ρ ρ':List Addr}{s:Shared}{h h' h0a:Heap}{it:It}{i:Nat}{a b acc:Addr}{X Y:List Addr}{l:List V}
theorem yd{elt t iter:Expr}{ifs:List Expr}{gs:List Comprehension}{scope:Scope}{pos cpos:Pos}{mi:M It}{lec:List (Str×V)}{σ1:ai}{use:Option (Value->Sem Unit)}{Q:Value->Shared->Prop}{E:Value->Shared->Prop}
 (C:jf env scope le lec)(hi:mR prog w base n env le iter mi)(hs:∀ x,foldedSetIterable iter env x=pure x)(P:Pre w base n A env le σ ρ s.heap)(hm:mi σ=some (.ok it,σ1))
 (k:∀ L acc a b ρ1 h4a tk2,Goes (frs A) (L::acc::hidden it a b) ρ ρ1 s.heap h4a->Rep w base ρ1 σ1 h4a->br (compEnvC scope (bx env scope.names []) L env) lec ρ1 h4a->iy base it 0 ρ1 h4a a b->fu base acc [] ρ1 h4a->base.get? L=none->base.get? acc=none->mainGlobals<acc->acc≠L ->
   (∀ c∈L::acc::hidden it a b,s.heap.get? c=none) ->
   codeAny (model prog w) A (.compLoop (.ListComp elt (⟨t,iter,ifs,0⟩::gs) scope pos) 0 (.ref a) (.ref acc) (compEnvC scope (bx env scope.names []) L env)) (compPost (model prog w) A E use Q (.ref acc) L) {s with heap:=h4a,toks:=tk2}) :
  wpAny (model prog w) A (comprehension (.ListComp elt (⟨t,iter,ifs,0⟩::gs) scope pos) scope env cpos (newList []) false (eval iter env) use) Q E s:=by
 revert C hi hs P hm k;revert lec σ1 use Q E;revert prog w base n env le A σ ρ s it elt t iter ifs gs scope pos cpos mi;apply nS;generalize gm=zt;generalize zt.1.1.1.1=prog,zt.1.1.1.2=w,zt.1.1.2.1=base,zt.1.1.2.2.1=n,zt.1.1.2.2.2=env,zt.1.2.1.1=le,zt.1.2.1.2=A,zt.1.2.2.1=σ,zt.1.2.2.2.1=ρ,zt.1.2.2.2.2=s,zt.2.1.1.1=it,zt.2.1.1.2=elt,zt.2.1.2.1=t,zt.2.1.2.2.1=iter,zt.2.1.2.2.2=ifs,zt.2.2.1.1=gs,zt.2.2.1.2=scope,zt.2.2.2.1=pos,zt.2.2.2.2.1=cpos,zt.2.2.2.2.2=mi;intros lec σ1 use Q;intros E;intro C hi hs P hm k;obtain⟨z,zi⟩:=hi A σ ρ s P;have hio:=zi it σ1 hm;rw[hm] at z;have z':=Runs.vn z;have hfull:∀ p∈scope.names,p.2=.free->∃ c,env.cells.lookup p.1=some c:=λp hp e=>P.Y.full _ (C.free p hp e);refine wpAny_comprehension_free (g:=⟨t,iter,ifs,0⟩) (gs:=gs) rfl hs (lY hfull) C.kind C.loc ?_;refine z' _ E ?_;intros ρ1 h1a tk1 x;intro G1a D1a q;obtain⟨_,src⟩:=q;have P1:=P.step G1a D1a;have hnone:∀ {h1a ρ1 σ1},Goes (frs A) [] ρ ρ1 s.heap h1a->Rep w base ρ1 σ1 h1a->∀ c,h1a.get? c=none->s.heap.get? c=none:=λG D c e=>by
  cases q:s.heap.get? c with
  |none=>rfl
  |some o=>
   obtain⟨o',e'⟩:=G.there D q;rw[e] at e';cases e'
 refine qt (s:={s with heap:=h1a,toks:=tk1}) D1a (hnone G1a D1a) src hio ?_;intros h2a tk2 a b;intro hk2a D2a I2a hn;have G2a:Goes (frs A) [] ρ1 ρ1 h1a h2a:=Goes.keeps hk2a;have P2:=P1.step G2a D2a;have G12a:=G1a.trans G2a;refine L6 ?_ (LI _);have eA:(h2a.push (aO #[] 0)).get? h2a.objs.size=some (aO #[] 0):=LK _ rfl;have hA0:h2a.get? h2a.objs.size=none:=dD _;have hAs:s.heap.get? h2a.objs.size=none:=hnone G12a D2a _ hA0;have hAb:base.get? h2a.objs.size=none:=by
  cases q:base.get? h2a.objs.size with
  |none=>rfl
  |some o=>
   rw[D2a.sub _ _ q] at hA0;cases hA0
 have hAlow:mainGlobals<h2a.objs.size:=by
  obtain⟨o,ho⟩:=D2a.glob;exact LM (D2a.sub _ _ ho)
 have hAρ:h2a.objs.size∉ρ1:=λq=>LV _ (D2a.lt q);refine wpAny_newFunctionEnv (binds:=[]) C.nocell (λu q=>nomatch q) ?_ C.kind;intros h4a;intro hns hsb;have hz:(h2a.push (aO #[] 0)).objs.size=h2a.objs.size+1:=Heap.size_push ..;have k4:∀ c o,(h2a.push (aO #[] 0)).get? c=some o->h4a.get? c=some o:=λc o e=>(hsb.2 c (Nat.ne_of_lt (LM e))).trans (aP _ _ e);have k24:∀ c o,h2a.get? c=some o->h4a.get? c=some o:=λc o e=>k4 c o (aP _ _ e);have hL2:h2a.get? (h2a.push (aO #[] 0)).objs.size=none:=by
  cases q:h2a.get? (h2a.push (aO #[] 0)).objs.size with
  |none=>rfl
  |some o=>exact LW (LM q) (by rw[hz];exact Nat.not_lt.mpr (Nat.le_succ _))
 have hLs:=hnone G12a D2a _ hL2;have hLρ:(h2a.push (aO #[] 0)).objs.size∉ρ1:=λq=>by
  obtain⟨o,e,_⟩:=D2a.there q;rw[hL2] at e;cases e
 have hLb:base.get? (h2a.push (aO #[] 0)).objs.size=none:=by
  cases q:base.get? (h2a.push (aO #[] 0)).objs.size with
  |none=>rfl
  |some o=>
   rw[D2a.sub _ _ q] at hL2;cases hL2
 have Yc:br (compEnvC scope (bx env scope.names []) (h2a.push (aO #[] 0)).objs.size env) lec ρ1 h4a:=
  P2.Y.comp hns k24 hL2 hLρ C.free C.nocell C.nd C.caps C.weak C.kind
 have G24:Goes (frs A) [] ρ1 ρ1 h2a h4a:=Goes.keeps k24;have D4a:=D2a.keeps k24;have P4:=P2.step G24 D4a;have I4a:=I2a.step (X:=[]) P2.S (λu u=>List.not_mem_nil) G24;have hnC:∀ c∈(compEnvC scope (bx env scope.names []) (h2a.push (aO #[] 0)).objs.size env).locals::h2a.objs.size::hidden it a b,s.heap.get? c=none:=λc hc=>by
  rcases Lx hc with rfl|hc
  ·exact hLs
  ·rcases Lx hc with rfl|hc
   ·exact hAs
   ·exact hn c hc
 have Gall:Goes (frs A) ((compEnvC scope (bx env scope.names []) (h2a.push (aO #[] 0)).objs.size env).locals::h2a.objs.size::hidden it a b) ρ ρ1 s.heap h4a:=
  (G12a.trans G24).mono (λu u u q=>q) (λu u u q=>nomatch q) λc o e q=>by rw[hnC c q] at e;cases e
 have acc4:fu base h2a.objs.size [] ρ1 h4a:=⟨hAρ,#[],0,k4 _ _ eA,.nil⟩
 have neAL:h2a.objs.size≠(h2a.push (aO #[] 0)).objs.size:=by rw[hz];exact Nat.ne_of_lt (Nat.lt_succ_self _)
 have main:=k (h2a.push (aO #[] 0)).objs.size h2a.objs.size a b ρ1 h4a tk2 Gall D4a Yc I4a acc4 hLb hAb hAlow neAL hnC;exact codeAny_compStart_list main (vC (s:={s with heap:=h4a,toks:=tk2}) I4a main)
theorem xN[Nonempty γ]{elt t iter:Expr}{ifs:List Expr}{scope:Scope}{pos cpos:Pos}{pat:V->Option γ}{ext:γ->List (Str×V)}{mi:M It}{mt:γ->M Bool}{me:γ->M V}{fuel:Nat}{lec:List (Str×V)}{lf:List V}{σ1 σf:ai}{use:Option (Value->Sem Unit)}{Q:Value->Shared->Prop}{E:Value->Shared->Prop}
 (C:jf env scope le lec)(hi:mR prog w base n env le iter mi)
 (ht:∀ L,eE prog w base n (compEnvC scope (bx env scope.names []) L env) [L] t pat ext)(hts:∀ L p,bI prog w base n (compEnvC scope (bx env scope.names []) L env) (ext p++lec) (iQ ifs (compEnvC scope (bx env scope.names []) L env)) (mt p) kc)
 (he:∀ L p,aC prog w base n (compEnvC scope (bx env scope.names []) L env) (ext p++lec) elt (me p))(hw:∀ p x v,lec.lookup x=some v->(ext p++lec).lookup x=some v)(hs:∀ x,foldedSetIterable iter env x=pure x)(htk:∀ σ it σ',mi σ=some (.ok it,σ')->iB it t)
 (P:Pre w base n A env le σ ρ s.heap)(hm:mi σ=some (.ok it,σ1))(hr:bV it (λv=>bR pat v (eg mt me)) fuel 0 [] σ1=some (.ok lf,σf))
 (k:∀ ρ' h' tk acc L m,Goes (frs A) [] ρ ρ' s.heap h'->Rep w base ρ' (σf++[.list lf]) h'->VR ρ' h' (.obj σf.length) (.ref acc)->h'.Ns L m->L∉ρ'->base.get? L=none->s.heap.get? L=none->compPost (model prog w) A E use Q (.ref acc) L (.ok .next) {s with heap:=h',toks:=tk})(hn1:1<=n:=by lia) :
  wpAny (model prog w) A (comprehension (.ListComp elt [⟨t,iter,ifs,0⟩] scope pos) scope env cpos (newList []) false (eval iter env) use) Q E s:=by
 refine yd C hi hs P hm λL acc a b ρ1 h4a tk2 Gall D4a Yc I4a acc4 hLb hAb hAlow neAL hnC=>?_;refine vY (s₀:=s) (t:=t) (iter:=iter) (ifs:=ifs) rfl rfl (ht _) (hts _) (he _) hw (htk σ it σ1 hm) P.S P.R hLb hAb (λρ' h'' h' tk G0a hk0a D Y L'=>?_) ⟨⟨h4a,tk2,rfl⟩,Gall,D4a,Yc,I4a,acc4⟩ hr;have G:Goes (frs A) [] ρ ρ' s.heap h':=Goes.done (X:=[]) G0a hnC λc o q e=>hk0a c o (λz=>q (.tail _ (.tail _ z))) e;obtain⟨n1,vs,kk,e,rl⟩:=L';obtain⟨mm,hmm,_⟩:=Y.ns;have hLρ':=Y.offL;have D':=D.adopt (o:=.list lf) n1 hAb hAlow ⟨vs,kk,e,rl.mono iU λu u u q=>q⟩;refine k (ρ'++[acc]) h' tk acc _ mm (G.adopt (hnC _ (.tail _ (.head _)))) D' (.obj (jS D.len)) hmm (λq=>?_) hLb (hnC _ (.head _));rcases Ly q with q|q
 ·exact hLρ' q
 ·exact neAL (Lz q).symm
theorem rj{L:Addr}{m:Str->Option Value}(D:Rep w base ρ' σ h')(hn:h'.Ns L m)(hL:L∉ρ')(hb:base.get? L=none)(hs0:s.heap.get? L=none)(G:Goes (frs A) X ρ ρ' s.heap h'){h'':Heap}(hs:Heap.SameBut L h' h'') :
  Goes (frs A) X ρ ρ' s.heap h''/\Rep w base ρ' σ h''/\∀ {v x},VR ρ' h' v x->VR ρ' h'' v x:=by
 obtain⟨o,es,ep,ho,hd,_⟩:=hn;have nt:∀ vs n,o≠{cls:=.type "tuple",data:=.seq vs n}:=λu u e=>by rw[e] at hd;cases hd
 refine⟨⟨G.pre,λc o' e nr nx=>?_,G.fresh,λc hc o' e=>?_⟩,D.hidden λc o' e cc=>(hs.2 c λz=>?_).trans e,λr=>r.same hs ho nt⟩
 ·obtain⟨o2a,e2a,q⟩:=G.keep c o' e nr nx;exact⟨o2a,(hs.2 c λz=>by rw[z,hs0] at e;cases e).trans e2a,q⟩
 ·obtain⟨o2a,e2a,q⟩:=G.xs c hc o' e;exact⟨o2a,(hs.2 c λz=>by rw[z,hs0] at e;cases e).trans e2a,q⟩
 ·subst z;rcases cc with cc|cc|⟨us,j,cc⟩
  ·exact hL cc
  ·rw[hb] at cc;cases cc
  ·rw[ho] at e;cases e;exact nt _ _ cc
noncomputable def sC(r:Option (Except V (List V)×ai)):Option (Except V V×ai):=match r with
 |some (.ok l,σ')=>some (.ok (.obj σ'.length),σ'++[.list l])
 |_=>none
noncomputable def jd(m:M (List V)):M V:=λσ=>sC (m σ)
theorem jI[Nonempty γ]{elt t iter:Expr}{ifs:List Expr}{scope:Scope}{pos:Pos}{pat:V->Option γ}{ext:γ->List (Str×V)}{mi:M It}{mt:γ->M Bool}{me:γ->M V}{fuel:Nat}{lec:List (Str×V)}
 (C:jf env scope le lec)(hi:mR prog w base n env le iter mi)
 (ht:∀ L,eE prog w base n (compEnvC scope (bx env scope.names []) L env) [L] t pat ext)(hts:∀ L p,bI prog w base n (compEnvC scope (bx env scope.names []) L env) (ext p++lec) (iQ ifs (compEnvC scope (bx env scope.names []) L env)) (mt p) kc)
 (he:∀ L p,aC prog w base n (compEnvC scope (bx env scope.names []) L env) (ext p++lec) elt (me p))(hw:∀ p x v,lec.lookup x=some v->(ext p++lec).lookup x=some v)(hs:∀ x,foldedSetIterable iter env x=pure x)(htk:∀ σ it σ',mi σ=some (.ok it,σ')->iB it t)(hn1:1<=n:=by omega) :
  aC prog w base n env le (.ListComp elt [⟨t,iter,ifs,0⟩] scope pos) (jd (do let it<-mi;bV it (λv=>bR pat v (eg mt me)) fuel 0 [])):=by
 intro A σ ρ s P;unfold jd;have em:(mi>>=λit=>bV it (λv=>bR pat v (eg mt me)) fuel 0 []) σ=M.after (mi σ) λit=>bV it (λv=>bR pat v (eg mt me)) fuel 0 []:=rfl;rw[em];cases hm:mi σ with
 |none=>trivial
 |some r=>
  obtain⟨r,σ1⟩:=r;cases r with
  |error=>trivial
  |ok it=>
   show Runs _ _ _ _ _ _ _ _ (sC (bV it (λv=>bR pat v (eg mt me)) fuel 0 [] σ1)) _;cases hr:bV it (λv=>bR pat v (eg mt me)) fuel 0 [] σ1 with
   |none=>trivial
   |some r=>
    obtain⟨r,σf⟩:=r;cases r with
    |error=>exact LW hr Ae
    |ok lf=>
     intro Q E k;refine xN (use:=none) C hi ht hts he hw hs htk P hm hr λρ' h' tk acc L m G D r hn hL hb hs0=>⟨m,hn,λh'' hsb=>?_⟩
     obtain⟨G',D',vr⟩:=rj D hn hL hb hs0 G hsb;exact k ρ' h'' tk (.ref acc) G' D' (vr r)
theorem mX[Nonempty γ]{x:Str}{elt t iter:Expr}{ifs:List Expr}{scope:Scope}{pos pos' spos:Pos}{rest:List Stmt}{f:V->M ay}{pat:V->Option γ}{ext:γ->List (Str×V)}{mi:M It}{mt:γ->M Bool}{me:γ->M V}{fuel:Nat}{lec:List (Str×V)}
 (hx:env.kindOf x=some .local\/env.kindOf x=some .cell)(C:jf env scope le lec)(hi:mR prog w base n env le iter mi)
 (ht:∀ L,eE prog w base n (compEnvC scope (bx env scope.names []) L env) [L] t pat ext)(hts:∀ L p,bI prog w base n (compEnvC scope (bx env scope.names []) L env) (ext p++lec) (iQ ifs (compEnvC scope (bx env scope.names []) L env)) (mt p) kc)
 (he:∀ L p,aC prog w base n (compEnvC scope (bx env scope.names []) L env) (ext p++lec) elt (me p))(hw:∀ p x v,lec.lookup x=some v->(ext p++lec).lookup x=some v)(hs:∀ x,foldedSetIterable iter env x=pure x)(htk:∀ σ it σ',mi σ=some (.ok it,σ')->iB it t)
 (h2:∀ v,aJ prog w base n env ((x,v)::le) keep rest (f v))(hsw:swapsWith (.ListComp elt [⟨t,iter,ifs,0⟩] scope pos) (some (.Name x pos')) spos.line env=pure true)(hn1:1<=n:=by lia) :
  aJ prog w base n env le keep (.Assign [.Name x pos'] (.ListComp elt [⟨t,iter,ifs,0⟩] scope pos) spos::rest) (do let v<-jd (do let it<-mi;bV it (λv=>bR pat v (eg mt me)) fuel 0 []);f v):=by
 revert hx C hi ht hts he hw hs htk h2 hsw hn1;revert mi mt me fuel lec;revert prog w base n env le keep x elt t iter ifs scope pos pos' spos rest f pat ext;revert γ;apply Ia;generalize PT _=cT;apply nS;generalize gm=zt;generalize zt.1.1.1.1=prog,zt.1.1.1.2=w,zt.1.1.2.1=base,zt.1.1.2.2.1=n,zt.1.1.2.2.2=env,zt.1.2.1.1=le,zt.1.2.1.2=keep,zt.1.2.2.1=x,zt.1.2.2.2.1=elt,zt.1.2.2.2.2=t,zt.2.1.1.1=iter,zt.2.1.1.2=ifs,zt.2.1.2.1=scope,zt.2.1.2.2.1=pos,zt.2.1.2.2.2=pos',zt.2.2.1.1=spos,zt.2.2.1.2=rest,zt.2.2.2.1=f,zt.2.2.2.2.1=pat,zt.2.2.2.2.2=ext;intros mi mt me fuel;intros lec;intro hx C hi ht hts he hw hs htk h2 hsw hn1;refine dz.block (le':=λv=>(x,v)::le) (exec_Assign_Name_used x pos' _ spos hsw) ?_ h2;intros A σ ρ s;intro P H;unfold jd;have em:(mi>>=λit=>bV it (λv=>bR pat v (eg mt me)) fuel 0 []) σ=M.after (mi σ) λit=>bV it (λv=>bR pat v (eg mt me)) fuel 0 []:=rfl;show Runs _ _ _ _ _ _ _ _ (sC ((mi>>=λit=>bV it (λv=>bR pat v (eg mt me)) fuel 0 []) σ)) _;rw[em];cases hm:mi σ with
 |none=>trivial
 |some r=>
  revert r;intros r;intro hm;obtain⟨r,σ1⟩:=r;revert r σ1;intros r σ1;intro hm;cases r with
  |error=>trivial
  |ok it=>
   revert it;intros it;intro hm;show Runs _ _ _ _ _ _ _ _ (sC (bV it (λv=>bR pat v (eg mt me)) fuel 0 [] σ1)) _;cases hr:bV it (λv=>bR pat v (eg mt me)) fuel 0 [] σ1 with
   |none=>trivial
   |some r=>
    revert r;intros r;intro hr;obtain⟨r,σf⟩:=r;revert r σf;intros r σf;intro hr;cases r with
    |error=>exact LW hr Ae
    |ok lf=>
     revert lf;intros lf;intro hr;intros Q E;intro k;have eu:evalThenUse (.ListComp elt [⟨t,iter,ifs,0⟩] scope pos) env (assign (.Name x pos') env)=(comprehension (.ListComp elt [⟨t,iter,ifs,0⟩] scope pos) scope env (firstIterPos [⟨t,iter,ifs,0⟩] pos) (newList []) false (eval iter env) (some (assign (.Name x pos') env))>>=λu=>pure ()):=rfl;rw[eu];refine LB (LX (LB (LB ?_)));refine xN (use:=some (assign (.Name x pos') env)) C hi ht hts he hw hs htk P hm hr ?_;intros ρ' h' tk acc;intros L m;intro G D r hn hL hb hs0;have P1:=P.step G D;have nown:∀ c∈own env,c≠L:=λc hc q=>by
      subst q;rcases m6 hc with rfl|⟨p,hp,rfl⟩
      ·obtain⟨o,e,_⟩:=iu P.Y;rw[hs0] at e;cases e
      ·obtain⟨_,_,_,o,e,_⟩:=P.Y.offC p hp;rw[hs0] at e;cases e
     have ncell:∀ p∈env.cells,p.2≠L:=λp hp q=>by
      obtain⟨_,_,_,o,e,_⟩:=P.Y.offC p hp;rw[q,hs0] at e;cases e
     show wpAny _ _ (standAt pos'>>=λu=>bindName env x (.ref acc)) _ _ _;refine LB (LX ?_);refine(nI (prog:=prog) (s:={s with heap:=h',toks:=tk}) H.may P1 (hx.imp id λz=>⟨z,rfl⟩) r) _ _ ?_;intros ρ2 h2a tk2 u1;intro G2a D2a Y2;have Gown:Goes (frs A) (own env) ρ ρ' s.heap h':=G.mono (λu u u z=>z) (λu u u z=>nomatch z) λa o u ha=>.inr (gA P.Y ha);have hn2:=C6 hn hL G2a (λq=>nown _ q rfl);have hL2a:L∉ρ2:=by
      obtain⟨o,_,_,ho,_⟩:=hn;exact G2a.gu ho hL
     refine⟨m,hn2,λh3a hsb=>?_⟩;obtain⟨G3a,D3a,vr⟩:=rj D2a hn2 hL2a hb hs0 (Gown.trans G2a) hsb;revert h3a;intros h3a;intro hsb G3a D3a vr;injection (id hn2) with x0 oN u2 u3 hz;obtain⟨hoN,hdN,_⟩:=hz
     have Y3:br env ((x,.obj σf.length)::le) ρ2 h3a:=Y2.frame (λo e=>(hsb.2 _ (nown _ (.head _))).trans e) (λp hp o e=>(hsb.2 _ (ncell p hp)).trans e) (ig hsb hoN λu u e=>by rw[e] at hdN;cases hdN);exact LC (LC (k ρ2 h3a tk2 .next G3a D3a ⟨rfl,Y3⟩))
end
def pR(v:V):M It:=λσ=>v.bO.bind λj=>((listAt σ j).bind λu=>some (.ok (.list j),σ)).or ((σ[j]?.bind aq.iO).bind λq=>if q.1.length<=1000 then some (.ok (.keys j q.1.length q.2),σ) else none)
def rO(l:List V):M It:=λσ=>(one l).bind λa=>a.eX.bind λn=>if 0<=n/\n<=1000 then some (.ok (.range n),σ) else none
def sX(l:List V):M It:=λσ=>(one l).bind λa=>a.bO.bind λj=>(listAt σ j).bind λu=>some (.ok (.enum j),σ)
section
variable{v:V}{l:List V}{σ:ai}{r:Except V It×ai}
theorem qZ(h:pR v σ=some r):∃ j,v=.obj j/\((∃ l,σ[j]?=some (.list l)/\(.ok (.list j),σ)=r)\/∃ l ep,σ[j]?=some (.idd l ep)/\l.length<=1000/\(.ok (.keys j l.length ep),σ)=r):=
 (Lv h).imp λj z=>⟨V.cu z.1,(or_some z.2).imp (λy=>(fO y).imp λl x=>⟨x.1,LF x.2⟩) λy=>(tD y).imp λl x=>x.imp λk x=>⟨x.1,(aE x.2).1,LF (aE x.2).2⟩⟩
theorem pS(h:rO l σ=some r):∃ n,l=[.int n]/\(0<=n/\n<=1000)/\(.ok (.range n),σ)=r:=
 (Lv h).elim λa z=>(Lv z.2).imp λn y=>⟨(pC z.1).trans (LH (λx=>[x]) (V.f9 y.1)),(aE y.2).1,LF (aE y.2).2⟩
theorem xM(h:sX l σ=some r):∃ j,l=[.obj j]/\(∃ m,σ[j]?=some (.list m))/\(.ok (.enum j),σ)=r:=
 (sH h).imp λj z=>(fO z.2).elim λm y=>⟨z.1,⟨m,y.1⟩,LF y.2⟩
theorem EL{j:Nat}(h:σ[j]?=some (.list l)):pR (.obj j) σ=some (.ok (.list j),σ):=by
 show ((listAt σ j).bind _).or _=_;rw[cj h];rfl
theorem HD{j ep:Nat}{l:List (Int×V)}(h:σ[j]?=some (.idd l ep))(hl:l.length<=1000):pR (.obj j) σ=some (.ok (.keys j l.length ep),σ):=by
 show ((listAt σ j).bind _).or ((σ[j]?.bind aq.iO).bind _)=_;rw[show listAt σ j=none by unfold listAt;rw[h];rfl,h];exact if_pos hl
theorem FY{j:Nat}(h:σ[j]?=some (.list l)):sX [.obj j] σ=some (.ok (.enum j),σ):=by
 show (listAt σ j).bind _=_;rw[cj h];rfl
end
section
variable{prog:Program}{w:World}{base:Heap}{n:Nat}{env:Env}{le keep:List (Str×V)}{K:Frag}{mg mb:Str->Option Value}{α β γ δ:Type}{A:Around}{σ σ':ai}{ρ ρ':List Addr}{s:Shared}{h h' h0a:Heap}{it:It}
theorem gh{e:Expr}{m:M V}(h:aC prog w base n env le e m):mR prog w base n env le e (do let v<-m;pR v):=by
 revert h;revert prog w base n env le e m;intros prog w base n;intros env le e m;intro h;intros A σ ρ s;intro P;constructor
 ·have e1:eval e env=(eval e env>>=λx=>pure x):=(bind_pure _).symm;rw[e1];refine Runs.bind (h A σ ρ s P) ?_;intros v σ';intro _;intros ρ' h' tk x;intro G D r;refine Runs.inv ?_;intros res σ'';intro ev;injection qZ ev with ev j hz;obtain⟨rfl,hz⟩:=hz
  injection r.mw with x0 a hy;obtain⟨rfl,hi⟩:=hy
  rcases hz with ⟨l,hj,hr⟩|⟨l,ep,hj,hl,hr⟩
  ·cases hr;exact λQ E k=>LC (k ρ' h' tk _ .refl D ⟨a,hi,rfl⟩)
  ·cases hr;exact λQ E k=>LC (k ρ' h' tk _ .refl D ⟨a,hi,rfl⟩)
 ·intro it σ' e;obtain⟨v,τ,_,e⟩:=M.inv e;obtain⟨j,_,⟨l,hj,hr⟩|⟨l,ep,hj,hl,hr⟩⟩:=qZ e
  ·cases hr;exact⟨_,hj⟩
  ·cases hr;exact⟨_,hj,rfl,hl⟩
theorem qy(G:Gd K mg mb base){vf:V}{args:List Expr}{pos pos':Pos}{ml:M (List V)}{g:List V->M β}{R:List Addr->Heap->β->Value->Prop}
 (P:Pre w base n A env le σ ρ s.heap)(hk:zy K vf=true)(hp:(backTo pos' (starEach args env)).any (·.1)=false)(hl:ju prog w base n env le pos' args ml)
 (hf:∀ σ' ρ' h' tk l xs,Goes (frs A) [] ρ ρ' s.heap h'->Pre w base n A env le σ' ρ' h'->bq ρ' h' l xs->Runs prog w base A [] (call (valOf vf) xs []) {s with heap:=h',toks:=tk} ρ' (g l σ') R) :
  Runs prog w base A [] (callWith pos (valOf vf) [] (backTo pos' (starEach args env)) []) s ρ ((ml>>=g) σ) R:=by
 refine Runs.Fb (λh=>K.In h) (hl A σ ρ s P) (f:=λvs=>call (valOf vf) ([]++vs) []) (λl σ' u ρ' h' tk xs G' D r=>?_) (λρ' σ' h' D=>G.X.keeps D.sub) λQ E q=>?_
 ·exact hf σ' ρ' h' tk l xs G' (P.step G' D) r
 ·exact callWith_of (by rw[hp];rfl) (C1 hk) (m5 hp q)
theorem iW(G:Gd K mg mb base){func:Expr}{args:List Expr}{pos:Pos}{ml:M (List V)}(hf:aC prog w base n env le func (pure (.ty "range")))(hl:ju prog w base n env le pos args ml)
 (he:eval (.Call func args [] pos) env=(do callWith pos (<- eval func env) [] (backTo pos (starEach args env)) []))(hp:(backTo pos (starEach args env)).any (·.1)=false) :
  mR prog w base n env le (.Call func args [] pos) (do let l<-ml;rO l):=by
 revert G hf hl he hp;revert args pos ml;revert prog w base n env le K mg mb func;apply cK;generalize dm=zt;generalize zt.1.1.1=prog,zt.1.1.2=w,zt.1.2.1=base,zt.1.2.2.1=n,zt.1.2.2.2=env,zt.2.1.1=le,zt.2.1.2=K,zt.2.2.1=mg,zt.2.2.2.1=mb,zt.2.2.2.2=func;intros args pos ml;intro G hf hl he hp;intros A σ ρ s;intro P;constructor
 ·rw[he];refine Runs.bind (m:=(pure (V.ty "range"):M V)) (g:=λu=>do let l<-ml;rO l) (hf A σ ρ s P) ?_;intros v σ1;intro e;intros ρ1 h1a tk1 x;intro G1a D1a r;cases e;rw[r.callee rfl];refine qy (s:={s with heap:=h1a,toks:=tk1}) G (vf:=.ty "range") (P.step G1a D1a) rfl hp hl ?_;intros σ' ρ' h' tk;intros l xs;intro G' P' r';refine Runs.inv ?_;intros res σ'';intro ev;injection pS ev with ev u4 hz;obtain⟨rfl,hn,hr⟩:=hz
  cases hr;injection gV r' with x0 y hz;obtain⟨rfl,ry⟩:=hz
  refine ry.gw ?_;intros u5;intros Q E;intro k;exact call_range_1 (k ρ' _ _ _ Goes.push (P'.D.keeps aP) ⟨hn.1,hn.2,_,_,_,_,rfl,LK _ rfl⟩)
 ·intro it σ' e;obtain⟨v,τ,_,e⟩:=M.inv e;obtain⟨n,_,_,hr⟩:=pS e;cases hr;trivial
theorem xS(G:Gd K mg mb base){func:Expr}{args:List Expr}{pos:Pos}{ml:M (List V)}(hf:aC prog w base n env le func (pure (.ty "enumerate")))(hl:ju prog w base n env le pos args ml)
 (he:eval (.Call func args [] pos) env=(do callWith pos (<- eval func env) [] (backTo pos (starEach args env)) []))(hp:(backTo pos (starEach args env)).any (·.1)=false) :
  mR prog w base n env le (.Call func args [] pos) (do let l<-ml;sX l):=by
 revert G hf hl he hp;revert args pos ml;revert prog w base n env le K mg mb func;apply cK;generalize dm=zt;generalize zt.1.1.1=prog,zt.1.1.2=w,zt.1.2.1=base,zt.1.2.2.1=n,zt.1.2.2.2=env,zt.2.1.1=le,zt.2.1.2=K,zt.2.2.1=mg,zt.2.2.2.1=mb,zt.2.2.2.2=func;intros args pos ml;intro G hf hl he hp;intros A σ ρ s;intro P;constructor
 ·rw[he];refine Runs.bind (m:=(pure (V.ty "enumerate"):M V)) (g:=λu=>do let l<-ml;sX l) (hf A σ ρ s P) ?_;intros v σ1;intro e;intros ρ1 h1a tk1 x;intro G1a D1a r;cases e;rw[r.callee rfl];refine qy (s:={s with heap:=h1a,toks:=tk1}) G (vf:=.ty "enumerate") (P.step G1a D1a) rfl hp hl ?_;intros σ' ρ' h' tk;intros l xs;intro G' P' r';refine Runs.inv ?_;intros res σ'';intro ev;injection xM ev with ev j hz;obtain⟨rfl,hz,hr⟩:=hz
  cases hr;injection hz with hz l hl
  injection gV r' with x0 y hz;obtain⟨rfl,ry⟩:=hz
  injection ry.mw with x0 la hz;obtain⟨rfl,hj⟩:=hz
  injection P'.D.list hl hj with x0 vs k' hz;obtain⟨e,il,rl⟩:=hz
  intros Q E;intro k;have Gs:Goes (frs A) [] ρ ρ' s.heap h':=G1a.trans G';have hnone:∀ c,h'.get? c=none->s.heap.get? c=none:=λc e=>by
   cases q:s.heap.get? c with
   |none=>rfl
   |some o=>
    obtain⟨o',e'⟩:=Gs.there P'.D q;rw[e] at e';cases e'
  refine call_enumerate_list il ?_;intros h2a;intro he2 hit2 hz2 hk2a;injection (id hit2) with x0 oi hz;obtain⟨hoi,hci,hdi⟩:=hz
  have n1:h'.get? (h'.objs.size+1)=none:=by
   cases q:h'.get? (h'.objs.size+1) with
   |none=>rfl
   |some o=>exact LW (LM q) (Nat.not_lt.mpr (Nat.le_succ _))
  refine k ρ' h2a tk _ (Goes.keeps hk2a) (P'.D.keeps hk2a) ⟨_,_,rfl,⟨λc hc=>?_,la,.none,hj,he2,hit2,Nat.succ_ne_self _⟩,hnone _ n1,hnone _ (dD _)⟩;simp[hidden] at hc;rcases hc with hz|hz
  ·obtain rfl:=hz;exact pJ P'.D n1 he2 rfl
  ·obtain rfl:=hz;exact pJ P'.D (dD _) hoi hdi
 ·intro it σ' e;obtain⟨v,τ,_,e⟩:=M.inv e;obtain⟨j,_,_,hr⟩:=xM e;cases hr;trivial
noncomputable def qp(o:aq):M V:=λσ=>some (.ok (.obj σ.length),σ++[o])
theorem uW:dictDisplay []=newDict:=by
 unfold dictDisplay;simp[List.forIn_nil]
theorem qA{o:aq}{pos:Pos}(P:Pre w base n A env le σ ρ s.heap)(ho:∀ ρ h a,h.get? a=some (aN #[] 0)->jB w ρ h a o):Runs prog w base A [] (eval (.Dict [] [] pos) env) s ρ (qp o σ) VR:=by
 intro Q E k;have e:eval (.Dict [] [] pos) env=(standAt pos>>=λu=>dictDisplay []):=rfl;rw[e,uW];refine LB (LX ?_);have eN:=LK s.heap (o:=aN #[] 0) rfl;have fin:Q (.ref s.heap.objs.size) {s with heap:=s.heap.push (aN #[] 0)}:=
  k (ρ++[s.heap.objs.size]) _ s.toks _ (Goes.alloc aP (LP _)) (P.D.alloc aP (LP _) (ho _ _ _ eN)) (.obj (jS P.D.len))
 exact L6 fin (LI _)
theorem tO{pos:Pos}:aC prog w base n env le (.Dict [] [] pos) (qp (.idd [] 0)):=λA σ ρ s P=>qA P λu u u e=>⟨#[],e,.nil,List.nodup_nil⟩
theorem Eu{pos:Pos}:aC prog w base n env le (.Dict [] [] pos) (qp (.td [])):=λA σ ρ s P=>qA P λu u u e=>⟨#[],0,e,.nil,List.nodup_nil⟩
end
def Jz(σ:ai)(j:Nat)(k:Int)(d:V):Option (Except V V×ai):=
 (σ[j]?.bind aq.iO).bind λq=>if q.1.length<=1000 then some ((bX q.1 k).elim (.ok d,σ) λv=>(.ok v,σ.set j (.idd (cH q.1 k) (q.2+1)))) else none
def Dt(l:List V):M V:=λσ=>(three l).bind λp=>p.1.bO.bind λj=>p.2.1.eX.bind λk=>Jz σ j k p.2.2
theorem C7{σ:ai}{j ep:Nat}{k:Int}{d:V}{l:List (Int×V)}{o:Option V}(h:σ[j]?=some (.idd l ep))(hl:l.length<=1000)(hk:bX l k=o):Dt [.obj j,.int k,d] σ=some (o.elim (.ok d,σ) λv=>(.ok v,σ.set j (.idd (cH l k) (ep+1)))):=by
 show (σ[j]?.bind aq.iO).bind _=_;rw[h,<- hk];exact if_pos hl
def kK(l r:List (Str×V)):List (Str×V):=r.foldl (λacc p=>bN acc p.1 p.2) l
def JE(σ:ai)(i:Nat)(v:V):Option (Except V V×ai):=v.bO.bind λj=>(jD σ i).bind λl=>(jD σ j).bind λr=>if i≠j/\l.length+r.length<=1000 then some (.ok .none,σ.set i (.sd (kK l r))) else none
def sI(l:List V):M V:=λσ=>(two l).bind λp=>p.1.bO.bind λi=>JE σ i p.2
theorem E9{σ:ai}{i j:Nat}{l r:List (Str×V)}(h:σ[i]?=some (.sd l))(h2:σ[j]?=some (.sd r))(q:i≠j/\l.length+r.length<=1000):sI [.obj i,.obj j] σ=some (.ok .none,σ.set i (.sd (kK l r))):=by
 show (jD σ i).bind _=_;rw[mF h];show (jD σ j).bind _=_;rw[mF h2];exact if_pos q
def vm(ks:List Str)(l:List V):M V:=λσ=>if ks.length=l.length/\l.length<=15 then some (.ok (.obj σ.length),σ++[.sd (kK [] (ks.zip l))]) else none
section
variable{prog:Program}{w:World}{base:Heap}{n:Nat}{env:Env}{le keep:List (Str×V)}{K:Frag}{mg mb:Str->Option Value}{α β γ δ:Type}{A:Around}{σ σ':ai}{ρ ρ':List Addr}{s:Shared}{h h' h0a:Heap}
theorem cI.merged{R:V->Value->Prop}{l r:List (Str×V)}{xs ys:List (Str×Value)}(H:cI R l xs)(H':cI R r ys):cI R (kK l r) (PySem.merged xs ys):=by
 unfold kK PySem.merged
 induction H' generalizing l xs with
 |nil=>exact H
 |cons r _ ih=>exact ih (H.stored r)
theorem F8:bC prog w base 0 (.builtin "dict.pop") Dt:=by
 revert prog w base;intros prog w base;intros A σ ρ s;intros l xs;intro D S R r;refine Runs.inv ?_;intros res σ';intro ev;injection AB (f:=λi v d=>v.eX.bind λk=>Jz σ i k d) ev with ev j kv d hz;obtain⟨rfl,hz⟩:=hz
 injection Lv hz with hz k hz;obtain⟨hk,hz⟩:=hz
 cases V.f9 hk;injection tD hz with hz l ep hz;obtain⟨h1,hz⟩:=hz
 obtain⟨hl,hr⟩:=aE hz;clear hz hk;injection CT r with r x y z hz;obtain⟨rfl,rx,ry,rz⟩:=hz
 injection rx.mw with x0 a hz;obtain⟨rfl,hi⟩:=hz
 refine ry.gw ?_;intros u;have lo:=low_ne D (LG hi);injection D.obj _ _ _ h1 hi with x0 es hz;obtain⟨e,rl,nd⟩:=hz
 injection nT (lQ prog w) e rl nd with x0 ys hz;obtain⟨hd,q⟩:=hz
 have hT:=hd.dictOf.typeIs;have hkey:(intKind prog w).is k (.int k u)=true:=(lQ prog w _ _).mp ⟨u,rfl⟩;have ql:=q.look k;have hsz:ys.length<=sizeLine:=fW (by rw[q.length];lia);cases hv:bX l k with
 |some v=>
  revert v;intros v;intro hv;rw[hv] at ql hr;cases hr;injection ql with ql x hz;obtain⟨hx,rx⟩:=hz
  intros Q E;intro kk;have meet:MeetsIn prog w (Builtin.«dict.pop» ⟨[.ref a,.int k u,z],[]⟩) (λo R s'=>s'=s/\∀ h',h'.DictAt (intKind prog w) a (without ys k) (ep+1)->Heap.SameBut a s.heap h'->R (.ok (.ret x)) {s with heap:=h',toks:=s.toks+1}):=
   .of_wp λA R s' ⟨es',h⟩=>by
    subst es';unfold Builtin.«dict.pop»;refine LB ?_;unfold Builtin.Dict.keyAndDefault;refine LB (wpAny_notOrdered_dict hT ?_);show wpAny _ _ (pure (a,Value.int k u,some z)) _ _ _;refine LC ?_;refine LB (LC ?_);simp only[Bool.false_eq_true,if_false];refine LB (Et hkey hd (λhn=>by rw[hn] at hx;exact nomatch hx) (λe o he h' hm' hs'=>?_) hsz);have hev:e.val=x:=by rw[hx] at he;injection he with he;exact he.symm
    simp only[Option.isNone_some,Bool.false_eq_true,if_false];exact LB (wpAny_letGo (LC ⟨e.val,rfl,by rw[hev];exact h h' hm' hs'⟩))
  refine call_meetsIn F.slot_dict_pop hT F.entry_dict_pop (F.args_dict_pop_3 _ _ _) meet ⟨rfl,λh' hd' hs=>?_⟩;injection xG (lQ prog w) hd' ((q.without k).mono λv x r=>jJ hs e r) with x0 es' hz;obtain⟨g1,g2,g3⟩:=hz
  revert h';intros h';intro hd' hs g1 g2;exact kk ρ h' _ x (Goes.update (LG hi) hs List.not_mem_nil) (D.update hi hs ⟨_,e,by simp[aN]⟩ ⟨es',g1,g2,g3⟩) (jJ hs e rx)
 |none=>
  rw[hv] at ql hr;cases hr;intros Q E;intro kk;exact call_meetsIn F.slot_dict_pop hT F.entry_dict_pop (F.args_dict_pop_3 _ _ _) (meets_dict_pop_default (knd:=intKind prog w) a hkey lo rfl z) ⟨ys,hd.dictOf,ql,kk ρ s.heap _ _ .refl D rz⟩
theorem Cn:bC prog w base 0 (.builtin "dict.update") sI:=by
 revert prog w base;intros prog w base;intros A σ ρ s;intros l xs;intro D S R r;refine Runs.inv ?_;intros res σ';intro ev;injection mS (f:=JE σ) ev with ev i v hz;obtain⟨rfl,hz⟩:=hz
 injection Lv hz with hz j hz;obtain⟨hv,hz⟩:=hz
 cases V.cu hv;injection tC hz with hz l hz;obtain⟨h1,hz⟩:=hz
 injection tC hz with hz r' hz;obtain⟨h2,hz⟩:=hz
 obtain⟨hl,hr⟩:=aE hz;clear hz hv;cases hr;injection kU r with r x y hz;obtain⟨rfl,rx,ry⟩:=hz
 injection rx.mw with x0 a hz;obtain⟨rfl,hi⟩:=hz
 injection ry.mw with x0 b hz;obtain⟨rfl,hj⟩:=hz
 injection D.obj _ _ _ h1 hi with x0 es m hz;obtain⟨e,rl,nd⟩:=hz
 injection D.obj _ _ _ h2 hj with x0 es2 m2 hz;obtain⟨e2,rl2,nd2⟩:=hz
 injection jP (qw prog w) e rl nd with x0 xs hz;obtain⟨hd,q⟩:=hz
 injection jP (qw prog w) e2 rl2 nd2 with x0 ys hz;obtain⟨hd2,q2⟩:=hz
 have hab:a≠b:=λz=>hl.1 ((List.getElem?_inj (LA hi).1 D.nd).mp (hi.trans (z▸hj).symm));intros Q E;intro kk;refine call_meetsIn F.slot_dict_update hd.typeIs F.entry_dict_update (F.args_dict_update_2 _ _) (meets_dict_update (strKind prog w) a b hab (low_ne D (LG hj))) ⟨xs,ys,hd,hd2,fW (by rw[q.length,q2.length];lia),λh' hd' u hs=>?_⟩;injection rL (qw prog w) hd' ((q.merged q2).mono λv x r=>jJ hs e r) with x0 es' m' hz;obtain⟨g1,g2,g3⟩:=hz
 revert h';intros h';intro hd' _ hs g1 g2;exact kk ρ h' s.toks _ (Goes.update (LG hi) hs List.not_mem_nil) (D.update hi hs ⟨_,e,by simp[aN]⟩ ⟨es',m',g1,g2,g3⟩) .none
inductive Dc(ρ:List Addr)(h:Heap):List Str->List V->List (Value×Value)->Prop
 |nil:Dc ρ h [] [] []
 |cons {k:Str} {t:Tok} {v:V} {x:Value} {ks:List Str} {l:List V} {vs:List (Value×Value)}:VR ρ h v x->Dc ρ h ks l vs->Dc ρ h (k::ks) (v::l) ((.str k t,x)::vs)
abbrev zK(prog:Program)(w:World)(base:Heap)(n:Nat)(env:Env)(le:List (Str×V))(ks:List Str)(pairs:List (Sem Value×Sem Value))(m:M (List V)):Prop:=
 bI prog w base n env le (evalPairs pairs) m (λρ h l vs=>Dc ρ h ks l vs)
theorem Dc.IV{ks:List Str}{l:List V}{vs:List (Value×Value)}(H:Dc ρ h ks l vs):∃ kvs,Carries (strKind prog w) vs kvs/\cI (VR ρ h) (ks.zip l) kvs/\kvs.length=l.length:=by
 induction H with
 |nil=>exact⟨[],trivial,.nil,rfl⟩
 |@cons k t v x ks l vs r _ ih=>
  obtain⟨kvs,a,b,c⟩:=ih;exact⟨(k,x)::kvs,⟨strKind_is prog w k t,rfl,a⟩,.cons r b,by simp[c]⟩
theorem yj:zK prog w base n env le [] [] (pure []):=λA σ ρ s P=>Runs.pure P.D .nil
theorem gM{k:Str}{c:Nat}{kp pos:Pos}{e:Expr}{ks:List Str}{pairs:List (Sem Value×Sem Value)}{m:M V}{ms:M (List V)}(h:aC prog w base n env le e m)(h':zK prog w base n env le ks pairs ms) :
  zK prog w base n env le (k::ks) ((eval (.Constant (.str k) c kp) env,(do let x<-eval e env;standAt pos;pure x))::pairs) (do let v<-m;let l<-ms;pure (v::l)):=by
 revert h h';revert ms;revert prog w base n env le k c kp pos e ks pairs m;apply b9;generalize cM=zt;generalize zt.1.1.1=prog,zt.1.1.2.1=w,zt.1.1.2.2=base,zt.1.2.1.1=n,zt.1.2.1.2=env,zt.1.2.2.1=le,zt.1.2.2.2=k,zt.2.1.1=c,zt.2.1.2.1=kp,zt.2.1.2.2=pos,zt.2.2.1.1=e,zt.2.2.1.2=ks,zt.2.2.2.1=pairs,zt.2.2.2.2=m;intros ms;intro h h';intros A σ ρ s;intro P;show Runs _ _ _ _ _ (eval (.Constant (.str k) c kp) env>>=λkv=>holding [kv] (eval e env>>=λx=>standAt pos>>=λu=>pure x)>>=λvv=>holding [kv,vv] (evalPairs pairs)>>=λr=>pure ((kv,vv)::r)) _ _ _ _;refine Runs.bind (m:=(pure (V.str k):M V)) (g:=λu=>do let v<-m;let l<-ms;pure (v::l)) (av A σ ρ s P) ?_;intros kv σ1;intro q;intros ρ1 h1a tk1 x;intro G1a D1a r;cases q;have P1:=P.step G1a D1a;obtain⟨t,rfl⟩:∃ t,x=.str k t:=by cases r;exact⟨_,rfl⟩
 revert t;intros t;intro r;have hv:Runs prog w base A [] (eval e env>>=λx=>standAt pos>>=λu=>pure x) {s with heap:=h1a,toks:=tk1} ρ1 ((m>>=λv=>pure v) σ) VR:=
  Runs.bind (h A σ ρ1 {s with heap:=h1a,toks:=tk1} P1) λv σ2 u ρ2 h2a tk2 y G2a D2a ry=>Runs.aY (Runs.pure D2a ry)
 rw[M.bind_pure] at hv;refine Runs.bind (Runs.holding hv) ?_;intros v σ2;intro u;intros ρ2 h2a tk2 y;intro G2a D2a ry;have P2:=P1.step G2a D2a;refine Runs.bind (Runs.holding (h' A σ2 ρ2 {s with heap:=h2a,toks:=tk2} P2)) ?_;intros l σ3;intro u;intros ρ3 h3a tk3 vs;intro G3a D3a rs;exact Runs.pure D3a (.cons (P2.vr G3a ry) rs)
theorem vF{ks:List Str}{keys:List (Option Expr)}{values:List Expr}{pos:Pos}{pairs:List (Sem Value×Sem Value)}{m:M (List V)}(h:zK prog w base n env le ks pairs m)
 (hshape:(evalEachOpt keys env).zip ((evalEach values env).map λv=>do let x<-v;standAt pos;pure x)=pairs.map λp=>(some p.1,p.2))(h0:pairs≠[])(hlen:pairs.length<=15) :
  aC prog w base n env le (.Dict keys values pos) (do let l<-m;vm ks l):=by
 revert h hshape h0 hlen;revert pairs m;revert prog w base n env le ks keys values pos;apply cK;generalize dm=zt;generalize zt.1.1.1=prog,zt.1.1.2=w,zt.1.2.1=base,zt.1.2.2.1=n,zt.1.2.2.2=env,zt.2.1.1=le,zt.2.1.2=ks,zt.2.2.1=keys,zt.2.2.2.1=values,zt.2.2.2.2=pos;intros pairs m;intro h hshape h0 hlen;intros A σ ρ s;intro P;have kp:∀ c o,s.heap.get? c=some o->(s.heap.push (aN #[] 0)).get? c=some o:=λc o e=>aP _ _ e;have P0:Pre w base n A env le σ ρ (s.heap.push (aN #[] 0)):=P.step Goes.push (P.D.keeps kp);have z:=h A σ ρ {s with heap:=s.heap.push (aN #[] 0)} P0;rw[M.bind_eq];have eN:(s.heap.push (aN #[] 0)).get? s.heap.objs.size=some (aN #[] 0):=LK _ rfl;have nρ:s.heap.objs.size∉ρ:=λq=>LV _ (P.D.lt q);have nF:s.heap.objs.size∉frs A:=λq=>by
  obtain⟨o,e,_⟩:=P.S.cls _ q;rw[dD] at e;cases e
 cases hm:m σ with
 |none=>trivial
 |some r=>
  revert r;intros r;intro hm;obtain⟨r,σ1⟩:=r;revert r σ1;intros r σ1;intro hm;rw[hm] at z;have DN:∀ h:Heap,(aN #[] 0)=(aN #[] 0)->h.get? s.heap.objs.size=some (aN #[] 0)->h.DictOf (strKind prog w) s.heap.objs.size []:=λh u e=>
   ⟨_,#[],0,e,⟨rfl,rfl,rfl⟩,rfl,λu he=>by simp at he,Pairs.nil,List.nodup_nil⟩
  cases r with
  |error v=>
   revert v;intros v;intro z hm;intros Q E;intro k;refine wpAny_Dict_pairs (knd:=strKind prog w) hshape h0 hlen (z _ E λρ' h' tk x G D e=>k ρ' h' tk x (Goes.push.trans G) D (e.older (FR:=frs A) (X:=[]) Goes.push P0.D))
  |ok l=>
   revert l;intros l;intro z hm;show Runs _ _ _ _ _ _ _ _ (vm ks l σ1) _;unfold vm;split
   ·rename_i hl;intros Q E;intro k;refine wpAny_Dict_pairs (knd:=strKind prog w) hshape h0 hlen (z _ E ?_);intros ρ' h1a tk vs;intro G D rs;have e1:=G.exact eN nρ List.not_mem_nil nF;have n1:s.heap.objs.size∉ρ':=G.gu eN nρ;injection rs.IV (prog:=prog) (w:=w) with x0 kvs hz;obtain⟨hc,hk,hlk⟩:=hz
    refine⟨kvs,hc,DN _ rfl e1,λh2a hd hs=>?_⟩;have hmg:cI (VR ρ' h1a) (kK [] (ks.zip l)) (PySem.merged [] kvs):=cI.merged .nil hk;have hbn:base.get? s.heap.objs.size=none:=by
     cases q:base.get? s.heap.objs.size with
     |none=>rfl
     |some o=>
      have:=P.D.sub _ _ q;rw[dD] at this;cases this
    have Dh:Rep w base ρ' σ1 h2a:=D.hidden λc o q cc=>(hs.2 c λz=>by
     subst z;rcases cc with cc|cc|⟨us,j,cc⟩
     ·exact n1 cc
     ·rw[hbn] at cc;cases cc
     ·rw[e1] at q;cases q;simp[aN] at cc).trans q
    injection rL (KR:=l0) (R:=VR (ρ'++[s.heap.objs.size]) h2a) (qw prog w) hd (hmg.mono λv x r=>(jJ hs e1 r).mono iU λu u u z=>z) with x0 es' m' hz;obtain⟨g1,g2,g3⟩:=hz
    revert h2a;intros h2a;intro hd hs Dh g1 g2;have low:mainGlobals<s.heap.objs.size:=by
     obtain⟨o,ho⟩:=P.D.glob;exact LM (P.D.sub _ _ ho)
    have Da:=Dh.adopt (o:=.sd (kK [] (ks.zip l))) n1 hbn low ⟨es',m',g1,g2,g3⟩;have Gd:Goes (frs A) [] ρ (ρ'++[s.heap.objs.size]) s.heap h2a:=by
     have Gy:Goes (frs A) ([]++[s.heap.objs.size]) ρ ρ' s.heap h1a:=(Goes.push.trans G).mono (λu u u q=>q) (λu u u q=>nomatch q) λc o e q=>by
      rw[List.mem_singleton.mp q,dD] at e;cases e
     exact(Gy.done (λc hc=>by rw[List.mem_singleton.mp hc];exact dD _) λc o q e=>(hs.2 c λz=>q (z▸.head _)).trans e).adopt (dD _)
    exact k (ρ'++[s.heap.objs.size]) h2a _ _ Gd Da (.obj (jS Dh.len))
   ·trivial
end
def dQ(n:Nat):V->Bool:=Nat.rec (motive:=λu=>V->Bool) (λv=>v.isInt||v.isStr) (λu ih v=>(v.isInt||v.isStr)||v.dh.elim false λl=>l.all ih) n
def Jx(v:V):Bool:=v.isNone||(v.isInt||(v.asBytes.isSome||v.dh.elim false λl=>l.all (dQ 3)))
def lF(t:Str)(v:V):Bool:=(t==("bool":Str)&&v.qV.isSome)||(t !=("bool":Str)&&Jx v)
def rV(v:V):Bool:=v.dh.elim false λl=>(two l).elim false λq=>q.1.iC.elim false λt=>lF t q.2
def lG(l:List V):Bool:=l.all rV
def iP:V->Nat:=V.fold (λu=>1) (λn=>n+1) 0 (λa b=>a+b)
def jO:List V->Nat:=V.EF (λu=>1) (λn=>n+1) 0 (λa b=>a+b)
def j7(l:List V):Bool:=lG l&&decide (jO l<=300)
theorem fN{α:Type}[BEq α][LawfulBEq α][DecidableEq α](a b:α):(a==b)=decide (a=b):=by
 rw[Bool.eq_iff_iff];simp
theorem Cy{m:Nat}{l r:List V}(h:∀ a∈l,∀ b∈r,dM m a b=some (decide (a=b))):∃ x,jx m l r=some x/\(x&&l.length==r.length)=decide (l=r):=by
 revert r
 induction l with
 |nil=>exact λ{r} u=>List.casesOn (motive:=λr=>∃ x,jx m [] r=some x/\(x&&([]:List V).length==r.length)=decide ([]=r)) r ⟨true,rfl,(decide_eq_true rfl).symm⟩ λu u=>⟨true,rfl,(decide_eq_false λz=>nomatch z).symm⟩
 |cons a l ih=>
  intro r h;cases r with
  |nil=>exact⟨true,rfl,(decide_eq_false λz=>nomatch z).symm⟩
  |cons b r=>
   obtain⟨x,h1,h2⟩:=ih λa' ha b' hb=>h a' (.tail _ ha) b' (.tail _ hb);refine⟨decide (a=b)&&x,by rw[iE,h a (.head _) b (.head _),h1];rfl,?_⟩;rw[List.length_cons,List.length_cons,Bool.and_assoc,show (l.length+1==r.length+1)=(l.length==r.length) from Bool.eq_iff_iff.mpr (by rw[beq_iff_eq,beq_iff_eq,Nat.succ_inj]),h2,<- Bool.decide_and];exact decide_eq_decide.mpr ⟨λz=>z.1▸z.2▸rfl,List.cons.inj⟩
theorem w9{m:Nat}{l r:List V}(h:∀ a∈l,∀ b∈r,dM m a b=some (decide (a=b))):dM (m+1) (.tup l) (.tup r)=some (decide (V.tup l=V.tup r)):=by
 obtain⟨x,h1,h2⟩:=Cy h;rw[vB,h1];exact LH some (h2.trans (decide_eq_decide.mpr ⟨LH V.tup,V.tup.inj⟩))
theorem CV{v:V}{f:V->Bool}(h:(v.dh.elim false λl=>l.all f)=true):∃ l,v=.tup l/\∀ x∈l,f x=true:=by
 cases e:v.dh with
 |none=>rw[e] at h;exact nomatch h
 |some l=>rw[e] at h;exact⟨l,V.fC e,List.all_eq_true.mp h⟩
theorem pU{n:Nat}{p:V}(h:dQ n p=true):(∃ a,p=.int a)\/(∃ a,p=.str a)\/∃ k l,n=k+1/\p=.tup l/\∀ x∈l,dQ k x=true:=by
 have f:(p.isInt||p.isStr)=true->(∃ a,p=.int a)\/(∃ a,p=.str a)\/∃ k l,n=k+1/\p=.tup l/\∀ x∈l,dQ k x=true:=λh=>(Bool.or_eq_true_iff.mp h).imp V.pY λh=>.inl (V.um h);cases n with
 |zero=>exact f h
 |succ k=>exact(Bool.or_eq_true_iff.mp h).elim f λh=>.inr (.inr ((CV h).elim λl z=>⟨k,l,rfl,z⟩))
theorem nJ{m:Nat}{p q:V}{r:Bool}(e:i8 p q=some r):dM m p q=some r:=by
 cases m with
 |zero=>exact e
 |succ m=>
  cases h:p.dh.bind λl=>q.dh.map λr=>(l,r) with
  |none=>exact(LH (λo:Option (List V×List V)=>o.elim (i8 p q) λp=>(jx m p.1 p.2).map λr=>r&&p.1.length==p.2.length) h).trans e
  |some x=>
   obtain⟨l,h1,h2⟩:=Lv h;obtain⟨l',h3,_⟩:=Lw h2;rw[V.fC h1,V.fC h3] at e;exact nomatch e
theorem qq{m:Nat}{p q:V}(e:i8 p q=some false)(n:p≠q):dM m p q=some (decide (p=q)):=nJ (e.trans (LH some (decide_eq_false n).symm))
theorem eq_int{m:Nat}{a b:Int}:dM m (.int a) (.int b)=some (decide (V.int a=.int b)):=nJ (LH some ((fN a b).trans (decide_eq_decide.mpr ⟨LH V.int,V.int.inj⟩)))
theorem eq_str{m:Nat}{a b:Str}:dM m (.str a) (.str b)=some (decide (V.str a=.str b)):=nJ (LH some ((fN a b).trans (decide_eq_decide.mpr ⟨LH V.str,V.str.inj⟩)))
theorem C9{n:Nat}(ih:∀ k,n=k+1->∀ (m:Nat) (p q:V),dQ k p=true->dQ k q=true->k<=m->dM m p q=some (decide (p=q)))(m:Nat)(p q:V)(h1:dQ n p=true)(h2:dQ n q=true)(h:n<=m):dM m p q=some (decide (p=q)):=by
 rcases pU h1 with ⟨a,hp⟩|⟨a,hp⟩|⟨k,l,e,hp,hl⟩<;>rcases pU h2 with ⟨b,hq⟩|⟨b,hq⟩|⟨k',r,e',hq,hr⟩<;>rw[hp,hq]
 ·exact eq_int
 ·exact qq rfl λz=>nomatch z
 ·exact qq rfl λz=>nomatch z
 ·exact qq rfl λz=>nomatch z
 ·exact eq_str
 ·exact qq rfl λz=>nomatch z
 ·exact qq rfl λz=>nomatch z
 ·exact qq rfl λz=>nomatch z
 ·cases m with
  |zero=>rw[e] at h;exact LW h (Nat.not_succ_le_zero k)
  |succ m=>exact w9 λx hx y hy=>ih k e m x y (hl x hx) (Nat.succ.inj (e.symm.trans e')▸hr y hy) (Nat.le_of_succ_le_succ (by rw[e] at h;exact h))
theorem eqQ{n:Nat}:∀ (m:Nat) (p q:V),dQ n p=true->dQ n q=true->n<=m->dM m p q=some (decide (p=q)):=
 Nat.rec (motive:=λn=>∀ (m:Nat) (p q:V),dQ n p=true->dQ n q=true->n<=m->dM m p q=some (decide (p=q))) (C9 λk e=>nomatch e) (λn ih=>C9 λk e=>Nat.succ.inj e▸ih) n
def zI(p:V):Prop:=p=.none\/(∃ a,p=.int a)\/(∃ a,p=.bytes a)\/∃ l,p=.tup l/\∀ x∈l,dQ 3 x=true
theorem lZ{t:Str}{p:V}(h:lF t p=true):(t="bool"/\∃ b,p=.bool b)\/(t≠"bool"/\zI p):=
 (Bool.or_eq_true_iff.mp h).imp (λh=>⟨beq_iff_eq.mp (Bool.and_eq_true_iff.mp h).1,(Option.isSome_iff_exists.mp (Bool.and_eq_true_iff.mp h).2).imp λu=>V.wB⟩) λh=>
  ⟨bne_iff_ne.mp (Bool.and_eq_true_iff.mp h).1,(Bool.or_eq_true_iff.mp (Bool.and_eq_true_iff.mp h).2).imp V.none_of λh=>(Bool.or_eq_true_iff.mp h).imp V.pY λh=>(Bool.or_eq_true_iff.mp h).imp (λh=>(Option.isSome_iff_exists.mp h).imp λu=>V.Hu) CV⟩
theorem Dd{q:V}(h:zI q)(b:Bool):(∃ x,dM 18 (.bool b) q=some x)/\∃ x,dM 18 q (.bool b)=some x:=by
 rcases h with h|⟨a,h⟩|⟨a,h⟩|⟨a,h,_⟩<;>rw[h]<;>exact⟨⟨_,nJ rfl⟩,⟨_,nJ rfl⟩⟩
theorem Kd{p q:V}(h1:zI p)(h2:zI q):dM 18 p q=some (decide (p=q)):=by
 rcases h1 with hp|⟨a,hp⟩|⟨a,hp⟩|⟨l,hp,hl⟩<;>rcases h2 with hq|⟨b,hq⟩|⟨b,hq⟩|⟨r,hq,hr⟩<;>rw[hp,hq]<;>try exact qq rfl λz=>nomatch z
 ·exact nJ (LH some (decide_eq_true rfl).symm)
 ·exact eq_int
 ·exact nJ (LH some ((fN a b).trans (decide_eq_decide.mpr ⟨LH V.bytes,V.bytes.inj⟩)))
 ·exact w9 (m:=17) λx hx y hy=>eqQ 17 x y (hl x hx) (hr y hy) (by decide)
theorem Ls{t t':Str}{p q:V}(hp:lF t p=true)(hq:lF t' q=true):∃ x,dM 18 p q=some x/\(t=t'->x=decide (p=q)):=by
 rcases lZ hp with ⟨e,a,h⟩|⟨e,h⟩<;>rcases lZ hq with ⟨e',b,h'⟩|⟨e',h'⟩
 ·rw[h,h'];exact⟨_,nJ rfl,λu=>(fN a b).trans (decide_eq_decide.mpr ⟨LH V.bool,V.bool.inj⟩)⟩
 ·rw[h];exact(Dd h' a).1.imp λx z=>⟨z,λq=>LW (q▸e) e'⟩
 ·rw[h'];exact(Dd h b).2.imp λx z=>⟨z,λq=>LW (q▸e') e⟩
 ·exact⟨_,Kd h h',λu=>rfl⟩
theorem mC{a:V}(h:rV a=true):∃ t p,a=.tup [.str t,p]/\lF t p=true:=by
 unfold rV at h;cases e:a.dh with
 |none=>rw[e] at h;exact nomatch h
 |some l=>
  rw[e] at h;replace h:((two l).elim false λq=>q.1.iC.elim false λt=>lF t q.2)=true:=h;cases e2:two l with
  |none=>rw[e2] at h;exact nomatch h
  |some q=>
   rw[e2] at h;replace h:(q.1.iC.elim false λt=>lF t q.2)=true:=h;cases e3:q.1.iC with
   |none=>rw[e3] at h;exact nomatch h
   |some t=>rw[e3] at h;exact⟨t,q.2,(V.fC e).trans (LH V.tup ((two_of e2).trans (LH (λx=>[x,q.2]) (V.jg e3)))),h⟩
theorem Lp{a b:V}(ha:rV a=true)(hb:rV b=true):dM 19 a b=some (decide (a=b)):=by
 obtain⟨t,p,h,ha⟩:=mC ha;obtain⟨t',q,h',hb⟩:=mC hb;obtain⟨x,e,hx⟩:=Ls ha hb;rw[h,h',vB,iE,iE,e];show some ((t==t')&&(x&&true)&&true)=_;rw[Bool.and_true,Bool.and_true,fN];by_cases z:t=t'
 ·rw[hx z,<- Bool.decide_and];exact LH some (decide_eq_decide.mpr ⟨λy=>y.1▸y.2▸rfl,λy=>⟨z,(List.cons.inj (List.cons.inj (V.tup.inj y)).2).1⟩⟩)
 ·rw[decide_eq_false z];exact LH some (decide_eq_false λy=>z (V.str.inj (List.cons.inj (V.tup.inj y)).1)).symm
theorem Kz{l r:List V}(hl:lG l=true)(hr:lG r=true):dM 20 (.tup l) (.tup r)=some (decide (l=r)):=
 (w9 λa ha b hb=>Lp (List.all_eq_true.mp hl a ha) (List.all_eq_true.mp hr b hb)).trans (LH some (decide_eq_decide.mpr ⟨V.tup.inj,LH V.tup⟩))
theorem qi{l:List V}(h:∀ a∈l,plain a=true):gZ l=true:=by
 induction l with
 |nil=>rfl
 |cons a l ih=>exact Bool.and_eq_true_iff.mpr ⟨h a (.head _),ih λb hb=>h b (.tail _ hb)⟩
theorem DI{l:List V}(h:gZ l=true){a:V}(ha:a∈l):plain a=true:=by
 induction l with
 |nil=>exact nomatch ha
 |cons b l ih=>exact(Lx ha).elim (λz=>z▸(fJ h).1) (ih (fJ h).2)
theorem uY{n:Nat}(ih:∀ k,n=k+1->∀ p,dQ k p=true->plain p=true)(p:V)(h:dQ n p=true):plain p=true:=
 (pU h).elim (λz=>z.elim λa z=>z▸rfl) λz=>z.elim (λz=>z.elim λa z=>z▸rfl) λ⟨k,l,e,z,hl⟩=>z▸(show gZ l=true from qi λa ha=>ih k e a (hl a ha))
theorem xq{n:Nat}:∀ p:V,dQ n p=true->plain p=true:=
 Nat.rec (motive:=λn=>∀ p:V,dQ n p=true->plain p=true) (uY λk e=>nomatch e) (λn ih=>uY λk e=>Nat.succ.inj e▸ih) n
theorem Di{t:Str}{p:V}(h:lF t p=true):plain p=true:=by
 rcases lZ h with ⟨_,a,h⟩|⟨_,h|⟨a,h⟩|⟨a,h⟩|⟨l,h,hl⟩⟩<;>rw[h]<;>first|rfl|exact qi λb hb=>xq b (hl b hb)
theorem wm{l:List V}(h:lG l=true):gZ l=true:=qi λa ha=>by
 obtain⟨t,p,e,hp⟩:=mC (List.all_eq_true.mp h a ha);rw[e];show (plain (.str t)&&(plain p&&true))=true;rw[Di hp];rfl
section
variable{prog:Program}{w:World}{E:Value->Shared->Prop}{ρ:List Addr}
def Ie(prog:Program)(w:World)(E:Value->Shared->Prop)(h:Heap)(v:V)(x:Value):Prop:=plain v=true->∀ (A:Around) (s:Shared) (Q:Int->Shared->Prop),s.heap=h->A.units+iP v<cLine ->
 Q (hashW w.params (pO w.params v)) {s with toks:=s.toks+iP v}->wpAny (model prog w) A (pyHash x) Q E s
def JJ(prog:Program)(w:World)(E:Value->Shared->Prop)(h:Heap)(l:List V)(vs:List Value):Prop:=gZ l=true->∀ (A:Around) (s:Shared) (b:Array Int) (Q:Array Int->Shared->Prop),s.heap=h->A.units+jO l<cLine ->
 (∀ b',b'.toList=b.toList++hashesW w.params (Kx w.params l)->Q b' {s with toks:=s.toks+jO l})->wpAny (model prog w) A (forIn vs b λx r=>do let h<-pyHash x;pure PUnit.unit;pure (ForInStep.yield (r.push h))) Q E s
theorem GH{h:Heap}{v:V}{x:Value}(r:VR ρ h v x):Ie prog w E h v x:=by
 revert r;revert prog w E ρ h v x;intros prog w E ρ;intros h v x;intro r;refine VR.rec (motive_1:=λv x u=>Ie prog w E h v x) (motive_2:=λl vs u=>JJ prog w E h l vs) ?c1 ?c2 (λi t u A s Q u hu k=>wpAny_pyHash_int (hashW_int w.params i▸k)) (λy t u A s Q u u k=>wpAny_pyHash_str k) ?c5 ?c6 (λu hp=>Bool.noConfusion (hp:false=true)) (λu hp=>Bool.noConfusion (hp:false=true)) (λu hp=>Bool.noConfusion (hp:false=true)) (λu hp=>Bool.noConfusion (hp:false=true))
  (λu A s b Q u u k=>LC (k b (List.append_nil _).symm)) ?c12 r
 case c1=>
  exact λu A s Q u hu h=>pyHash_slot (T:="NoneType") rfl F.slot_NoneType_hash F.entry_NoneType_hash (F.args_NoneType_hash_1 _) (beq_builtin_none _) (.inr (L8 (Nat.le_add_right _ _) hu)) (LB (LC (LB (wpAny_mkInt (LC ⟨_,_,rfl,h⟩)))))
 case c2=>
  intro b u A s Q u hu h;refine pyHash_slot (T:="bool") rfl F.slot_bool_hash entry_int_hash (args_int_hash _) (beq_builtin_none _) (.inr (L8 (Nat.le_add_right _ _) hu)) ?_;cases b
  ·exact(show wpAny _ _ (do ret (<- mkInt 0)) _ _ s from LB (wpAny_mkInt (LC ⟨_,_,rfl,h⟩)))
  ·exact(show wpAny _ _ (do ret (<- mkInt 1)) _ _ s from LB (wpAny_mkInt (LC ⟨_,_,rfl,h⟩)))
 case c5=>
  intro b t u A s Q u hu h;refine pyHash_slot (T:="bytes") rfl FB.slot_bytes_hash FB.entry_bytes_hash (FB.args_bytes_hash_1 _) (beq_builtin_none _) (.inr (L8 (Nat.le_add_right _ _) hu)) ?_;show wpAny _ _ (strHash ⟨b.map (·.toNat)⟩>>=λi=>(do ret (<- mkInt i))) _ _ s;unfold strHash;obtain⟨b⟩:=b;exact LB (LB (wpAny_askSetting (LC (LB (wpAny_mkInt (LC ⟨_,_,rfl,h⟩))))))
 case c6=>
  intro a vs n l e u ih hp A s Q hs hu k;have e':=hs▸e;replace hu:A.units+(jO l+1)<cLine:=hu;refine pyHash_slot (T:="tuple") ⟨_,e',rfl⟩ F.slot_tuple_hash F.entry_tuple_hash (F.args_tuple_hash_1 _) (beq_builtin_none _) (.inr (L8 (Nat.le_add_right _ _) hu)) ?_;show wpAny _ _ (Builtin.Tuple.tupleItemsOf (.ref a)>>=_) _ _ s;refine LB (wpAny_tupleItemsOf e' rfl ?_);refine LB ?_;rw[<- Array.forIn_toList];refine ih hp A.in1 s #[] _ hs (by rw[Around.in1_units];lia) λb hb=>?_;show wpAny _ _ (retInt (Builtin.Tuple.tupleHashOf b.toList)) _ _ _;rw[hb];exact LB (wpAny_mkInt (LC ⟨_,_,rfl,k⟩))
 case c12=>
  intro v x l vs u u iv il hp A s b Q hs hu k;replace hu:A.units+(iP v+jO l)<cLine:=hu;rw[List.forIn_cons];refine LB (LB (iv (fJ hp).1 A s _ hs (by lia) ?_));refine LB (LC (LC ?_));refine il (fJ hp).2 A {s with toks:=s.toks+iP v} _ Q hs (by lia) λb' hb=>?_;have:=k b' (by rw[hb,Array.toList_push,List.append_assoc];rfl);exact Nat.add_assoc s.toks (iP v) (jO l)▸this
theorem J0(v:V)(x:Value)(A:Around)(s:Shared)(Q:Int->Shared->Prop)(hp:plain v=true)(r:VR ρ s.heap v x)(hu:A.units+iP v<cLine)(k:Q (hashW w.params (pO w.params v)) {s with toks:=s.toks+iP v}):wpAny (model prog w) A (pyHash x) Q E s:=GH r hp A s Q rfl hu k
theorem VR.quiet{h:Heap}{v:V}{x:Value}(r:VR ρ h v x)(hp:plain v=true):(∃ l,v=.tup l)\/carriedByValue x=true:=by
 cases r<;>first|exact .inr rfl|exact .inl ⟨_,rfl⟩|exact Bool.noConfusion (hp:false=true)
theorem tw{A:Around}{s:Shared}:∀ (d:Nat) {v:V} {x:Value} {Q:Bool->Shared->Prop},plain v=true->VR ρ s.heap v x->(∀ (l:List V),v=.tup l->0<d/\∀ a∈l,∀ y (Q:Bool->Shared->Prop),VR ρ s.heap a y->Q true s->wpAny (model prog w) A (eqIsQuiet (d - 1) y) Q E s)->Q true s->wpAny (model prog w) A (eqIsQuiet d x) Q E s:=by
 intro d v x Q hp r ht h;rcases r.quiet hp with ⟨l,rfl⟩|q
 rotate_left
 ·rw[eqIsQuiet_byValue _ q];exact LC h
 obtain⟨a,vs,n,rfl,e,rl⟩:=r.vO;obtain⟨hd,hall⟩:=ht l rfl;have hT:s.TypeIs (.ref a) "tuple":=⟨_,e,rfl⟩
 obtain⟨d,rfl⟩:∃ d',d=d'+1:=⟨d - 1,by lia⟩
 unfold eqIsQuiet;refine LB (wpAny_specialOf hT F.slot_tuple_eq.lookup ?_);show wpAny _ _ (isInstance (.ref a) (.type "tuple")>>=_) _ _ s;refine LB (wpAny_isInstance hT isSubtype_tuple_tuple ?_);simp only[Bool.not_true,Bool.false_eq_true,if_false];refine LB (wpAny_seqItems e rfl ?_);refine LB ?_;show wpAny _ _ (forIn vs _ _) _ _ s;rw[<- Array.forIn_toList];refine wpAny_forIn_list _ (λrest r s'=>r.1=none/\s'=s/\∃ l',bq ρ s.heap l' rest/\∀ a∈l',a∈l) _ ?_ ?_ _ _ ⟨rfl,rfl,l,rl,λu q=>q⟩
 ·rintro v rest r s' ⟨hr,rfl,l',rl',hsub⟩;cases rl' with
  |@cons a' _ l'' _ r1 r2=>
   refine LB (hall a' (hsub _ (.head _)) _ _ r1 ?_);simp only[Bool.not_true,Bool.false_eq_true,if_false];exact LC ⟨rfl,rfl,l'',r2,λb hb=>hsub b (.tail _ hb)⟩
 ·rintro ⟨r1,r2⟩ s' ⟨hr,rfl,_⟩;simp only at hr;subst hr;exact LC h
end
abbrev Mk:Type:={l:List V // j7 l=true}
theorem Mk.clean(k:Mk):lG k.1=true:=(Bool.and_eq_true_iff.mp k.2).1
theorem Mk.small(k:Mk):jO k.1<=300:=of_decide_eq_true (Bool.and_eq_true_iff.mp k.2).2
theorem Mk.plain(k:Mk):XM.plain (.tup k.1)=true:=wm k.clean
section
variable{prog:Program}{w:World}{E:Value->Shared->Prop}{ρ:List Addr}{A:Around}{s:Shared}
theorem xK{x:Value}{Q:Bool->Shared->Prop}(d:Nat)(q:carriedByValue x=true)(h:Q true s):wpAny (model prog w) A (eqIsQuiet d x) Q E s:=by
 rw[eqIsQuiet_byValue _ q];exact LC h
theorem J9:∀ (n d:Nat) {v:V} {x:Value} {Q:Bool->Shared->Prop},dQ n v=true->n<=d->VR ρ s.heap v x->Q true s->wpAny (model prog w) A (eqIsQuiet d x) Q E s:=by
 intro n
 induction n with
 |zero=>
  intro d v x Q hc _ r h;rcases r.quiet (xq v hc) with ⟨l,e⟩|q
  ·rw[e] at hc;exact Bool.noConfusion (hc:false=true)
  ·exact xK d q h
 |succ n ih=>
  intro d v x Q hc hd r h;refine tw d (xq v hc) (v:=v) r (λl e=>⟨LS (Nat.succ_pos n) hd,λa ha y Q' r' h'=>?_⟩) h;rw[e] at hc;exact ih (d - 1) (List.all_eq_true.mp (show l.all (dQ n)=true from hc) a ha) (Nat.le_sub_one_of_lt hd) r' h'
theorem EZ{k:Mk}{x:Value}{Q:Bool->Shared->Prop}(r:VR ρ s.heap (.tup k.1) x)(h:Q true s):wpAny (model prog w) A (eqIsQuiet 8 x) Q E s:=by
 refine tw 8 k.plain r (λl e=>⟨by decide,λa ha y Q' r' h'=>?_⟩) h;rw[<- V.tup.inj e] at ha;obtain⟨t,p,ea,hp⟩:=mC (List.all_eq_true.mp k.clean a ha);refine tw 7 (DI k.plain ha) r' (λl e=>⟨by decide,λb hb z Q'' r'' h''=>?_⟩) h';rw[<- V.tup.inj (ea.symm.trans e)] at hb;rcases Lx hb with hb|hb
 ·rw[hb] at r'';exact r''.oJ λu=>xK 6 rfl h''
 ·rw[List.mem_singleton.mp hb] at r'';refine tw 6 (Di hp) r'' (λl e=>⟨by decide,λc hc u Q3 r3 h3a=>?_⟩) h'';rcases lZ hp with ⟨_,b,q⟩|⟨_,q|⟨b,q⟩|⟨b,q⟩|⟨l',q,hl⟩⟩
  ·exact nomatch q.symm.trans e
  ·exact nomatch q.symm.trans e
  ·exact nomatch q.symm.trans e
  ·exact nomatch q.symm.trans e
  ·rw[<- V.tup.inj (q.symm.trans e)] at hc;exact J9 3 5 (hl c hc) (by decide) r3 h3a
end
def cP(prog:Program)(w:World):HeapKind prog w Mk where
 is h k a:=VR [] h (.tup k.1) (.ref a)
 hash k:=hashW w.params (pO w.params (.tup k.1))
 draws k:=iP (.tup k.1)
 room A:=A.units+400<cLine
 inj hx hy:=Subtype.ext (V.tup.inj (VR.inj hx hy (Mk.plain _) (Mk.plain _)))
 keeps r ho hd hs:=r.mono (λu u z=>z) λa vs n e=>(hs.2 a λz=>by subst z;rw[ho] at e;cases e;cases hd).trans e
 pyHash hu r h:=by
  rename_i A E s k a Q;refine J0 _ _ _ _ _ k.plain r ?_ h;have:=k.small;show A.units+(jO k.1+1)<cLine;lia
 eqBool hu hx hy h:=by
  rename_i x y a b Q;have e:=Kz x.clean y.clean;have e':decide (x.1=y.1)=decide (x=y):=by
   by_cases q:x=y
   ·subst q;simp
   ·have:x.1≠y.1:=λz=>q (Subtype.ext z);simp[q,this]
  exact E4 20 e hx hy (by lia) _ _ _ _ (by rw[e'];exact h)
 quiet r h:=EZ r h
inductive XR(ρ:List Addr)(h:Heap):List (List V×V)->List (Mk×Addr×Value)->Prop
 |nil:XR ρ h [] []
 |cons {k:Mk} {a:Addr} {x:Value} {v:V} {l:List (List V×V)} {xs:List (Mk×Addr×Value)}:VR [] h (.tup k.1) (.ref a)->VR ρ h v x->XR ρ h l xs->XR ρ h ((k.1,v)::l) ((k,a,x)::xs)
section
variable{prog:Program}{w:World}{base:Heap}{n:Nat}{env:Env}{le keep:List (Str×V)}{K:Frag}{mg mb:Str->Option Value}{α β γ δ:Type}{A:Around}{σ σ':ai}{ρ ρ':List Addr}{s:Shared}{h h' h0a:Heap}{l:List (List V×V)}{xs:List (Mk×Addr×Value)}
theorem dB.xr{es:List DictEntry}(r:dB (sZ h) (λk=>hashW w.params (pO w.params (.tup k))) (VR ρ h) l es)(hm:∀ p∈l,j7 p.1=true):∃ xs,es=xs.map (entryOfKey (cP prog w))/\XR ρ h l xs:=by
 induction r with
 |nil=>exact⟨[],rfl,.nil⟩
 |@cons k v e l es h1 h2 h3 _ ih=>
  obtain⟨xs,q1,q2⟩:=ih λp hp=>hm p (.tail _ hp);obtain⟨a,ha,r,_⟩:=h1;refine⟨(⟨k,hm _ (.head _)⟩,a,e.val)::xs,?_,.cons (k:=⟨k,hm _ (.head _)⟩) r h3 q2⟩;rw[List.map_cons,<- q1];refine LH (·::es) ?_;obtain⟨eh,ek,ev⟩:=e;simp only at ha h2;subst ha;subst h2;rfl
theorem XR.Ey(r:XR ρ h l xs):dB (sZ h) (λk=>hashW w.params (pO w.params (.tup k))) (VR ρ h) l (xs.map (entryOfKey (cP prog w))):=by
 induction r with
 |nil=>exact .nil
 |@cons k a x v l xs r1 r2 _ ih=>exact .cons ⟨a,rfl,r1,wm k.clean⟩ rfl r2 ih
theorem XR.is(r:XR ρ h l xs):∀ x∈xs,VR [] h (.tup x.1.1) (.ref x.2.1):=by
 induction r with
 |nil=>intro x hx;cases hx
 |cons r1 r2 _ ih=>
  intro x hx;rcases Lx hx with rfl|hx
  ·exact r1
  ·exact ih x hx
theorem XR.keys(r:XR ρ h l xs):l.map (·.1)=(xs.map (·.1)).map (·.1):=by
 induction r with
 |nil=>rfl
 |cons _ _ _ ih=>simp[ih]
theorem xP:∀ {ks:List Mk},(ks.map (·.1)).Nodup↔ks.Nodup
 |[]=>by simp
 |k::ks=>by
  rw[List.map_cons,List.nodup_cons,List.nodup_cons,xP (ks:=ks)];have:k.1∈ks.map (·.1)↔k∈ks:=by
   constructor
   ·intro h;obtain⟨q,hq,e⟩:=List.mem_map.mp h;rw[<- Subtype.ext e];exact hq
   ·intro h;exact List.mem_map.mpr ⟨k,h,rfl⟩
  rw[this]
theorem XR.nd(r:XR ρ h l xs):(l.map (·.1)).Nodup↔(xs.map (·.1)).Nodup:=by
 rw[r.keys];exact xP
theorem XR.length(r:XR ρ h l xs):l.length=xs.length:=by simpa using LH List.length r.keys
theorem XR.mono(r:XR ρ h l xs)(ht:∀ a vs n,h.get? a=some {cls:=.type "tuple",data:=.seq vs n}->h'.get? a=some {cls:=.type "tuple",data:=.seq vs n}):XR ρ h' l xs:=by
 induction r with
 |nil=>exact .nil
 |cons r1 r2 _ ih=>exact .cons (r1.mono (λu u z=>z) ht) (r2.mono (λu u z=>z) ht) ih
theorem XR.look(r:XR ρ h l xs)(k:Mk):match bX l k.1 with
  |some v=>∃ a x,atKey xs k=some (a,x)/\VR ρ h v x
  |none=>atKey xs k=none:=by
 induction r with
 |nil=>rfl
 |@cons k' a x v l xs r1 r2 _ ih=>
  unfold bX atKey at ih ⊢;rw[List.find?_cons,List.find?_cons];by_cases q:k'=k
  ·subst q;simp only[decide_true];exact⟨a,x,rfl,r2⟩
  ·have q':¬k'.1=k.1:=λe=>q (Subtype.ext e);simp only[q,q',decide_false];exact ih
theorem XR.append{l':List (List V×V)}{xs':List (Mk×Addr×Value)}(r:XR ρ h l xs)(r':XR ρ h l' xs'):XR ρ h (l++l') (xs++xs'):=by
 induction r with
 |nil=>exact r'
 |cons r1 r2 _ ih=>exact .cons r1 r2 ih
theorem XR.any(r:XR ρ h l xs)(k:Mk):(l.any λp=>decide (p.1=k.1))=(atKey xs k).isSome:=by
 induction r with
 |nil=>rfl
 |@cons k' a x v l xs r1 r2 _ ih=>
  unfold atKey at ih ⊢;rw[List.any_cons,List.find?_cons];by_cases q:k'=k
  ·subst q;simp
  ·have q':¬k'.1=k.1:=λe=>q (Subtype.ext e);simp only[q,q',decide_false,Bool.false_or];exact ih
theorem XR.sA{k:Mk}{v:V}{x:Value}(r:XR ρ h l xs)(rv:VR ρ h v x):XR ρ h (l.map λp=>if p.1=k.1 then (p.1,v) else p) (xs.map (putAt k x)):=by
 induction r with
 |nil=>exact .nil
 |@cons k' a' x' v' l xs r1 r2 _ ih=>
  simp only[List.map_cons,putAt];by_cases q:k'=k
  ·subst q;simp only[if_true];exact .cons r1 rv ih
  ·have q':¬k'.1=k.1:=λe=>q (Subtype.ext e);simp only[q,q',if_false];exact .cons r1 r2 ih
theorem XR.stored{k:Mk}{a:Addr}{v:V}{x:Value}(r:XR ρ h l xs)(rk:VR [] h (.tup k.1) (.ref a))(rv:VR ρ h v x):XR ρ h (bN l k.1 v) (storedH xs k a x):=by
 unfold bN storedH;rw[r.any];split
 ·exact r.sA rv
 ·exact r.append (.cons rk rv .nil)
theorem XR.without{k:Mk}(r:XR ρ h l xs):XR ρ h (cH l k.1) (xs.filter λy=>decide (y.1≠k)):=by
 unfold cH
 induction r with
 |nil=>exact .nil
 |@cons k' a' x' v' l xs r1 r2 _ ih=>
  rw[List.filter_cons,List.filter_cons];by_cases q:k'=k
  ·subst q;simpa using ih
  ·have q':¬k'.1=k.1:=λe=>q (Subtype.ext e);simp only[ne_eq,q,q',not_false_eq_true,decide_true,if_true];exact .cons r1 r2 ih
theorem r5{k:Mk}:∀ {xs:List (Mk×Addr×Value)} {j:Nat} {p:Addr×Value},(xs.map (·.1)).Nodup->xs[j]?=some (k,p)->(xs.filter λy=>decide (y.1≠k))=xs.eraseIdx j
 |[],j,p,_,h=>by simp at h
 |y::xs,j,p,hn,h=>by
  rw[List.map_cons,List.nodup_cons] at hn;cases j with
  |zero=>
   simp only[List.getElem?_cons_zero,Option.some.injEq] at h;subst h;rw[List.filter_cons];simp only[ne_eq,not_true_eq_false,decide_false,Bool.false_eq_true,if_false,List.eraseIdx_cons_zero];rw[List.filter_eq_self];intro z hz;simp only[decide_not,Bool.not_eq_true',decide_eq_false_iff_not];intro e;exact hn.1 (e▸List.mem_map.mpr ⟨z,hz,rfl⟩)
  |succ j=>
   simp only[List.getElem?_cons_succ] at h;have hy:y.1≠k:=λe=>hn.1 (e▸List.mem_map.mpr ⟨_,LG h,rfl⟩);rw[List.filter_cons,List.eraseIdx_cons_succ,<- r5 hn.2 h];simp only[ne_eq,hy,not_false_eq_true,decide_true,if_true]
theorem xQ{α β:Type}(f:α->β):∀ (l:List α) (j:Nat),(l.eraseIdx j).map f=(l.map f).eraseIdx j
 |[],_=>rfl
 |a::l,0=>rfl
 |a::l,j+1=>by simp[xQ f l j]
theorem BV{d a:Addr}{k:Mk}{E:Value->Shared->Prop}{Q:Option DictEntry->Shared->Prop}(hu:(cP prog w).room A)(hkey:(cP prog w).is s.heap k a)(hm:s.heap.DictOfH (cP prog w) d xs)
 (hnone:atKey xs k=none->Q none {s with toks:=s.toks+iP (.tup k.1)})
 (hsome:∀ e p,atKey xs k=some p->e.val=p.2->∀ h',h'.DictOfH (cP prog w) d (xs.filter λy=>decide (y.1≠k))->Heap.SameBut d s.heap h'->Q (some e) {s with heap:=h',toks:=s.toks+iP (.tup k.1)})
 (hsz:xs.length<=sizeLine) :
  wpAny (model prog w) A (Builtin.Dict.takeOut d (.ref a)) Q E s:=by
 obtain⟨o,es,ep,ho,hc,hd,he,his,hn⟩:=hm;have hes:es.size<=sizeLine:=by rw[size_of_entries he];exact hsz
 unfold Builtin.Dict.takeOut
 try with_reducible refine LU ?_
 refine LB ((cP prog w).pyHash hu hkey ?_);refine LB (wpAny_dictFind_heap (s:={s with toks:=s.toks+(cP prog w).draws k}) hu hkey ho hd he his hn ?_ ?_)
 ·intro hno;exact LC (hnone (atKey_none_of_get hno))
 ·intro j p hj;refine LB (wpAny_dictEntries (s:={s with toks:=s.toks+(cP prog w).draws k}) ho hd ?_);rw[entry_at he j,hj];refine LB (wpAny_updateDictKeys (hz:=hes) (s:={s with toks:=s.toks+(cP prog w).draws k}) ho hd (LC (hsome _ p (atKey_of_get hn hj) rfl _ ⟨_,es.eraseIdxIfInBounds j,ep+1,LN _ ho (Obj.isFreed_of_dict (Obj.data_mapDictKeys hd _)),
   hc.mapDictKeys _,Obj.data_mapDictKeys hd _,?_,?_,?_⟩ (LQ ..))))
  ·rw[r5 hn hj,xQ,<- he];obtain⟨el⟩:=es;simp
  ·intro x hx;exact(cP prog w).keeps (his x ((List.mem_filter.mp hx).1)) ho hd (LQ ..)
  ·exact List.Sublist.nodup (List.Sublist.map _ List.filter_sublist) hn
end
def iw(l:List (List V×V))(k:List V):Bool:=l.all (λp=>j7 p.1)&&j7 k&&decide (l.length<=1000)
def JA(σ:ai)(j:Nat)(v:V):Option (Except V V×ai):=v.dh.bind λk=>(jC σ j).bind λl=>if iw l k=true then some (.ok ((bX l k).getD .none),σ) else none
def s9(l:List V):M V:=λσ=>(two l).bind λp=>p.1.bO.bind λj=>JA σ j p.2
def J2(σ:ai)(j:Nat)(v d:V):Option (Except V V×ai):=v.dh.bind λk=>(jC σ j).bind λl=>if iw l k=true then some ((bX l k).elim (.ok d,σ) λv=>(.ok v,σ.set j (.td (cH l k)))) else none
def AS(l:List V):M V:=λσ=>(three l).bind λp=>p.1.bO.bind λj=>J2 σ j p.2.1 p.2.2
def gG(a i v:V):M Unit:=λσ=>a.bO.bind λj=>i.dh.bind λk=>(jC σ j).bind λl=>if iw l k=true then some (.ok (),σ.set j (.td (bN l k v))) else none
section
variable{σ:ai}{j:Nat}{l:List (List V×V)}{k:List V}
theorem IU(h:σ[j]?=some (.td l))(q:iw l k=true):s9 [.obj j,.tup k] σ=some (.ok ((bX l k).getD .none),σ):=by
 show (jC σ j).bind _=_;rw[mE h];exact if_pos q
theorem A3{d:V}{o:Option V}(h:σ[j]?=some (.td l))(q:iw l k=true)(hk:bX l k=o):AS [.obj j,.tup k,d] σ=some (o.elim (.ok d,σ) λv=>(.ok v,σ.set j (.td (cH l k)))):=by
 show (jC σ j).bind _=_;rw[mE h,<- hk];exact if_pos q
theorem Jp{v:V}(h:σ[j]?=some (.td l))(q:iw l k=true):gG (.obj j) (.tup k) v σ=some (.ok (),σ.set j (.td (bN l k v))):=by
 show (jC σ j).bind _=_;rw[mE h];exact if_pos q
end
section
variable{prog:Program}{w:World}{base:Heap}{n:Nat}{env:Env}{le keep:List (Str×V)}{K:Frag}{mg mb:Str->Option Value}{α β γ δ:Type}{A:Around}{X:List Addr}{σ σ':ai}{ρ ρ':List Addr}{s:Shared}{h h' h0a:Heap}{l:List (List V×V)}{xs:List (Mk×Addr×Value)}
theorem DP{j:Nat}{a:Addr}{k:List V}(D:Rep w base ρ σ h)(hj:σ[j]?=some (.td l))(ha:ρ[j]?=some a)(ok:iw l k=true) :
  ∃ xs,h.DictOfH (cP prog w) a xs/\XR ρ h l xs/\(∃ es m,h.get? a=some (aN es m))/\j7 k=true/\xs.length<=sizeLine:=by
 revert D hj ha ok;revert prog w base σ ρ h l j a k;apply cK;generalize dm=zt;generalize zt.1.1.1=prog,zt.1.1.2=w,zt.1.2.1=base,zt.1.2.2.1=σ,zt.1.2.2.2=ρ,zt.2.1.1=h,zt.2.1.2=l,zt.2.2.1=j,zt.2.2.2.1=a,zt.2.2.2.2=k;intro D hj ha ok;unfold iw at ok;simp only[Bool.and_eq_true,List.all_eq_true,decide_eq_true_eq] at ok;obtain⟨⟨o1,o2⟩,o3⟩:=ok;injection D.obj _ _ _ hj ha with x0 es m hz;obtain⟨e,r,nd⟩:=hz
 injection r.xr (prog:=prog) o1 with x0 xs hz;obtain⟨q1,q2⟩:=hz
 exact⟨xs,⟨_,es,m,e,⟨rfl,rfl,rfl⟩,rfl,q1,q2.is,q2.nd.mp nd⟩,q2,⟨es,m,e⟩,o2,fW (by rw[<- q2.length];lia)⟩
theorem Df{a:Addr}(H:h.DictOfH (cP prog w) a xs)(r:XR ρ h l xs):jB w ρ h a (.td l):=by
 revert H r;revert prog w ρ h l xs a;intros prog w ρ h;intros l xs a;intro H r;injection H with H o es m hz;obtain⟨ho,⟨h1,h2,h3⟩,hd,q1,_,nd⟩:=hz
 refine⟨es,m,?_,by rw[q1];exact r.Ey,r.nd.mpr nd⟩;rw[ho];obtain⟨c,di,da,sl⟩:=o;revert c di da sl;intros c di da sl;intro ho h1 h2 h3 hd;simp only at h1 h2 h3 hd;subst h1;subst h2;subst h3;subst hd;rfl
theorem c7.mark{A:Around}(R:c7 n A):(cP prog w).room A.in1:=by
 have:=R.units;show A.units+1+400<9900;lia
theorem VR.bare{k:List V}{x:Value}(r:VR ρ h (.tup k) x)(hk:j7 k=true):∃ a,x=.ref a/\VR [] h (.tup k) (.ref a):=by
 obtain⟨a,vs,m,rfl,e,rl⟩:=r.vO;exact⟨a,rfl,(VR.tup e rl).plain_any (Mk.plain ⟨k,hk⟩)⟩
theorem yu:bC prog w base 0 (.builtin "dict.get") s9:=by
 revert prog w base;intros prog w base;intros A σ ρ s;intros l xs;intro D S R r;refine Runs.inv ?_;intros res σ';intro ev;injection mS (f:=JA σ) ev with ev j v hz;obtain⟨rfl,hz⟩:=hz
 injection Lv hz with hz k hz;obtain⟨hk,hz⟩:=hz
 cases V.fC hk;refine lU (sO hz) ?_;clear hz hk;generalize zp (List (List V×V))=l;intro hz;obtain⟨hl,hz⟩:=hz;obtain⟨ok,hr⟩:=aE hz;clear hz;cases hr;injection kU r with r x y hz;obtain⟨rfl,rx,ry⟩:=hz
 injection rx.mw with x0 a hz;obtain⟨rfl,hi⟩:=hz
 have lo:=low_ne D (LG hi);injection DP (prog:=prog) D hl hi ok with x0 zs hz;obtain⟨hd,q,_,hk,_⟩:=hz
 injection ry.bare hk with x0 ka hz;obtain⟨rfl,rk⟩:=hz
 have ql:=q.look ⟨k,hk⟩;intros Q E;intro kk;refine call_meetsIn F.slot_dict_get hd.typeIs F.entry_dict_get (F.args_dict_get_2 _ _) (meetsH_dict_get (cP prog w) a ka lo) ⟨R.mark,⟨k,hk⟩,zs,rk,hd,?_⟩;have rr:VR ρ s.heap ((bX l k).getD .none) (((atKey zs ⟨k,hk⟩).map (·.2)).getD .none):=by
  cases hv:bX l k with
  |none=>
   rw[hv] at ql;have ql':atKey zs ⟨k,hk⟩=none:=ql;rw[ql'];exact .none
  |some v=>
   rw[hv] at ql;obtain⟨a',x,e,rx⟩:=ql;rw[e];exact rx
 exact kk ρ s.heap _ _ .refl D rr
theorem Ec:bC prog w base 0 (.builtin "dict.pop") AS:=by
 revert prog w base;intros prog w base;intros A σ ρ s;intros l xs;intro D S R r;refine Runs.inv ?_;intros res σ';intro ev;injection AB (f:=J2 σ) ev with ev j v d hz;obtain⟨rfl,hz⟩:=hz
 injection Lv hz with hz k hz;obtain⟨hk,hz⟩:=hz
 cases V.fC hk;refine lU (sO hz) ?_;clear hz hk;generalize zp (List (List V×V))=l;intro hz;obtain⟨hl,hz⟩:=hz;obtain⟨ok,hr⟩:=aE hz;clear hz;injection CT r with r x y z hz;obtain⟨rfl,rx,ry,rz⟩:=hz
 injection rx.mw with x0 a hz;obtain⟨rfl,hi⟩:=hz
 have lo:=low_ne D (LG hi);injection DP (prog:=prog) D hl hi ok with x0 zs hz;obtain⟨hd,q,⟨es,m,e⟩,hk,hsz⟩:=hz
 revert es m;intros es m;intro e;injection ry.bare hk with x0 ka hz;obtain⟨rfl,rk⟩:=hz
 have ql:=q.look ⟨k,hk⟩;have hT:=hd.typeIs;have meet:MeetsIn prog w (Builtin.«dict.pop» ⟨[.ref a,.ref ka,z],[]⟩) (λA R s'=>s'=s/\(cP prog w).room A.in1/\(atKey zs ⟨k,hk⟩=none->∀ tk,R (.ok (.ret z)) {s with toks:=tk}) /\
    ∀ p,atKey zs ⟨k,hk⟩=some p->∀ h',h'.DictOfH (cP prog w) a (zs.filter λy=>decide (y.1≠⟨k,hk⟩))->Heap.SameBut a s.heap h'->R (.ok (.ret p.2)) {s with heap:=h',toks:=s.toks+iP (.tup k)}):=
  .of_wp λA R s' ⟨es',hr,h1,h2⟩=>by
   subst es';unfold Builtin.«dict.pop»;refine LB ?_;unfold Builtin.Dict.keyAndDefault;refine LB (wpAny_notOrdered_dict hT ?_);show wpAny _ _ (pure (a,Value.ref ka,some z)) _ _ _;refine LC ?_;dsimp only;rw[if_neg (show ¬(keyPart (Value.ref ka)).isSome=true by simp[keyPart])];refine LB (wpAny_dictEntries e rfl (LB (LC ?_)));by_cases hz:es.isEmpty=true
   ·rw[if_pos hz];refine LB (wpAny_rule (LB (LC ?_)));simp only[Option.isNone_none,if_true];have hnone:atKey zs ⟨k,hk⟩=none:=by
     obtain⟨o,es1,ep1,ho1,_,hd1,q1,_⟩:=id hd;rw[e] at ho1;cases ho1;cases hd1;have:zs=[]:=by
      cases zs with
      |nil=>rfl
      |cons y ys=>
       have:=LH List.length q1;rw[Array.isEmpty_iff.mp hz] at this;simp at this
     rw[this];rfl
    exact LB (wpAny_missedRemoval_other lo (LB (wpAny_rule (LC ⟨_,rfl,h1 hnone _⟩))))
   ·rw[if_neg hz];refine LB (BV (k:=⟨k,hk⟩) hr rk hd (λhn=>?_) (λen p hp hep h' hd' hs=>?_) hsz)
    ·simp only[Option.isNone_none,if_true];exact LB (wpAny_missedRemoval_other lo (LB (wpAny_rule (LC ⟨_,rfl,h1 hn _⟩))))
    ·simp only[Option.isNone_some,Bool.false_eq_true,if_false];exact LB (wpAny_letGo (LC ⟨_,rfl,by rw[hep];exact h2 p hp h' hd' hs⟩))
 cases hv:bX l k with
 |none=>
  rw[hv] at ql hr;cases hr;intros Q E;intro kk;exact call_meetsIn F.slot_dict_pop hT F.entry_dict_pop (F.args_dict_pop_3 _ _ _) meet ⟨rfl,R.mark,λu tk=>kk ρ s.heap tk _ .refl D rz,λp hp=>by rw[show atKey zs ⟨k,hk⟩=none from ql] at hp;cases hp⟩
 |some v=>
  revert v;intros v;intro hv;rw[hv] at ql hr;cases hr;injection ql with ql a' x hz;obtain⟨hx,rx⟩:=hz
  intros Q E;intro kk;refine call_meetsIn F.slot_dict_pop hT F.entry_dict_pop (F.args_dict_pop_3 _ _ _) meet ⟨rfl,R.mark,λhn=>(by rw[hx] at hn;cases hn),λp hp h' hd' hs=>?_⟩;rw[hx] at hp;cases hp;have tp:=ig hs e qj;exact kk ρ h' _ x (Goes.update (LG hi) hs List.not_mem_nil) (D.update hi hs ⟨_,e,by simp[aN]⟩ (Df hd' ((q.without (k:=⟨k,hk⟩)).mono tp))) (rx.mono (λu u z=>z) tp)
theorem AQ{a i v:V}{x y z:Value}(R:c7 n A)(hX:∀ a∈ρ,a∉X)(D:Rep w base ρ σ s.heap)(ra:VR ρ s.heap a x)(ri:VR ρ s.heap i y)(rv:VR ρ s.heap v z) :
  Runs prog w base A X (setItem x y z) s ρ (gG a i v σ) (λu u u u=>True):=by
 revert R hX D ra ri rv;revert z;revert prog w base n A X σ ρ s a i v x y;apply b9;generalize cM=zt;generalize zt.1.1.1=prog,zt.1.1.2.1=w,zt.1.1.2.2=base,zt.1.2.1.1=n,zt.1.2.1.2=A,zt.1.2.2.1=X,zt.1.2.2.2=σ,zt.2.1.1=ρ,zt.2.1.2.1=s,zt.2.1.2.2=a,zt.2.2.1.1=i,zt.2.2.1.2=v,zt.2.2.2.1=x,zt.2.2.2.2=y;intros z;intro R hX D ra ri rv;refine Runs.inv ?_;intros res σ';intro ev;injection Lv ev with ev j hz;obtain⟨hj,hz⟩:=hz
 cases V.cu hj;clear hj;injection Lv hz with hz k hz;obtain⟨hk,hz⟩:=hz
 cases V.fC hk;refine lU (sO hz) ?_;clear hz hk;generalize zp (List (List V×V))=l;intro hz;obtain⟨hl,hz⟩:=hz;obtain⟨ok,hr⟩:=aE hz;clear hz;cases hr;injection ra.mw with x0 a hz;obtain⟨rfl,hi⟩:=hz
 injection DP (prog:=prog) D hl hi ok with x0 zs hz;obtain⟨hd,q,⟨es,m,e⟩,hk,hsz⟩:=hz
 revert es m;intros es m;intro e;injection ri.bare hk with x0 ka hz;obtain⟨rfl,rk⟩:=hz
 intros Q E;intro kk;refine wpAny_setItem_heap (knd:=cP prog w) (k:=⟨k,hk⟩) R.mark rk hd ?_ hsz;intros h';intro hd' hs;have tp:=ig hs e qj;exact kk ρ h' _ () (Goes.update (LG hi) hs (hX _ (LG hi))) (D.update hi hs ⟨_,e,by simp[aN]⟩ (Df hd' ((q.stored (k:=⟨k,hk⟩) rk rv).mono tp))) trivial
end
section
variable{prog:Program}{w:World}{A:Around}{E:Value->Shared->Prop}{s:Shared}{it d:Addr}{es:Array DictEntry}{i ep:Nat}
theorem HE{x:DictEntry}{Q:Option Value->Shared->Prop}(hit:s.heap.IsValIter it d i es.size ep)(hod:s.heap.get? d=some (aN es ep))(hx:es[i]?=some x)
 (hQ:∀ h',h'.IsValIter it d (i+1) es.size ep->Heap.SameBut it s.heap h'->Q (some x.val) {s with heap:=h'}) :
  wpAny (model prog w) A (pyNext (.ref it)) Q E s:=by
 revert hit hod hx hQ;revert x Q;revert prog w A E s it d es i ep;apply cK;generalize dm=zt;generalize zt.1.1.1=prog,zt.1.1.2=w,zt.1.2.1=A,zt.1.2.2.1=E,zt.1.2.2.2=s,zt.2.1.1=it,zt.2.1.2=d,zt.2.2.1=es,zt.2.2.2.1=i,zt.2.2.2.2=ep;intros x Q;intro hit hod hx hQ;injection (id hit) with x0 o hz;obtain⟨ho,hc,hd⟩:=hz
 have hdd:(aN es ep).data=.dict es ep:=rfl;unfold pyNext;refine LB (wpAny_attempt (wpAny_callSpecial?_slot (name:=Str.ofString "__next__") hit.typeIs F.slot_dict_valueiterator_next
  (wpAny_call_entry F.slot_dict_valueiterator_next hit.typeIs F.entry_dict_valueiterator_next ?_ (F.args_dict_valueiterator_next_1 _))))
 refine LB (LC ?_);refine LB ?_;refine LB ?_
 first|refine LB (wpAny_typeNameOfWhole_valiter hit.typeIs (LC ?_))|refine LB (wpAny_typeNameOf_valiter hit.typeIs (LC ?_))
 refine LB (wpAny_fieldsOf ho hd ?_);rw[if_neg (show ¬Builtin.Dict_items.ownsTuple "dict_valueiterator"=true from Bool.false_ne_true)];show wpAny _ _ (if (Value.ref d==Value.none)=true then _ else _) _ _ s;rw[if_neg (show ¬((Value.ref d==Value.none)=true) from Bool.false_ne_true)];refine LB (LC ?_);refine LB (wpAny_dictEntries hod hdd ?_);rw[if_neg (by simp)];refine LB (LC ?_);refine LB (wpAny_dictEpoch hod hdd ?_);rw[if_neg (by simp)];refine LC ?_;have hlt':i<es.size:=(Array.getElem?_eq_some_iff.mp hx).1;have hval:es[i].val=x.val:=by rw[Array.getElem?_eq_getElem hlt'] at hx;cases hx;rfl
 simp only[show ¬((i:Int)<0) from by lia,if_false,Int.toNat_natCast,Array.getElem?_eq_getElem hlt'];refine LB ?_
 first|refine LB (wpAny_typeNameOfWhole_valiter hit.typeIs (LC ?_))|refine LB (wpAny_typeNameOf_valiter hit.typeIs (LC ?_))
 refine LB (wpAny_isOneOf_valiter hit.typeIs ?_);show wpAny _ _ (setField (.ref it) 1 (rawInt ((i:Int)+1))>>=_) _ _ s;refine LB (wpAny_setField ho hd (by simp) ?_);have hit':(s.heap.update it (Obj.mapFields (·.setIfInBounds 1 (rawInt ((i:Int)+1))))).IsValIter it d (i+1) es.size ep:=
  ⟨_,LN _ ho (Obj.isFreed_of_fields (Obj.data_mapFields hd _)),(Obj.cls_mapFields ..).trans hc,by rw[Obj.data_mapFields hd];simp[rawInt]⟩
 refine LB (LU ?_);refine LB (wpAny_isOneOf_valiter (s:={s with heap:=s.heap.update it (Obj.mapFields (·.setIfInBounds 1 (rawInt ((i:Int)+1))))}) hit'.typeIs ?_);refine LB (wpAny_isOneOf_valiter (s:={s with heap:=s.heap.update it (Obj.mapFields (·.setIfInBounds 1 (rawInt ((i:Int)+1))))}) hit'.typeIs ?_);show wpAny _ _ (pure es[i].val) _ _ _;exact LC (LC ⟨_,rfl,LC (hval▸hQ _ hit' (LQ ..))⟩)
theorem BS{Q:Option Value->Shared->Prop}(hh:A.handled=none)(hit:s.heap.IsValIter it d i es.size ep)(hod:s.heap.get? d=some (aN es ep))(hx:es[i]?=none)
 (hQ:∀ h',Heap.ExtBut it s.heap h'->Q none {s with heap:=h'}):wpAny (model prog w) A (pyNext (.ref it)) Q E s:=by
 revert hh hit hod hx hQ;revert Q;revert prog w A E s it d es i ep;apply cK;generalize dm=zt;generalize zt.1.1.1=prog,zt.1.1.2=w,zt.1.2.1=A,zt.1.2.2.1=E,zt.1.2.2.2=s,zt.2.1.1=it,zt.2.1.2=d,zt.2.2.1=es,zt.2.2.2.1=i,zt.2.2.2.2=ep;intros Q;intro hh hit hod hx hQ;injection (id hit) with x0 o hz;obtain⟨ho,hc,hd⟩:=hz
 have hdd:(aN es ep).data=.dict es ep:=rfl;unfold pyNext;refine LB (wpAny_attempt (wpAny_callSpecial?_slot (name:=Str.ofString "__next__") hit.typeIs F.slot_dict_valueiterator_next
  (wpAny_call_entry F.slot_dict_valueiterator_next hit.typeIs F.entry_dict_valueiterator_next ?_ (F.args_dict_valueiterator_next_1 _))))
 refine LB (LC ?_);refine LB ?_;refine LB ?_
 first|refine LB (wpAny_typeNameOfWhole_valiter hit.typeIs (LC ?_))|refine LB (wpAny_typeNameOf_valiter hit.typeIs (LC ?_))
 refine LB (wpAny_fieldsOf ho hd ?_);rw[if_neg (show ¬Builtin.Dict_items.ownsTuple "dict_valueiterator"=true from Bool.false_ne_true)];show wpAny _ _ (if (Value.ref d==Value.none)=true then _ else _) _ _ s;rw[if_neg (show ¬((Value.ref d==Value.none)=true) from Bool.false_ne_true)];refine LB (LC ?_);refine LB (wpAny_dictEntries hod hdd ?_);rw[if_neg (by simp)];refine LB (LC ?_);refine LB (wpAny_dictEpoch hod hdd ?_);rw[if_neg (by simp)];refine LC ?_;have hge:es.size<=i:=by simpa using hx
 simp only[show ¬((i:Int)<0) from by lia,if_false,Int.toNat_natCast,Array.getElem?_eq_none hge];refine LB ?_
 first|refine LB (wpAny_typeNameOfWhole_valiter hit.typeIs (LC ?_))|refine LB (wpAny_typeNameOf_valiter hit.typeIs (LC ?_))
 show wpAny _ _ (setField (.ref it) 0 .none>>=_) _ _ s;refine LB (wpAny_setField ho hd (by simp) ?_);show wpAny _ _ (newExc (.type "StopIteration") []>>=_) _ _ _;refine LB ?_;simp only[newExc,newTuple];refine LB (L6 ?_ (by size_fits));refine LB (m:=firstArgMember _ _) (wpAny_of_eq (a:=Value.none) (by first|rfl|(simp only[firstArgMember];rfl)) ?_);refine L6 ?_ (by size_fits);unfold raiseNew;refine LB (wpAny_handled ?_);rw[show A.in1.handled=none from hh];refine LB (LC (wpAny_throw ?_));refine LB (wpAny_isInstance (T:="StopIteration") (b:=true) ⟨_,LK _ rfl,rfl⟩ isSubtype_stop ?_);exact LC (hQ _ (((LQ ..).extBut.push _).push _))
theorem Hw(hh:A.handled=none)(I d:Addr)(hne:d≠I)(es:Array DictEntry)(ep:Nat) :
  Walks prog w A I [I,d] [I] es.size (λi v=>∃ x,es[i]?=some x/\x.val=v) (λi h=>h.IsValIter I d i es.size ep/\h.get? d=some (aN es ep)) where
 sub:=λb hb=>by simp at hb;simp[hb]
 frame:=λu u u st hk=>⟨st.1.at λo e=>hk I (by simp) o e,hk d (by simp) _ st.2⟩
 item:=λi s Q E hi st hQ=>by
  obtain⟨x,hx⟩:∃ p,es[i]?=some p:=⟨es[i],by simp[hi]⟩
  refine HE st.1 st.2 hx λh' hit' hs'=>?_;exact hQ x.val h' s.toks ⟨x,hx,rfl⟩ ⟨hit',(hs'.2 d hne).trans st.2⟩ λb o hb e=>hs'.extBut b o (λh=>hb (by simp[h])) e
 done:=λs Q E st hQ=>BS hh st.1 st.2 (by simp) λh' he'=>hQ h' s.toks λb o hb e=>he' b o (λh=>hb (by simp[h])) e
 self:=λu u u u st hQ=>wpAny_pyIter_valiter st.1 hQ
theorem vh{Q:Value->Shared->Prop}(lo:(d==sysModules)=false)(ho:s.heap.get? d=some (aN es ep))
 (h:Q (.ref s.heap.objs.size) {s with heap:=s.heap.push {cls:=.type "dict_values",data:=.fields #[.ref d]}}):wpAny (model prog w) A (call (.builtin "dict.values") [.ref d] []) Q E s:=by
 have hT:s.TypeIs (.ref d) "dict":=⟨_,ho,rfl⟩
 have meet:MeetsIn prog w (Builtin.«dict.values» ⟨[.ref d],[]⟩) (λu R s'=>s'=s/\R (.ok (.ret (.ref s.heap.objs.size))) {s with heap:=s.heap.push {cls:=.type "dict_values",data:=.fields #[.ref d]}}):=
  .of_wp λA R s' ⟨e,h⟩=>by
   subst e;refine LB ?_;unfold Builtin.Dict.noArgs;refine LB (wpAny_notOrdered_dict hT ?_);show wpAny _ _ (pure d) _ _ s';refine LC ?_;show wpAny _ _ (Builtin.Dict.showsAll d>>=_) _ _ s';unfold Builtin.Dict.showsAll;rw[if_neg (by rw[lo];exact Bool.false_ne_true)];refine LB (LC ?_);exact LB (L6 (LC ⟨_,rfl,h⟩))
 exact call_meetsIn F.slot_dict_values hT F.entry_dict_values (F.args_dict_values_1 _) meet ⟨rfl,h⟩
theorem vV{v:Addr}{Q:Value->Shared->Prop}(hv:s.heap.IsValuesView v d)(ho:s.heap.get? d=some (aN es ep))
 (hQ:Q (.ref s.heap.objs.size) {s with heap:=s.heap.push {cls:=.type "dict_valueiterator",data:=.fields #[.ref d,.int 0 0,.int es.size 0,.int ep 0]}}) :
  wpAny (model prog w) A (pyIter (.ref v)) Q E s:=by
 obtain⟨ov,hov,hcv,hdv⟩:=id hv;refine wpAny_pyIter_slot hv.typeIs F.slot_dict_values_iter (wpAny_call_entry F.slot_dict_values_iter hv.typeIs F.entry_dict_values_iter ?_ (F.args_dict_values_iter_1 _));unfold Builtin.«dict_values.__iter__»;refine LB (LC ?_);refine LB ?_;unfold Builtin.Dict_items.dictOf;refine LB (wpAny_field hov hdv (x:=.ref d) rfl (LC ?_));refine LB ?_;unfold Builtin.Dict_items.newIterator;refine LB (wpAny_dictEntries ho rfl ?_);refine LB (wpAny_dictEpoch ho rfl ?_);have hown:Builtin.Dict_items.ownsTuple "dict_valueiterator"=false:=by decide
 simp only[hown,Bool.false_eq_true,if_false];refine L6 (LC ⟨_,rfl,"dict_valueiterator",_,⟨_,LK _ rfl,rfl⟩,F.slot_dict_valueiterator_next.lookup,?_⟩);simpa [rawInt] using hQ
theorem xg{v:Addr}{Q:List Value->Shared->Prop}(hh:A.handled=none)(hv:s.heap.IsValuesView v d)(ho:s.heap.get? d=some (aN es ep))(hn:es.size<=sizeLine)
 (hQ:∀ h' tk,(∀ c o,s.heap.get? c=some o->h'.get? c=some o)->Q (es.toList.map (·.val)) {s with heap:=h',toks:=tk}):wpAny (model prog w) A (collect (.ref v)) Q E s:=by
 revert hh hv ho hn hQ;revert prog w A E s d es ep v Q;apply cK;generalize dm=zt;generalize zt.1.1.1=prog,zt.1.1.2=w,zt.1.2.1=A,zt.1.2.2.1=E,zt.1.2.2.2=s,zt.2.1.1=d,zt.2.1.2=es,zt.2.2.1=ep,zt.2.2.2.1=v,zt.2.2.2.2=Q;intro hh hv ho hn hQ;unfold collect;refine LB (wpAny_runValue (codeAny_builtin F.entry_proto_collect ?_));rw[Around.under_plainId F.plain_proto_collect _];show wpAny _ A.in1 (newList []>>=λl=>again (.builtin "list.__iadd__" ⟨[l,.ref v],[]⟩)) _ _ s;refine LB (L6 ?_);refine LC ⟨plainId_quiet F.plain_list_iadd _,codeAny_builtin F.entry_list_iadd ?_⟩;rw[Around.under_plainId F.plain_list_iadd _];have hv1a:(s.heap.push {cls:=.type "list",data:=.seq ([]:List Value).toArray}).IsValuesView v d:=by
  obtain⟨o,e,q⟩:=hv;exact⟨o,LL _ e,q⟩
 have ho1a:(s.heap.push {cls:=.type "list",data:=.seq ([]:List Value).toArray}).get? d=some (aN es ep):=LL _ ho;have hS1:(s.heap.push {cls:=.type "list",data:=.seq ([]:List Value).toArray}).get? s.heap.objs.size=some {cls:=.type "list",data:=.seq ([]:List Value).toArray}:=LK _ rfl;have hSv:s.heap.objs.size≠v:=by
  obtain⟨o,e,q⟩:=hv;exact L7 (LM e)
 have hSd:s.heap.objs.size≠d:=L7 (LM ho);have h1:Builtin.List.listSameRef (.ref s.heap.objs.size) (.ref v)=false:=by simp[Builtin.List.listSameRef,hSv]
 show wpAny _ A.in1 (Builtin.List.listExtendWith (.ref s.heap.objs.size) (.ref v) (.ref s.heap.objs.size)) _ _ _;unfold Builtin.List.listExtendWith;refine LB (wpAny_typeOf hv1a.typeIs ?_);rw[if_neg (by rw[h1];decide)];refine LB (vV (s:={s with heap:=s.heap.push {cls:=.type "list",data:=.seq ([]:List Value).toArray}}) hv1a ho1a ?_);have hzz:((s.heap.push {cls:=.type "list",data:=.seq ([]:List Value).toArray}).objs.size)=s.heap.objs.size+1:=Heap.size_push ..;rw[hzz];have hvI:((s.heap.push {cls:=.type "list",data:=.seq ([]:List Value).toArray}).push {cls:=.type "dict_valueiterator",data:=.fields #[.ref d,.int 0 0,.int es.size 0,.int ep 0]}).IsValuesView v d:=by
  obtain⟨o,e,q⟩:=hv1a;exact⟨o,LL _ e,q⟩
 refine LB (LU ?_);unfold Builtin.List.listLengthHint;refine LB (wpAny_specialOf (s:={s with heap:=(s.heap.push {cls:=.type "list",data:=.seq ([]:List Value).toArray}).push {cls:=.type "dict_valueiterator",data:=.fields #[.ref d,.int 0 0,.int es.size 0,.int ep 0]}}) hvI.typeIs F.slot_dict_values_len.lookup ?_);generalize hid:("dict_values.__len__":String)=id0
 (fail_if_success (clear hid id0))
 wp_delta
 rw[show splitId id0=some ("dict_values","__len__") from by subst hid;decide +kernel];subst hid;refine LB (wpAny_isInstance (b:=true) (s:={s with heap:=(s.heap.push {cls:=.type "list",data:=.seq ([]:List Value).toArray}).push {cls:=.type "dict_valueiterator",data:=.fields #[.ref d,.int 0 0,.int es.size 0,.int ep 0]}}) hvI.typeIs (by rw[isSubtype_type];kernel_rfl) ?_);rw[if_neg (by decide)];dsimp only;rw[if_pos (by decide +kernel)];refine LB (wpAny_typeOf (s:={s with heap:=(s.heap.push {cls:=.type "list",data:=.seq ([]:List Value).toArray}).push {cls:=.type "dict_valueiterator",data:=.fields #[.ref d,.int 0 0,.int es.size 0,.int ep 0]}}) hvI.typeIs ?_);refine LC ?_;rw[if_pos (by decide +kernel)];generalize hg:(s.heap.push {cls:=.type "list",data:=.seq ([]:List Value).toArray}).push {cls:=.type "dict_valueiterator",data:=.fields #[.ref d,.int 0 0,.int es.size 0,.int ep 0]}=g at hvI;have hst:g.IsValIter (s.heap.objs.size+1) d 0 es.size ep:=by
  rw[<- hg];exact⟨_,by rw[<- hzz];exact LK _ rfl,rfl,rfl⟩
 have hod:g.get? d=some (aN es ep):=by rw[<- hg];exact LL _ ho1a
 have hSl:g.get? s.heap.objs.size=some {cls:=.type "list",data:=.seq ([]:List Value).toArray}:=by rw[<- hg];exact LL _ hS1
 have hold:∀ c o,s.heap.get? c=some o->g.get? c=some o:=λc o e=>by rw[<- hg];exact LL _ (LL _ e)
 have hdI:d≠s.heap.objs.size+1:=Nat.ne_of_lt (Nat.lt_succ_of_lt (LM ho));have W:=(Hw (prog:=prog) (w:=w) (A:=A.in1) hh (s.heap.objs.size+1) d hdI es ep).toS;have hSf:s.heap.objs.size∉[s.heap.objs.size+1,d]:=by
  intro q;rcases Lx q with q|q
  ·exact Nat.ne_of_lt (Nat.lt_succ_self _) q
  ·exact hSd (Lz q)
 refine LB (wpAny_rule ?_);refine LB ?_;show wpAny _ A.in1 (updateSeq s.heap.objs.size (·.push .none)>>=λu=>updateSeq s.heap.objs.size (·.pop)) _ _ {s with heap:=g};refine LB (wpAny_updateSeq (s:={s with heap:=g}) hSl rfl ?_);have hS2:=LN (Obj.mapSeq (·.push Value.none)) hSl rfl;refine wpAny_updateSeq (s:={s with heap:=g.update s.heap.objs.size (Obj.mapSeq (·.push Value.none))}) hS2 rfl ?_;have hS3:=LN (Obj.mapSeq (·.pop)) hS2 rfl;have oth:∀ b o,b≠s.heap.objs.size->g.get? b=some o->((g.update s.heap.objs.size (Obj.mapSeq (·.push Value.none))).update s.heap.objs.size (Obj.mapSeq (·.pop))).get? b=some o:=
  λb o hb e=>(Heap.get?_update_other _ _ (Ne.symm hb)).trans ((Heap.get?_update_other _ _ (Ne.symm hb)).trans e)
 have hst3:((g.update s.heap.objs.size (Obj.mapSeq (·.push Value.none))).update s.heap.objs.size (Obj.mapSeq (·.pop))).IsValIter (s.heap.objs.size+1) d 0 es.size ep:=hst.at λo e=>oth _ o (L7 (Nat.lt_succ_self _)) e;have hod3:=oth d _ (Ne.symm hSd) hod;refine LC ⟨plainId_quiet F.plain_extend_loop _,codeAny_extend_loopS W hn _ hSf _ es.size 0 {s with heap:=(g.update s.heap.objs.size (Obj.mapSeq (·.push Value.none))).update s.heap.objs.size (Obj.mapSeq (·.pop))} _ _ rfl (LI _) ⟨hst3,hod3⟩ hS3 (ItemsOf.nil _) λs' acc' c' hm hS' hacc=>?_⟩;show wpAny _ A (load s.heap.objs.size>>=_) _ _ s';refine LB (wpAny_load hS' ?_);refine LC ?_;have hl:acc'.toList=es.toList.map (·.val):=by
  apply List.ext_getElem?;intro j;rw[Array.getElem?_toList,List.getElem?_map,Array.getElem?_toList];cases q:acc'[j]? with
  |none=>
   have:es[j]?=none:=by
    rw[Array.getElem?_eq_none_iff] at q ⊢;rw[<- hacc.1];exact q
   rw[this];rfl
  |some v=>
   obtain⟨x,e1,e2⟩:=hacc.2 j v q;rw[e1,<- e2];rfl
 rw[hl];have hs':s'={s with heap:=s'.heap,toks:=s'.toks}:=by
  have h1:=hm.gens;have h2:=hm.drawn;have h3:=hm.os;obtain⟨a1,a2,a3,a4,a5⟩:=s';simp only at h1 h2 h3;subst h1;subst h2;subst h3;rfl
 rw[hs'];refine hQ s'.heap s'.toks λc o e=>hm.heap c o ?_ (oth c o (Nat.ne_of_lt (LM e)) (hold c o e));intro q;revert hg hvI hst hod hSl hold hS2 hS3 oth hst3 hod3 hm hS' hacc hl hs';revert g s' acc' c';intros g s' acc' c';intro hg hvI hst hod hSl hold hS2 hS3 oth hst3 hod3 hm hS' hacc hl hs';revert c o;intros c o;intro e q;rcases Lx q with q|q
 ·exact Nat.ne_of_lt (LM e) q
 ·exact Nat.ne_of_lt (Nat.lt_succ_of_lt (LM e)) (Lz q)
end
def v9(prog:Program)(w:World)(base:Heap)(f:Addr):Prop:=∀ (A:Around) (s:Shared) (a:Addr) (vs:Array Value) (n:Nat) (k:Int) (t:Tok) (Q:Value->Shared->Prop) (E:Value->Shared->Prop),
 (∀ b o,base.get? b=some o->s.heap.get? b=some o)->A.depth+3<=600->s.heap.get? a=some {cls:=.type "tuple",data:=.seq vs n}->vs[0]?=some (.int k t) ->
 (∀ h' tk,(∀ c o,s.heap.get? c=some o->h'.get? c=some o)->Q (.int k t) {s with heap:=h',toks:=tk})->wpAny (model prog w) A (call (.ref f) [.ref a]) Q E s
noncomputable def cutAt(h:Heap)(L:Nat):Heap:={h with objs:=(h.objs.toList.take L).toArray}
theorem ym{h:Heap}{L b:Nat}(hb:b<L):(cutAt h L).get? b=h.get? b:=by
 unfold cutAt Heap.get?;simp only;have:(h.objs.toList.take L).toArray[b]?=h.objs[b]?:=by
  rw[List.getElem?_toArray,List.getElem?_take,if_pos hb,Array.getElem?_toList]
 rw[this]
theorem p7{h:Heap}{L b:Nat}(hb:L<=b):(cutAt h L).get? b=none:=by
 refine Heap.get?_none_of_le ?_;show (h.objs.toList.take L).toArray.size<=b;rw[List.size_toArray];exact LZ (List.length_take_le ..) hb
noncomputable def restOf(h:Heap)(L D:Addr):List (Addr×Obj):=(List.range h.objs.size).filterMap λp=>if L<p/\p≠D then (h.get? p).map λo=>(p,o) else none
theorem qk{h:Heap}{L D:Addr}{p:Addr×Obj}:p∈restOf h L D↔L<p.1/\p.1≠D/\h.get? p.1=some p.2:=by
 revert h L D p;intros h L D p;unfold restOf;rw[List.mem_filterMap];constructor
 ·rintro ⟨q,hq,e⟩;split at e
  ·rename_i hh;revert q;intros q;intro hq hh e;injection Lw e with x0 o hz;obtain⟨ho,rfl⟩:=hz
   exact⟨hh.1,hh.2,ho⟩
  ·cases e
 ·rintro ⟨h1,h2,h3⟩;exact⟨p.1,List.mem_range.mpr (LM h3),by rw[if_pos ⟨h1,h2⟩,h3];rfl⟩
theorem CG{ps l:List (Int×Value)}(hp:ps.Perm l)(h1:ps.Pairwise λp q=>p.1<=q.1)(h2:l.Pairwise λp q=>p.1<q.1):ps=l:=by
 refine List.Perm.eq_of_pairwise (le:=λp q:Int×Value=>p.1<=q.1) (λa b ha hb h3 h4=>?_) h1 (h2.imp λh=>Int.le_of_lt h) hp;have ha':=hp.mem_iff.mp ha;have e:a.1=b.1:=Int.le_antisymm h3 h4;obtain⟨i,hi,rfl⟩:=List.getElem_of_mem ha';obtain⟨j,hj,rfl⟩:=List.getElem_of_mem hb;rcases Nat.lt_trichotomy i j with q|q|q
 ·have:=List.pairwise_iff_getElem.mp h2 i j hi hj q;lia
 ·subst q;rfl
 ·have:=List.pairwise_iff_getElem.mp h2 j i hj hi q;lia
section
variable{prog:Program}{w:World}{base:Heap}{A:Around}{E:Value->Shared->Prop}{s:Shared}{L D f:Addr}
theorem wM{m:Str->Option Value}{vs:List Value}{kz:List Int}{c:Nat}{Q:Value->Shared->Prop}(hf:v9 prog w base f)(hb:∀ b o,base.get? b=some o->s.heap.get? b=some o)(hbL:base.get? L=none)(hbD:base.get? D=none)
 (hd:A.in1.depth+3<=600)(hns:s.heap.Ns L m)(hD:s.heap.get? D=some (aO vs.toArray c))(hDL:L<D)(hlen:kz.length=vs.length)(h64:vs.length<64)(asc:kz.Pairwise (·<·))
 (keys:∀ (i:Nat) (v:Value) (k:Int),vs[i]?=some v->kz[i]?=some k->∃ a ws n t,v=.ref a/\s.heap.get? a=some {cls:=.type "tuple",data:=.seq ws n}/\ws[0]?=some (.int k t))
 (h:∀ h' tk c',(∀ b o,b≠L->b≠D->s.heap.get? b=some o->h'.get? b=some o)->h'.Ns L m->h'.get? D=some (aO vs.toArray c')->Q .none {s with heap:=h',toks:=tk}) :
  wpAny (model prog w) A (call (.builtin "list.sort") [.ref D] [(Str.ofString "key",.ref f)]) Q E s:=by
 have F:Fr (cutAt s.heap L) L s.heap m:=by
  refine⟨hns,λb o e=>?_,?_⟩
  ·rcases Nat.lt_or_ge b L with q|q
   ·rw[ym q] at e;exact e
   ·rw[p7 q] at e;cases e
  ·show (s.heap.objs.toList.take L).toArray.size<=L;rw[List.size_toArray];exact List.length_take_le ..
 have N:News (cutAt s.heap L) L s.heap (restOf s.heap L D):=λp hp=>by
  obtain⟨h1,h2,h3⟩:=qk.mp hp;exact⟨h3,L7 h1,p7 (Nat.le_of_lt h1)⟩
 have cover:∀ {h':Heap} {own:List (Addr×Obj)},Fr (cutAt s.heap L) L h' m->News (cutAt s.heap L) L h' own->(∀ p∈restOf s.heap L D,p∈own)->∀ b o,b≠L->b≠D->s.heap.get? b=some o->h'.get? b=some o:=λF' N' hs b o nL nD e=>by
  rcases Nat.lt_or_ge b L with q|q
  ·exact F'.keep b o (by rw[ym q];exact e)
  ·exact(N' (b,o) (hs _ (qk.mpr ⟨Nat.lt_of_le_of_ne q (Ne.symm nL),nD,e⟩))).1
 refine wpAny_call_entry_kw slot_list_sort ⟨_,hD,rfl⟩ entry_list_sort ?_ (ksk_l1 _ _);show wpAny (model prog w) A.in1 (Builtin.«list.sort» ⟨[.ref D],[(Str.ofString "key",.ref f)]⟩) _ _ _;rw[ksk_t1];refine ksk_sort (kz:=kz) F N hD (L7 hDL) (p7 (Nat.le_of_lt hDL)) (λp hp=>(qk.mp hp).2.1) hlen h64 (λi v k hv hk h1a tk own F1a N1a=>?_) λh' tk out c' F' N' k'=>⟨_,rfl,?_⟩
 ·obtain⟨a,ws,n,t,rfl,ha,h0⟩:=keys i v k hv hk;have jK:=cover F1a N1a λp hp=>List.mem_append_left _ hp;have aL:a≠L:=λq=>by
   obtain⟨o,es,ep,ho,hd',_⟩:=hns;rw[q,ho] at ha;cases ha;cases hd'
  have aD:a≠D:=λq=>by rw[q,hD] at ha;simp[aO] at ha
  refine hf A.in1 {s with heap:=h1a,toks:=tk} a ws n k t _ _ (λb o e=>jK b o (λq=>by rw[q,hbL] at e;cases e) (λq=>by rw[q,hbD] at e;cases e) (hb b o e)) hd (jK a _ aL aD ha) h0 λh2a tk2 hk2a=>?_;exact⟨h2a,tk2,t,rfl,rfl,F1a.kept hk2a,N1a.grown hk2a⟩
 ·have jK:=cover F' (λp hp=>N' p (.tail _ hp)) λp hp=>hp;obtain⟨ps,hp,ho,hpw⟩:=k';have hz:(kz.zip vs).Pairwise λp q=>p.1<q.1:=by
   rw[List.pairwise_iff_getElem] at asc ⊢;intro i j hi hj hij;simp only[List.getElem_zip];exact asc i j _ _ hij
  have e:=CG hp (by simpa using hpw) hz;have eo:out.toList=vs:=by
   rw[ho,e];exact List.map_snd_zip (by lia)
  have eo':out=vs.toArray:=by rw[<- eo]
  have hD':=(N' (D,_) (.head _)).1;rw[eo'] at hD';exact h h' tk c' jK F'.ns hD'
end
def kW(v:V):Option Int:=v.dh.bind λl=>List.casesOn l none λa u=>a.eX
theorem CE{v:V}{k:Int}(h:kW v=some k):∃ r,v=.tup (.int k::r):=by
 obtain⟨l,h1,h2⟩:=Lv h;cases l with
 |nil=>exact nomatch (show none=some k from h2)
 |cons a r=>exact⟨r,(V.fC h1).trans (LH (λx=>V.tup (x::r)) (V.f9 h2))⟩
def sQ(v:V):M Unit:=λσ=>v.bO.bind λj=>(jC σ j).bind λu=>some (.ok (),σ)
theorem AF{v:V}{σ:ai}{r:Except V Unit×ai}(h:sQ v σ=some r):∃ j l,v=.obj j/\σ[j]?=some (.td l)/\(.ok (),σ)=r:=
 (Lv h).imp λj z=>(sO z.2).imp λl y=>⟨V.cu z.1,y.1,LF y.2⟩
theorem IL{j:Nat}{l:List (List V×V)}{σ:ai}(h:σ[j]?=some (.td l)):sQ (.obj j) σ=some (.ok (),σ):=by
 show (jC σ j).bind _=_;rw[mE h];rfl
def Ib(σ:ai)(l:List (List V×V)):Option (Except V V×ai):=(l.mapM (λp=>kW p.2)).bind λkz=>if l.length<=60/\kz.Pairwise (·<·) then some (.ok (.obj σ.length),σ++[.list (l.map (·.2))]) else none
def jH(v:V):M V:=λσ=>v.bO.bind λj=>(jC σ j).bind (Ib σ)
theorem HO{v:V}{σ:ai}{r:Except V V×ai}(h:jH v σ=some r):∃ j l kz,v=.obj j/\σ[j]?=some (.td l)/\l.mapM (λp=>kW p.2)=some kz/\(l.length<=60/\kz.Pairwise (·<·))/\(.ok (.obj σ.length),σ++[.list (l.map (·.2))])=r:=
 (Lv h).imp λj z=>(sO z.2).imp λl y=>(Lv y.2).imp λkz x=>⟨V.cu z.1,y.1,x.1,(aE x.2).1,LF (aE x.2).2⟩
theorem Ik{j:Nat}{l:List (List V×V)}{kz:List Int}{σ:ai}(h:σ[j]?=some (.td l))(hk:l.mapM (λp=>kW p.2)=some kz)(hn:l.length<=60)(hp:kz.Pairwise (·<·)):jH (.obj j) σ=some (.ok (.obj σ.length),σ++[.list (l.map (·.2))]):=by
 show (jC σ j).bind (Ib σ)=_;rw[mE h];show Option.bind (List.mapM _ l) _=_;rw[hk];exact if_pos ⟨hn,hp⟩
section
variable{prog:Program}{w:World}{base:Heap}{n:Nat}{env:Env}{le keep:List (Str×V)}{K:Frag}{mg mb:Str->Option Value}{α β γ δ:Type}{A:Around}{σ σ':ai}{ρ ρ':List Addr}{s:Shared}{h h' h0a:Heap}{L f:Addr}
theorem Ck{m:Str->Option Value}{v d:Addr}{es:Array DictEntry}{ep:Nat}{kz:List Int}{Q:Value->Shared->Prop}{E:Value->Shared->Prop}(hf:v9 prog w base f)(hb:∀ b o,base.get? b=some o->s.heap.get? b=some o)(hbL:base.get? L=none)
 (hd:A.depth+3<=600)(hh:A.handled=none)(hns:s.heap.Ns L m)(hv:s.heap.IsValuesView v d)(ho:s.heap.get? d=some (aN es ep))(hlen:kz.length=es.size)(h64:es.size<64)(asc:kz.Pairwise (·<·))
 (keys:∀ (i:Nat) (v:Value) (k:Int),(es.toList.map (·.val))[i]?=some v->kz[i]?=some k->∃ a ws n t,v=.ref a/\s.heap.get? a=some {cls:=.type "tuple",data:=.seq ws n}/\ws[0]?=some (.int k t))
 (h:∀ h' tk D c',(∀ b o,b≠L->s.heap.get? b=some o->h'.get? b=some o)->h'.Ns L m->s.heap.get? D=none->s.heap.objs.size<=D\/True->mainGlobals<D\/s.heap.get? mainGlobals=none->h'.get? D=some (aO (es.toList.map (·.val)).toArray c')->Q (.ref D) {s with heap:=h',toks:=tk}) :
  wpAny (model prog w) A (call (.builtin "sorted") [.ref v] [(Str.ofString "key",.ref f)]) Q E s:=by
 refine call_function_entry_kw kind_sorted plain_sorted entry_sorted (ksk_s1 _ _) ?_;unfold Builtin.«sorted»;refine LB (m:=checkCount "sorted" 1 1 _) (LC ?_);refine LB (xg hh hv ho (fW (by lia)) λh1a tk1 hk1=>?_);refine LB (wpAny_newList ?_ (by rw[List.length_map,Array.length_toList];exact fW (by lia)));have eD:(h1a.push (aO (es.toList.map (·.val)).toArray 0)).get? h1a.objs.size=some (aO (es.toList.map (·.val)).toArray 0):=LK _ rfl;have k2:∀ b o,s.heap.get? b=some o->(h1a.push (aO (es.toList.map (·.val)).toArray 0)).get? b=some o:=λb o e=>aP _ _ (hk1 b o e);have hDn:s.heap.get? h1a.objs.size=none:=by
  cases q:s.heap.get? h1a.objs.size with
  |none=>rfl
  |some o=>exact LW (LM (hk1 _ _ q)) (LV _)
 have hns2:(h1a.push (aO (es.toList.map (·.val)).toArray 0)).Ns L m:=by
  obtain⟨o,es',ep',e,q⟩:=hns;exact⟨o,es',ep',k2 _ _ e,q⟩
 have hLD:L<h1a.objs.size:=by
  obtain⟨o,_,_,e,_⟩:=hns;exact LM (hk1 _ _ e)
 refine LB (LU ?_);refine wM (s:={s with heap:=h1a.push (aO (es.toList.map (·.val)).toArray 0),toks:=tk1}) (kz:=kz) hf (λb o e=>k2 b o (hb b o e)) hbL ?_ hd hns2 eD hLD (by rw[List.length_map,Array.length_toList];exact hlen) (by rw[List.length_map,Array.length_toList];exact h64) asc
  (λi v k hv hk=>?_) λh' tk c' jK hn' hD'=>?_
 ·cases q:base.get? h1a.objs.size with
  |none=>rfl
  |some o=>rw[hb _ _ q] at hDn;cases hDn
 ·obtain⟨a,ws,n,t,rfl,e,e0⟩:=keys i v k hv hk;exact⟨a,ws,n,t,rfl,k2 _ _ e,e0⟩
 ·refine LC ⟨_,rfl,h h' tk h1a.objs.size c' (λb o nL e=>jK b o nL (λq=>by rw[q,hDn] at e;cases e) (k2 b o e)) hn' hDn (.inr trivial) ?_ hD'⟩;cases q:s.heap.get? mainGlobals with
  |none=>exact .inr rfl
  |some o=>exact .inl (LM (hk1 _ _ q))
abbrev Ep:List Addr->Heap->V->Value->Prop:=λρ h v x=>∃ j a view,v=.obj j/\ρ[j]?=some a/\x=.ref view/\view∉ρ/\h.IsValuesView view a
theorem Jf(G:Gd K mg mb base){o:Expr}{pos apos:Pos}{pl:Sem Bool}{mo:M V}(ho:aC prog w base n env le o mo)
 (he:eval (.Call (.Attribute o "values" apos) [] [] pos) env=(do
   let ov<-eval o env
   standAt apos.atName
   let(f,first)<-holding [ov] (getMethod ov "values" pl)
   callWith pos f first (backTo pos (starEach [] env)) [])) :
  bI prog w base n env le (eval (.Call (.Attribute o "values" apos) [] [] pos) env) (do let v<-mo;(do sQ v;pure v)) Ep:=by
 revert G ho he;revert prog w base n env le K mg mb o pos apos pl mo;apply b9;generalize cM=zt;generalize zt.1.1.1=prog,zt.1.1.2.1=w,zt.1.1.2.2=base,zt.1.2.1.1=n,zt.1.2.1.2=env,zt.1.2.2.1=le,zt.1.2.2.2=K,zt.2.1.1=mg,zt.2.1.2.1=mb,zt.2.1.2.2=o,zt.2.2.1.1=pos,zt.2.2.1.2=apos,zt.2.2.2.1=pl,zt.2.2.2.2=mo;intro G ho he;rw[he];refine bI.bind ho λv x A σ ρ s P r=>Runs.aY ?_;show Runs _ _ _ _ _ _ _ _ ((sQ v>>=λu=>pure v) σ) _;rw[M.bind_eq];refine Runs.inv ?_;revert P r;revert v x A σ ρ s;intros v x A σ;intros ρ s;intro P r;intros res σ';intro ev;rw[<- M.bind_eq] at ev;cases res with
 |error v'=>
  exfalso;rw[M.bind_eq] at ev;cases hq:sQ v σ with
  |none=>rw[hq] at ev;exact nomatch ev
  |some q=>
   obtain⟨j,l,_,_,hr⟩:=AF hq;rw[hq,<- hr] at ev;exact nomatch ev
 |ok y=>
  obtain⟨u,τ,hq,ev⟩:=M.inv ev;injection AF hq with x0 j l hz;obtain⟨rfl,hl,hr⟩:=hz
  cases hr;cases ev;injection r.mw with x0 a hz;obtain⟨rfl,hj⟩:=hz
  injection P.D.obj _ _ _ hl hj with x0 es m hz;obtain⟨e,rl,nd⟩:=hz
  intros Q E;intro kk;refine LB (LU (getMethod_builtin (T:="dict") ⟨_,e,rfl⟩ PySem.F.plainAttrs_dict F.slot_dict_values F.type_dict_values (λb z=>by cases z;exact⟨_,e,rfl⟩) ?_));refine callWith_of (P:=λu=>True) rfl (λh u=>⟨.machine,.inr (.inl rfl),.now⟩) (evalArgs_nil3 ⟨trivial,?_⟩);refine vh (low_ne P.D (LG hj)) e ?_;exact kk ρ _ s.toks _ Goes.push (P.D.keeps aP) ⟨j,a,_,rfl,hj,rfl,λq=>LV _ (P.D.lt q),⟨_,LK _ rfl,rfl,rfl⟩⟩
theorem Ge{ρ:List Addr}{h:Heap}{l:List (List V×V)}{es:List DictEntry}{kz:List Int}(r:dB (sZ h) (λk=>hashW w.params (pO w.params (.tup k))) (VR ρ h) l es)(e:l.mapM (λp=>kW p.2)=some kz) :
  kz.length=es.length/\(∀ (i:Nat) (v:Value) (k:Int),(es.map (·.val))[i]?=some v->kz[i]?=some k->∃ a ws n t,v=.ref a/\h.get? a=some {cls:=.type "tuple",data:=.seq ws n}/\ws[0]?=some (.int k t))/\bq ρ h (l.map (·.2)) (es.map (·.val)):=by
 revert kz
 induction r with
 |nil=>
  intro kz e;cases (show some []=some kz from e);exact⟨rfl,λi v k h=>(by rw[List.map_nil,List.getElem?_nil] at h;exact nomatch h),.nil⟩
 |@cons k v en l es h1 h2 h3 r ih=>
  intro kz e;rw[List.mapM_cons] at e;obtain⟨z,hv,e⟩:=Lv e;obtain⟨zs,hr,e⟩:=Lv e;cases (show some (z::zs)=some kz from e);obtain⟨q1,q2,q3⟩:=ih hr;refine⟨LH (·+1) q1,λi=>Nat.casesOn (motive:=λi=>∀ (y:Value) (k:Int),(List.map (·.val) (en::es))[i]?=some y->(z::zs)[i]?=some k->∃ a ws n t,y=.ref a/\h.get? a=some {cls:=.type "tuple",data:=.seq ws n}/\ws[0]?=some (.int k t)) i (λy k' hy hk=>?_) λi y k' hy hk=>q2 i y k' hy hk,.cons h3 q3⟩;obtain⟨r',hv⟩:=CE hv;replace hv:v=.tup (.int z::r'):=hv;rw[hv] at h3;obtain⟨a,ws,n,ea,e0,rw'⟩:=h3.vO;obtain⟨x,hx,rx⟩:=rw'.get (i:=0) rfl;exact(show ∃ t,x=.int _ t from rx.inv).elim λt ht=>⟨a,ws,n,t,(LF hy).symm.trans ea,e0,by rw[<- Array.getElem?_toList,hx,ht,Option.some.inj hk]⟩
theorem rP(G:Gd K mg mb base){func vc kf:Expr}{pos kp rpos:Pos}{rest:List Stmt}{m:M V}(hf:v9 prog w base f)(hfunc:aC prog w base n env le func (pure (.bi "sorted")))(hv:bI prog w base n env le (eval vc env) m Ep)(hkf:aC prog w base n env le kf (pure (.ref f)))
 (he:eval (.Call func [vc] [⟨some "key",kf,kp⟩] pos) env=(do callWith pos (<- eval func env) [] (backTo pos (starEach [vc] env)) (backToKw pos (keywordEach [⟨some "key",kf,kp⟩] env))))
 (hst:starEach [vc] env=(false,eval vc env)::starEach [] env)(hpl:((backTo pos (starEach [vc] env)).any (·.1)||(backToKw pos (keywordEach [⟨some "key",kf,kp⟩] env)).any (·.1.isNone))=false)
 (hall:(backToKw pos (keywordEach [⟨some "key",kf,kp⟩] env)).all (·.1.isSome)=true)(hn1:1<=n) :
  aJ prog w base n env le keep (.Return (some (.Call func [vc] [⟨some "key",kf,kp⟩] pos)) rpos::rest) (do let v<-m;(do let r<-jH v;pure (.ret r))):=by
 revert G hf hfunc hv hkf he hst hpl hall hn1;revert pos kp rpos rest m;revert prog w base n env le keep K mg mb f func vc kf;apply b9;generalize cM=zt;generalize zt.1.1.1=prog,zt.1.1.2.1=w,zt.1.1.2.2=base,zt.1.2.1.1=n,zt.1.2.1.2=env,zt.1.2.2.1=le,zt.1.2.2.2=keep,zt.2.1.1=K,zt.2.1.2.1=mg,zt.2.1.2.2=mb,zt.2.2.1.1=f,zt.2.2.1.2=func,zt.2.2.2.1=vc,zt.2.2.2.2=kf;intros pos kp rpos rest;intros m;intro G hf hfunc hv hkf he hst hpl hall hn1;intros A σ ρ s;intro P H;rw[M.bind_eq];cases hm:m σ with
 |none=>trivial
 |some q=>
  revert q;intros q;intro hm;obtain⟨q,σ1⟩:=q;revert q σ1;intros q σ1;intro hm;have upto:∀ (Q:Value->Shared->Prop) E,(∀ v,q=.ok v->∀ ρ1 h1a tk1 x,Goes (frs A) [] ρ ρ1 s.heap h1a->Rep w base ρ1 σ1 h1a->Ep ρ1 h1a v x ->
     wpAny (model prog w) A (call (.builtin "sorted") [x] [(Str.ofString "key",.ref f)]) Q E {s with heap:=h1a,toks:=tk1}) ->
    (∀ v,q=.error v->∀ ρ1 h1a tk1 x,Goes (frs A) [] ρ ρ1 s.heap h1a->Rep w base ρ1 σ1 h1a->fT base A s.heap ρ1 σ1 h1a v x->E x {s with heap:=h1a,toks:=tk1}) ->
    wpAny (model prog w) A (eval (.Call func [vc] [⟨some "key",kf,kp⟩] pos) env) Q E s:=by
   intro Q E kok kerr;rw[he];have z1:Runs prog w base A [] (eval func env) s ρ (some (.ok (V.bi "sorted"),σ)) VR:=hfunc A σ ρ s P;refine LB (z1 _ E λρ1 h1a tk1 x G1a D1a r=>?_);rw[show x=.builtin "sorted" from r.callee rfl];have P1:=P.step G1a D1a;refine callWith_of (P:=λd=>True) hpl (λh d=>⟨.machine,.inr (.inl rfl),.now⟩) (evalArgs_kw2 hall ?_ hst);rw[hst];show wpAny _ _ (eval vc env>>=λv=>(pure [v]:Sem (List Value))>>=λhere=>holding here (spliced (backTo pos (starEach [] env)))>>=λr=>pure (here++r)) _ _ _;have z2:=hv A σ ρ1 {s with heap:=h1a,toks:=tk1} P1;rw[hm] at z2;refine LB ?_;cases q with
   |error v=>
    exact z2 _ E λρ2 h2a tk2 x G2a D2a e=>kerr v rfl ρ2 h2a tk2 x (G1a.trans G2a) D2a (e.older G1a D1a)
   |ok v=>
    refine z2 _ E λρ2 h2a tk2 y G2a D2a rv=>?_;have P2:=P1.step G2a D2a;refine LB (LC (LB (LU (LC (LC ?_)))));refine kwAll_cons ?_;have z3:Runs prog w base A [] (eval kf env) {s with heap:=h2a,toks:=tk2} ρ2 (some (.ok (V.ref f),σ1)) VR:=hkf A σ1 ρ2 {s with heap:=h2a,toks:=tk2} P2;refine z3 _ E λρ3 h3a tk3 u G3a D3a r3=>kwAll_nil ⟨trivial,?_⟩;rw[show u=.ref f from r3.callee rfl];obtain⟨j,a,view,rfl,ha,rfl,nv,ov,e1,e2,e3⟩:=rv;refine kok _ rfl ρ3 h3a tk3 _ ((G1a.trans G2a).trans G3a) D3a ⟨j,a,view,rfl,G3a.idx ha,rfl,G3a.gu e1 nv,ov,?_,e2,e3⟩;exact G3a.exact e1 nv List.not_mem_nil λq=>qC P2.S q e1 _ e3
  cases q with
  |error v=>
   revert v;intros v;intro hm upto;intros Q E;intro k;refine wpAny_execs_cons (wpAny_Return_some (upto _ _ (λv' e=>by cases e) ?_));intros v';intro e;intros ρ1 h1a tk1 x;intro G D er;cases e;exact k ρ1 h1a tk1 x (G.mono (λd d d z=>z) (λd d d z=>nomatch z) λa o d ha=>.inr (gA P.Y ha)) D er
  |ok v=>
   revert v;intros v;intro hm upto;show Runs _ _ _ _ _ _ _ _ ((jH v>>=λr=>pure (ay.ret r)) σ1) _;rw[M.bind_eq];cases hs:jH v σ1 with
   |none=>trivial
   |some r=>
    revert r;intros r;intro hs;injection HO hs with hs j l kz hz;obtain⟨hvj,hl,hkz,hcond,hr⟩:=hz
    cases hvj;cases hr;intros Q E;intro k;refine wpAny_execs_cons (wpAny_Return_some (upto _ _ ?_ λv' e=>by cases e));intros v';intro e;intros ρ1 h1a tk1 x;intro G D rv;cases e;injection rv with rv j' a view hz;obtain⟨ej,ha,rfl,nv,hview⟩:=hz
    cases ej;injection D.obj _ _ _ hl ha with x0 es mm hz;obtain⟨e,rl,nd⟩:=hz
    obtain⟨q1,q2,q3⟩:=Ge rl hkz;have P1:=P.step G D;injection P1.Y.ns with x0 mn hz;obtain⟨hns,_⟩:=hz
    have hLb:base.get? env.locals=none:=H.new _ (.head _);have hlen:l.length=es.size:=by rw[rl.length,Array.length_toList]
    have hglob:h1a.get? mainGlobals≠none:=by
     obtain⟨o,ho⟩:=D.glob;rw[D.sub _ _ ho];simp
    refine Ck (s:={s with heap:=h1a,toks:=tk1}) (kz:=kz) hf D.sub hLb (by have:=P.R.depth;lia) (P.R.handled hn1) hns hview e (by rw[q1,Array.length_toList]) (by lia) hcond.2 q2 ?_;intros h' tk Dl c';intro jK hn' hD hDs hlow hD';have hDρ:Dl∉ρ1:=λq=>by obtain⟨o,e,_⟩:=D.there q;rw[hD] at e;cases e
    injection iu P1.Y with x0 oL hz;obtain⟨eL,es1,es2⟩:=hz
    have D2a:Rep w base ρ1 σ1 h':=D.hidden λc o q cc=>jK c o (λz=>by
     subst z;rcases cc with cc|cc|⟨us,jj,cc⟩
     ·exact P1.Y.offL cc
     ·rw[hLb] at cc;cases cc
     ·rw[eL] at q;cases q;exact es1 us jj (by rw[cc])) q
    have tp:∀ a vs n,h1a.get? a=some {cls:=.type "tuple",data:=.seq vs n}->h'.get? a=some {cls:=.type "tuple",data:=.seq vs n}:=λa vs n q=>jK a _ (λz=>by
     subst z;rw[eL] at q;cases q;exact es1 _ _ rfl) q
    have hDb:base.get? Dl=none:=by
     cases q:base.get? Dl with
     |none=>rfl
     |some o=>
      rw[D.sub _ _ q] at hD;cases hD
    have D3a:=D2a.adopt (o:=.list (l.map (·.2))) hDρ hDb (hlow.resolve_right hglob) ⟨_,c',hD',by
     rw[List.toList_toArray];exact q3.mono iU tp⟩
    have hDs0:s.heap.get? Dl=none:=by
     cases q:s.heap.get? Dl with
     |none=>rfl
     |some o=>
      obtain⟨o',e'⟩:=G.there D q;rw[hD] at e';cases e'
    have Gown:Goes (frs A) (own env) ρ ρ1 s.heap h1a:=G.mono (λd d d z=>z) (λd d d z=>nomatch z) λa o d ha=>.inr (gA P.Y ha);have G2a:Goes (frs A) (own env) ρ1 ρ1 h1a h':=by
     obtain⟨oN,n1,n2,n3,n4,_⟩:=id hn';refine⟨⟨[],by simp⟩,λc o e nr nx=>⟨o,jK c o (λz=>nx (z▸.head _)) e,.inl rfl⟩,λd q=>.inl q,λc hc o e=>?_⟩;by_cases z:c=env.locals
     ·subst z;exact⟨oN,n3,(λd d d q=>by rw[n4] at q;cases q),λd d q=>by rw[n4] at q;cases q⟩
     ·exact⟨o,jK c o z e,id,id⟩
    exact k (ρ1++[Dl]) h' tk _ ((Gown.trans G2a).adopt hDs0) D3a ⟨_,rfl,.obj (jS D2a.len)⟩
end
noncomputable def qe(x:V):Except V V×ai->Option (Except V V×ai)
 |(.ok .none,σ')=>some (.ok x,σ')
 |(.ok _,_)=>none
 |(.error e,σ')=>some (.error e,σ')
noncomputable def tg(C:Addr)(g:List V->M V)(l:List V):M V:=λσ=>
 (g (.obj (σ.length+1)::l) (σ++[.sd []]++[.inst C σ.length])).bind (qe (.obj (σ.length+1)))
noncomputable def iS(C:Addr)(xs:List Value):Code:=.builtin "type.__call__" ⟨.ref C::xs,[]⟩
theorem lE{A:Around}{C:Addr}{xs:List Value}:(A.under (iS C xs)).frames=A.frames:=by
 show pushEnvs [] A.frames=A.frames;rw[pushEnvs_eq];cases A.frames<;>rfl
theorem kh{A:Around}{C:Addr}{xs:List Value}:frs (A.under (iS C xs))=frs A:=by unfold frs;rw[lE]
theorem IJ{A:Around}{C:Addr}{xs:List Value}:headOf (A.under (iS C xs))=headOf A:=by unfold headOf;rw[lE]
section
variable{prog:Program}{w:World}{base:Heap}{n:Nat}{K:Frag}{mg mb:Str->Option Value}
theorem CW{A:Around}{C:Addr}{xs:List Value}(R:c7 (n+1) A):c7 n (A.under (iS C xs)):=
 ⟨by show A.depth+1+3*n<=600;have:=R.depth;lia,by show A.units+1+60*n<=9000;have:=R.units;lia,λu=>R.handled (Nat.succ_pos _)⟩
theorem FW{A:Around}{C:Addr}{xs:List Value}{h:Heap}{ρ':List Addr}{σ':ai}{h':Heap}{v:V}{x:Value}(e:fT base (A.under (iS C xs)) h ρ' σ' h' v x):fT base A h ρ' σ' h' v x:=by
 revert e;revert base A C xs h ρ' σ' h' v x;apply cK;generalize dm=zt;generalize zt.1.1.1=base,zt.1.1.2=A,zt.1.2.1=C,zt.1.2.2.1=xs,zt.1.2.2.2=h,zt.2.1.1=ρ',zt.2.1.2=σ',zt.2.2.1=h',zt.2.2.2.1=v,zt.2.2.2.2=x;intro e;injection e with e i e B hz;obtain⟨h1,h2,h3,h4,h5,F⟩:=hz
 refine⟨i,e,B,h1,h2,h3,h4,h5,F.over,F.stays,F.new,?_,?_,?_⟩
 ·have:=F.fr
  rwa [lE] at this
 ·have:=F.jK
  rwa [kh] at this
 ·have:=F.trace
  rwa [IJ] at this
theorem oR(G:Gd K mg mb base){C fI:Addr}{g:List V->M V}(hm:makesIn K C=true)
 (hi:findIn K (.ref C) "__init__"=some (some (.ref fI)))(hf:typeIn K (.ref fI)=some (.type "function"))
 (H:gO prog w base n (.ref fI) g):gO prog w base (n+1) (.ref C) (tg C g):=by
 revert G hm hi hf H;revert prog w base n K mg mb C fI g;apply cK;generalize dm=zt;generalize zt.1.1.1=prog,zt.1.1.2=w,zt.1.2.1=base,zt.1.2.2.1=n,zt.1.2.2.2=K,zt.2.1.1=mg,zt.2.1.2=mb,zt.2.2.1=C,zt.2.2.2.1=fI,zt.2.2.2.2=g;intro G hm hi hf H;intros A σ ρ s;intros l xs;intro D S R r;have Xh:=G.X.keeps D.sub;have Y:=makes_of (M:=model prog w) Xh hm;obtain⟨hh,gs,d,t,os⟩:=s;revert hh gs d t os;intros hh gs d t;intros os;intro D S r Xh Y;have k1:∀ b o,hh.get? b=some o->(hh.push emptyDict).get? b=some o:=aP;have k2:∀ b o,(hh.push emptyDict).get? b=some o->((hh.push emptyDict).push (instObj C hh.objs.size)).get? b=some o:=aP;have hd:(hh.push emptyDict).get? hh.objs.size=some emptyDict:=by heap_get
 have D1:Rep w base (ρ++[hh.objs.size]) (σ++[.sd []]) (hh.push emptyDict):=
  D.alloc k1 (LP _) (o:=.sd []) ⟨#[],0,hd,.nil,List.nodup_nil⟩
 have hsz:(hh.push emptyDict).objs.size=hh.objs.size+1:=Heap.size_push _ _;have hx:((hh.push emptyDict).push (instObj C hh.objs.size)).get? (hh.objs.size+1)=some (instObj C hh.objs.size):=by heap_get
 have D2:Rep w base (ρ++[hh.objs.size]++[hh.objs.size+1]) (σ++[.sd []]++[.inst C σ.length]) ((hh.push emptyDict).push (instObj C hh.objs.size)):=
  D1.alloc k2 (Nat.le_of_eq hsz) (o:=.inst C σ.length) ⟨hh.objs.size,by rw[<- D.len];simp,hx⟩
 have G1:Goes (frs A) [] ρ (ρ++[hh.objs.size]) hh (hh.push emptyDict):=Goes.alloc k1 (LP _);have G2:Goes (frs A) [] (ρ++[hh.objs.size]) (ρ++[hh.objs.size]++[hh.objs.size+1]) (hh.push emptyDict) ((hh.push emptyDict).push (instObj C hh.objs.size)):=Goes.alloc k2 (Nat.le_of_eq hsz);have G12:=G1.trans G2;have S2:fj base A _ _:=S.step G12;have rx:VR (ρ++[hh.objs.size]++[hh.objs.size+1]) ((hh.push emptyDict).push (instObj C hh.objs.size)) (.obj (σ.length+1)) (.ref (hh.objs.size+1)):=
  .obj (by rw[List.getElem?_append_right (by simp[D.len])];simp[D.len])
 have rl:=r.mono (ρ':=ρ++[hh.objs.size]++[hh.objs.size+1]) (h':=(hh.push emptyDict).push (instObj C hh.objs.size)) (λu u e=>G12.idx e) λu u u e=>k2 _ _ (k1 _ _ e);have S2':fj base (A.under (iS C xs)) (ρ++[hh.objs.size]++[hh.objs.size+1]) ((hh.push emptyDict).push (instObj C hh.objs.size)):=
  ⟨by have:=S2.fr;rwa [<- lE (C:=C) (xs:=xs)] at this,by rw[kh];exact S2.off,by rw[kh];exact S2.cls⟩
 have z:=H (A.under (iS C xs)) _ _ ⟨(hh.push emptyDict).push (instObj C hh.objs.size),gs,d,t,os⟩ (.obj (σ.length+1)::l) (.ref (hh.objs.size+1)::xs) D2 S2' (CW R) (.cons rx rl);have enter:∀ Rz:Result->Shared->Prop,codeAny (model prog w) (A.under (iS C xs)) (.call (.ref fI) ⟨.ref (hh.objs.size+1)::xs,[]⟩) (InitBack (hh.objs.size+1) Rz) ⟨(hh.push emptyDict).push (instObj C hh.objs.size),gs,d,t,os⟩ ->
   codeAny (model prog w) A (.call (.ref C) ⟨xs,[]⟩) Rz ⟨hh,gs,d,t,os⟩:=λRz q=>
  make_core Y (looks_findIn Xh hi) (λself=>bind_fn Xh self hf) (.inl rfl) q
 show jA _ _ _ _ _ _ _ ((g (.obj (σ.length+1)::l) (σ++[.sd []]++[.inst C σ.length])).bind (qe (.obj (σ.length+1))));cases hg:g (.obj (σ.length+1)::l) (σ++[.sd []]++[.inst C σ.length]) with
 |none=>trivial
 |some q=>
  revert q;intros q;intro hg;obtain⟨q,σ'⟩:=q;revert q σ';intros q σ';intro hg;rw[hg] at z;cases q with
  |error v=>
   revert v;intros v;intro z hg;intros Rz;intro q;refine enter Rz (z _ ?_);intros ρ' h' tk x;intro G' D' e;rw[kh] at G';exact q ρ' h' tk x (G12.trans G') D' ((FW e).older G12 D2)
  |ok b=>
   revert b;intros b;intro z hg;cases b with
   |none=>
    intros Rz;intro q;refine enter Rz (z _ ?_);intros ρ' h' tk a;intro G' D' e;rw[kh] at G';cases e;exact⟨rfl,q ρ' h' tk _ (G12.trans G') D' (.obj (by
     cases rx with
     |obj e=>
      exact G'.idx e))⟩
   |_=>trivial
end
theorem kM{α:Type}:∀ (l r:List (Str×α)) (x:Str),(l++r).lookup x=(l.lookup x).or (r.lookup x)
 |[],r,x=>by simp
 |(k,v)::l,r,x=>by
  rw[List.cons_append,List.lookup_cons,List.lookup_cons];cases x==k with
  |true=>rfl
  |false=>exact kM l r x
theorem xZ{α:Type}(a b c:Option α):(a.or b).or c=a.or (b.or c):=by cases a<;>rfl
theorem Bj(kd:Str->Option NameKind){x:Str}(hx:kd x=some .local):∀ (b:List (Str×Value)) (m:Str->Option Value),bindL kd b m x=(b.reverse.lookup x).or (m x)
 |[],m=>rfl
 |(k,v)::r,m=>by
  show bindL kd r (if kd k=some .local then λy=>if y=k then some v else m y else m) x=_;rw[Bj kd hx r,List.reverse_cons,kM,xZ];congr 1;rw[List.lookup_cons,List.lookup_nil];by_cases q:x=k
  ·subst q;rw[if_pos hx];simp
  ·rw[beq_eq_false_iff_ne.mpr q];split<;>simp[q]
theorem BJ(kd:Str->Option NameKind){x:Str}(hx:kd x≠some .local):∀ (b:List (Str×Value)) (m:Str->Option Value),bindC kd b m x=(b.reverse.lookup x).or (m x)
 |[],m=>rfl
 |(k,v)::r,m=>by
  show bindC kd r (if kd k=some .local then m else λy=>if y=k then some v else m y) x=_;rw[BJ kd hx r,List.reverse_cons,kM,xZ];congr 1;rw[List.lookup_cons,List.lookup_nil];by_cases q:x=k
  ·subst q;rw[if_neg hx];simp
  ·rw[beq_eq_false_iff_ne.mpr q];split<;>simp[q]
noncomputable def jM(l:List (Str×NameKind)):List Str:=(l.filter λp=>p.2==.cell).map (·.1)
theorem cellsFrom_names:∀ (l:List (Str×NameKind)) (n:Nat) (acc:List (Str×Addr)),(cellsFrom n l acc).map (·.1)=(jM l).reverse++acc.map (·.1)
 |[],_,_=>rfl
 |(k,kind)::r,n,acc=>by
  unfold cellsFrom;by_cases q:(kind==NameKind.cell)=true
  ·rw[if_pos q,cellsFrom_names r];simp[jM,q]
  ·rw[if_neg q,cellsFrom_names r];simp[jM,q]
theorem qI{α:Type}:∀ {l:List (Str×α)} {p:Str×α},(l.map (·.1)).Nodup->p∈l->l.lookup p.1=some p.2
 |(k,v)::r,p,hn,hp=>by
  rw[List.lookup_cons];rw[List.map_cons,List.nodup_cons] at hn;rcases Lx hp with rfl|hp
  ·simp
  ·have ne:p.1≠k:=λe=>hn.1 (List.mem_map.mpr ⟨p,hp,e⟩);rw[beq_eq_false_iff_ne.mpr ne];exact qI hn.2 hp
theorem lookup_isSome{α:Type}{l:List (Str×α)}{x:Str}(h:x∈l.map (·.1)):∃ v,l.lookup x=some v:=by
 cases e:l.lookup x with
 |some v=>exact⟨v,rfl⟩
 |none=>
  obtain⟨p,hp,rfl⟩:=List.mem_map.mp h;have:=List.lookup_eq_none_iff.mp e p hp;simp at this
section
variable{prog:Program}{w:World}{base:Heap}{n:Nat}{K:Frag}{mg mb:Str->Option Value}
theorem we(G:Gd K mg mb base){f:Addr}{od:Option Addr}{cv:Value}{osl:Array (Option Value)}{name qual:Str}{params:Arguments}{body:List Stmt}{scope:Scope}{dV kV doc pm cdv ct:Value}{an:Option Addr}
 {names:List Str}{k:Nat}{m:List V->M ay}
 (ho:K.lookup f=some ⟨cv,od,.func (fnOf name qual params body scope dV kV doc pm an cdv ct),osl⟩)(hcd:codeIn K cdv qual=true)
 (hbind:∀ (xs:List Value),xs.length=k->bindArgs (fnOf name qual params body scope dV kV doc pm an cdv ct) ⟨xs,[]⟩=pure (names.zip xs))
 (hloc:∀ x∈names,scope.names.lookup x=some .local\/scope.names.lookup x=some .cell)
 (hcn:(jM scope.names).Nodup)
 (hb:∀ (l:List V) (L:Addr),l.length=k->aJ prog w base n (callEnvC (fnOf name qual params body scope dV kV doc pm an cdv ct) L f) (names.zip l).reverse [] body (m l))
 (hco:scope.isCoroutine=false)(hgen:scope.isGenerator=false)(hk:scope.kind=.function)(hfree:∀ x∈scope.names,x.2≠.free) :
  gO prog w base (n+1) (.ref f) (λl=>if l.length=k then fin (m l) else M.fail):=by
 revert G ho hcd hbind hloc hcn hb hco hgen hk hfree;revert cdv ct an names k m;revert prog w base n K mg mb f od cv osl name qual params body scope dV kV doc pm;apply nS;generalize gm=zt;generalize zt.1.1.1.1=prog,zt.1.1.1.2=w,zt.1.1.2.1=base,zt.1.1.2.2.1=n,zt.1.1.2.2.2=K,zt.1.2.1.1=mg,zt.1.2.1.2=mb,zt.1.2.2.1=f,zt.1.2.2.2.1=od,zt.1.2.2.2.2=cv,zt.2.1.1.1=osl,zt.2.1.1.2=name,zt.2.1.2.1=qual,zt.2.1.2.2.1=params,zt.2.1.2.2.2=body,zt.2.2.1.1=scope,zt.2.2.1.2=dV,zt.2.2.2.1=kV,zt.2.2.2.2.1=doc,zt.2.2.2.2.2=pm;intros cdv ct an names;intros k m;intro G ho hcd hbind hloc hcn hb hco hgen hk hfree;intros A σ ρ s;intros l xs;intro D S R r;show jA _ _ _ _ _ _ _ ((if l.length=k then fin (m l) else M.fail) σ);split
 ·rename_i hl;injection S.fr with x0 fs hz;obtain⟨hA,hfs⟩:=hz
  have Xh:=G.X.keeps D.sub;have new:∀ a:Nat,s.heap.objs.size<=a->s.heap.get? a=none:=λa ha=>by
   cases e:s.heap.get? a with
   |none=>rfl
   |some o=>exact LW (LS (LM e) ha) (LV _)
  have hLn:s.heap.get? s.heap.objs.size=none:=new _ (LP _);have hLb:base.get? s.heap.objs.size=none:=by
   cases e:base.get? s.heap.objs.size with
   |none=>rfl
   |some o=>
    rw[D.sub _ _ e] at hLn;cases hLn
  have hnρ:∀ a:Nat,s.heap.objs.size<=a->a∉ρ:=λa ha q=>LV _ (LS (D.lt q) ha);have zz:=(cI.zip (names:=names) r)
  have hxl:xs.length=k:=r.length▸hl;have cell_in:∀ (x:Str),scope.names.lookup x=some .cell->x∈jM scope.names:=λx e=>
   List.mem_map.mpr ⟨(x,.cell),List.mem_filter.mpr ⟨LJ e,rfl⟩,rfl⟩
  have cell_at:∀ (L:Nat) (x:Str),scope.names.lookup x=some .cell->∃ c,(cellsFrom L scope.names []).lookup x=some c:=λL x e=>
   lookup_isSome (by rw[cellsFrom_names];simpa using cell_in x e)
  have nodup:∀ L:Nat,((cellsFrom L scope.names []).map (·.1)).Nodup:=λL=>by rw[cellsFrom_names,List.map_nil,List.append_nil];exact List.pairwise_reverse.mpr (hcn.imp λq=>Ne.symm q)
  have hkind:∀ y∈names.zip xs,scope.names.lookup y.1=some .local\/(scope.names.lookup y.1=some .cell/\((cellsFrom (s.heap.objs.size+1) scope.names []).lookup y.1).isSome=true):=λy hy=>by
   rcases hloc y.1 (List.of_mem_zip hy).1 with q|q
   ·exact .inl q
   ·exact .inr ⟨q,Option.isSome_iff_exists.mpr (cell_at _ _ q)⟩
  have hroom:A.depth<recursionLimit:=by have:=R.depth;show A.depth<1000;lia
  generalize hfd:fnOf name qual params body scope dV kV doc pm an cdv ct=fd at *;have hsc:fd.scope=scope:=by rw[<- hfd]
  generalize henv:callEnvC fd s.heap.objs.size f=env at *;have eL:env.locals=s.heap.objs.size:=by rw[<- henv];rfl
  have eC:env.cells=cellsFrom (s.heap.objs.size+1) scope.names []:=by rw[<- henv,<- hsc];rfl
  have eF:env.frame=some s.heap.objs.size:=by rw[<- henv];rfl
  have eS:env.scope=scope:=by rw[<- henv,<- hsc];rfl
  have eK:∀ x,env.kindOf x=scope.names.lookup x:=λx=>by rw[<- henv,<- hsc];rfl
  have eG:env.globals=mainGlobals:=by rw[<- henv,<- hfd];rfl
  have eB:env.builtins=builtinsNs:=by rw[<- henv,<- hfd];rfl
  have enter:∀ (Rz:Result->Shared->Prop),
    (∀ s₁,InCallC s env.locals (bindL env.kindOf (names.zip xs) λu=>none) env.cells (bindC env.kindOf (names.zip xs) λu=>none) s₁ ->
     wpAny (model prog w) (A.deeper env) (execs body env)
      (λfl s'=>Rz (.ok (.ret (match fl with|.ret v=>v|_=>.none))) s')
      (λe s'=>wpAny (model prog w) (A.deeper env) (leaving env e) (λu s''=>Rz (.error e) s'') (λe' s''=>Rz (.error e') s'') s')
      s₁) ->
    codeAny (model prog w) A (.call (.ref f) ⟨xs,[]⟩) Rz s:=λRz h=>by
   refine codeAny_call_cells (fd:=fd) (body:=body) (binds:=names.zip xs) hroom (Xh _ _ ho) rfl (G.nolimit.keeps D.sub) ?_ ?_ (hbind xs hxl) ?_ ?_ ?_ ?_ ?_ ?_
   ·rw[<- hfd];exact codeRec_of Xh hcd
   ·rw[<- hfd]
   ·rw[<- hfd]
   ·rw[hsc];exact hkind
   ·rw[henv];exact h
   ·rw[hsc];exact hco
   ·rw[hsc];exact hgen
   ·rw[hsc];exact hk
  have within:∀ s₁,InCallC s env.locals (bindL env.kindOf (names.zip xs) λu=>none) env.cells (bindC env.kindOf (names.zip xs) λu=>none) s₁ ->
    Runs prog w base (A.deeper env) (own env) (execs body env) s₁ ρ (m l σ) (qc env []):=by
   intro s₁ I;have hk1:=I.toInCall.keep;have hns:=I.toInCall.ns;obtain⟨oL,es,ep,hoL,hdL,_⟩:=id hns;have nf:∀ vs,oL.data≠.fields vs:=λvs e=>by rw[hdL] at e;cases e
   have above:∀ p∈env.cells,s.heap.objs.size<p.2:=λp hp=>by have:=I.above p.1 p.2 hp;rwa [eL] at this
   have isC:∀ p∈env.cells,∃ v,s₁.heap.IsCell p.2 v:=λp hp=>⟨_,I.cell p.1 p.2 (qI (by rw[eC];exact nodup _) hp)⟩
   refine hb l s.heap.objs.size hl |> λz=>?_;rw[henv] at z;refine z _ σ ρ s₁ ⟨D.keeps hk1,⟨⟨_,Around.frames_deeper hA,?_⟩,?_,?_⟩,R.deeper _,?_⟩ ⟨⟨_,Around.frames_deeper hA⟩,by rw[eF,eL],?_⟩
   ·refine⟨by rw[eS,hk];decide,⟨_,oL,eF,hLb,by rw[<- eL];exact hoL,nf⟩,hfs.of_keeps λb o e u=>⟨o,hk1 b o e,rfl⟩⟩
   ·intro a ha;rw[eY eF hA] at ha;rcases Lx ha with rfl|ha
    ·exact hnρ _ (LP _)
    ·exact S.off a ha
   ·intro a ha;rw[eY eF hA] at ha;rcases Lx ha with rfl|ha
    ·exact⟨oL,by rw[<- eL];exact hoL,λu u e=>by rw[hdL] at e;cases e⟩
    ·obtain⟨o,e,q⟩:=S.cls a ha;exact⟨o,hk1 _ _ e,q⟩
   ·have rz:cI (VR ρ s₁.heap) (names.zip l).reverse (names.zip xs).reverse:=zz.rev.mono λv x r=>r.mono (λu u z=>z) λu u u z=>hk1 _ _ z;have loc:∀ x v,(names.zip l).reverse.lookup x=some v->scope.names.lookup x=some .local\/scope.names.lookup x=some .cell:=λx v e=>by
     have:=List.mem_reverse.mp (LJ e);exact hloc x (List.of_mem_zip this).1
    refine⟨⟨_,hns,λx v e q=>?_⟩,λx v e q=>?_,λx v e=>?_,by rw[eL];exact hnρ _ (LP _),λp hp=>⟨hnρ _ (Nat.le_of_lt (above p hp)),by rw[eL];exact L7 (above p hp),isC p hp⟩,I.apart,λx e=>?_,by rw[eS];exact hk,eG,eB⟩
    ·obtain⟨val,e',rv⟩:=rz.lookup e;exact⟨val,by rw[Bj _ q,e'];rfl,rv⟩
    ·have q':scope.names.lookup x=some .cell:=by
      rw[eK] at q;exact q.elim id λq=>LW q (oS hfree)
     obtain⟨c,hc⟩:=cell_at (s.heap.objs.size+1) x q';obtain⟨val,e',rv⟩:=rz.lookup e;refine⟨c,val,by rw[eC];exact hc,?_,rv⟩;have:=I.cell x c (by rw[eC];exact hc)
     rwa [BJ _ (by rw[eK,q'];decide),e'] at this
    ·rw[eK];exact(loc x v e).imp id .inl
    ·rw[eK] at e;obtain⟨c,hc⟩:=cell_at (s.heap.objs.size+1) x (e.elim id λq=>LW q (oS hfree));exact⟨c,by rw[eC];exact hc⟩
   ·intro a ha;have ha':s.heap.objs.size<=a:=by
     rcases Lx ha with rfl|ha
     ·rw[eL];exact LP _
     ·obtain⟨p,hp,rfl⟩:=List.mem_map.mp ha;exact Nat.le_of_lt (above p (List.mem_filter.mp hp).1)
    cases e:base.get? a with
    |none=>rfl
    |some o=>
     have:=D.sub _ _ e;rw[new a ha'] at this;cases this
  have hX:∀ s₁,InCallC s env.locals (bindL env.kindOf (names.zip xs) λu=>none) env.cells (bindC env.kindOf (names.zip xs) λu=>none) s₁->∀ a∈own env,s.heap.get? a=none:=by
   intro s₁ I a ha;refine new a ?_;rcases Lx ha with rfl|ha
   ·rw[eL];exact LP _
   ·obtain⟨p,hp,rfl⟩:=List.mem_map.mp ha;have:=I.above p.1 p.2 (List.mem_filter.mp hp).1;rw[eL] at this;exact Nat.le_of_lt this
  unfold fin;rw[M.bind_eq];cases hm:m l σ with
  |none=>trivial
  |some r'=>
   revert hfd ho hbind hb hsc henv eL eC eF eS eK eG eB enter within hX hm;revert fd env r';intros fd env r';intro hfd ho hbind hb hsc henv eL eC eF eS eK eG eB enter within hX hm;obtain⟨r',σ'⟩:=r';revert r' σ';intros r' σ';intro hm;have outL:∀ s₁,InCallC s env.locals (bindL env.kindOf (names.zip xs) λu=>none) env.cells (bindC env.kindOf (names.zip xs) λu=>none) s₁->∀ {ρ':List Addr} {h':Heap},
     Goes (frs (A.deeper env)) (own env) ρ ρ' s₁.heap h'->Goes (frs A) [] ρ ρ' s.heap h':=λs₁ I ρ' h' G=>by
    rw[eY eF hA] at G;exact G.left I.toInCall.keep hLn (hX s₁ I)
   cases r' with
   |error v=>
    revert v;intros v;intro hm;intros Rz;intro q;refine enter Rz ?_;intros s₁;intro I;have z:=within s₁ I;rw[hm] at z;injection (id I.toInCall.same) with x0 h1a tk1 hz;obtain rfl:=hz
    refine z _ _ ?_;intros ρ' h' tk x;intro G' D' e;have hLρ':s.heap.objs.size∉ρ':=by
     obtain⟨oL,_,_,hoL,_⟩:=id I.toInCall.ns;rw[eL] at hoL;exact G'.gu hoL (hnρ _ (LP _))
    exact oM (s:=s) (s₁:={s with heap:=h1a}) (L:=s.heap.objs.size) (X:=own env) hA eF S (let⟨oL,_,_,hoL,hdL,_⟩:=I.toInCall.ns;⟨oL,eL▸hoL,λu u e=>by rw[hdL] at e;cases e⟩) (by unfold own;rw[eL];exact .head _) I.toInCall.keep hLn hLρ' G' (hX _ I) D' e λh'' tk' G'' D'' e''=>q ρ' h'' tk' x G'' D'' e''
   |ok c=>
    revert c;intros c;intro hm;cases c with
    |next=>
     intros Rz;intro q;refine enter Rz ?_;intros s₁;intro I;have z:=within s₁ I;rw[hm] at z;have oo:=@outL s₁ I;injection (id I.toInCall.same) with x0 h1a tk1 hz;obtain rfl:=hz
     refine z _ _ ?_;intros ρ' h' tk fl;intro G' D' e;obtain⟨rfl,_⟩:=e;exact q ρ' h' tk .none (oo G') D' .none
    |ret v=>
     revert v;intros v;intro hm;intros Rz;intro q;refine enter Rz ?_;intros s₁;intro I;have z:=within s₁ I;rw[hm] at z;have oo:=@outL s₁ I;injection (id I.toInCall.same) with x0 h1a tk1 hz;obtain rfl:=hz
     refine z _ _ ?_;intros ρ' h' tk fl;intro G' D' e;injection e with e x hz;obtain⟨rfl,rx⟩:=hz
     exact q ρ' h' tk x (oo G') D' rx
 ·trivial
theorem oj(G:Gd K mg mb base){f:Addr}{od:Option Addr}{cv:Value}{osl:Array (Option Value)}{name qual:Str}{params:Arguments}{body:List Stmt}{scope:Scope}{dV kV doc pm cdv ct:Value}{an:Option Addr}
 {names:List Str}{k:Nat}{m:List V->M ay}
 (ho:K.lookup f=some ⟨cv,od,.func (fnOf name qual params body scope dV kV doc pm an cdv ct),osl⟩)(hcd:codeIn K cdv qual=true)
 (hbind:∀ (xs:List Value),xs.length=k->bindArgs (fnOf name qual params body scope dV kV doc pm an cdv ct) ⟨xs,[]⟩=pure (names.zip xs))
 (hloc:∀ x∈names,scope.names.lookup x=some .local\/scope.names.lookup x=some .cell)
 (hcn:(jM scope.names).Nodup)
 (hb:∀ (l:List V) (L:Addr),l.length=k->aJ prog w base n (callEnvC (fnOf name qual params body scope dV kV doc pm an cdv ct) L f) (names.zip l).reverse [] body (m l))
 (hco:scope.isCoroutine=false)(hgen:scope.isGenerator=false)(hk:scope.kind=.function)(hfree:∀ x∈scope.names,x.2≠.free) :
  bC prog w base (n+1) (.ref f) (λl=>if l.length=k then fin (m l) else M.fail):=
 (we G ho hcd hbind hloc hcn hb hco hgen hk hfree).f
end
section
variable{prog:Program}{w:World}{base:Heap}{n:Nat}{env:Env}{le keep:List (Str×V)}{K:Frag}{mg mb:Str->Option Value}
theorem pI{o i value:Expr}{pos pos':Pos}{rest:List Stmt}{m mo mi:M V}{f:M ay}(h:aC prog w base n env le value m)(ho:aC prog w base n env le o mo)(hi:aC prog w base n env le i mi)
 (h2:aJ prog w base n env le keep rest f)(hs:swapsWithSole [.Subscript o i pos'] value pos.line env=pure false)(hw:swappedStores [.Subscript o i pos'] value env=pure none) :
  aJ prog w base n env le keep (.Assign [.Subscript o i pos'] value pos::rest) (do (do let v<-m;let b<-mo;let k<-mi;gG b k v);f):=by
 refine dz.block (m:=do let v<-m;let b<-mo;let k<-mi;gG b k v) (f:=λu=>f) (le':=λu=>le) (gx hs hw rfl) ?_ λu=>h2;intro A σ ρ s P H;refine Runs.aY (dz.fF h (λv x A σ ρ s P H r=>?_) A σ ρ s P H);obtain⟨vs,ha⟩:=qB (env:=env) o i pos';rw[ha];have e:(mo>>=λb=>mi>>=λk=>gG b k v) σ=((mo>>=λb=>mi>>=λk=>gG b k v)>>=λu=>pure ()) σ:=M.bind_pure.symm;rw[e];refine Runs.fF P (R:=λu u u u=>True) ?_ λu σ' ρ' h' tk u G' P' u=>Runs.pure P'.D ⟨rfl,P'.Y⟩;refine Runs.bind (Runs.holding (ho A σ ρ s P)) λb σ' u ρ' h' tk y G' D' ry=>?_;refine Runs.bind (Runs.holding (hi A σ' ρ' _ (P.step G' D'))) λk σ'' u ρ'' h'' tk' z G'' D'' rz=>Runs.aY (Runs.release (Runs.holding ?_));exact AQ P.R (λu u q=>nomatch q) D'' ((P.step G' D').vr G'' ry) rz ((P.step G' D').vr G'' (P.vr G' r))
theorem xA{M:Model}{A:Around}{E:Value->Shared->Prop}{s:Shared}{i:Int}{Q:Value->Shared->Prop}(h:Q (.int i s.toks) {s with toks:=s.toks+1}):wpAny M A (do return Value.int i (<- fresh)) Q E s:=by
 refine LB (λΓ p hΓ=>?_);exact(LC h:wpAny M A (pure (Value.int i s.toks)) Q E {s with toks:=s.toks+1})
theorem Cb(G:Gd K mg mb base){f:Addr}{od:Option Addr}{cv:Value}{osl:Array (Option Value)}{name qual:Str}{params:Arguments}{body:List Stmt}{scope:Scope}{dV kV doc pm cdv ct:Value}{an:Option Addr}
 {x:Str}{p1 p2 p3 p4:Pos}{c:Nat}
 (ho:K.lookup f=some ⟨cv,od,.func (fnOf name qual params body scope dV kV doc pm an cdv ct),osl⟩)(hcd:codeIn K cdv qual=true)
 (hbody:body=[.Return (some (.Subscript (.Name x p1) (.Constant (.int 0) c p2) p3)) p4])
 (hbind:∀ v,bindArgs (fnOf name qual params body scope dV kV doc pm an cdv ct) ⟨[v],[]⟩=pure [(x,v)])
 (hloc:scope.names.lookup x=some .local)(hd:(x==("__debug__":Str))=false)
 (hco:scope.isCoroutine=false)(hgen:scope.isGenerator=false)(hk:scope.kind=.function)(hcell:∀ x∈scope.names,x.2≠.cell):v9 prog w base f:=by
 intro A s a vs m k t Q E sub hA ha hv q;refine wpAny_call (codeAny_call_def (fd:=fnOf name qual params body scope dV kV doc pm an cdv ct) (body:=body) (binds:=[(x,.ref a)]) (by show A.depth<1000;lia) (G.X.keeps sub _ _ ho) rfl (G.nolimit.keeps sub) (codeRec_of (G.X.keeps sub) hcd) rfl (.of_eq (hbind _)) hcell
  (λy hy=>by rw[List.mem_singleton.mp hy];exact hloc) (λh1a hns hk1=>?_) hco hgen hk)
 generalize hE:callEnv (fnOf name qual params body scope dV kV doc pm an cdv ct) s.heap.objs.size f=env;have hkd:env.kindOf x=some .local:=by rw[<- hE];exact hloc
 have hkf:env.scope.kind=.function:=by rw[<- hE];exact hk
 have hL:env.locals=s.heap.objs.size:=by rw[<- hE];rfl
 rw[hbody];show wpAny _ _ ((standAt p4>>=λu=>eval (.Subscript (.Name x p1) (.Constant (.int 0) c p2) p3) env>>=λv=>pure (Flow.ret v))>>=λfl=>match fl with|.next=>execs [] env|f=>pure f) _ _ _;refine LB (LB (LX (LB ?_)));show wpAny _ _ (do
   let o<-eval (.Name x p1) env
   let i<-holding [o] (eval (.Constant (.int 0) c p2) env)
   standAt p3
   subscriptTail (.Name x p1) (.Constant (.int 0) c p2) o i) _ _ _
 refine LB (wpAny_Name (wpAny_loadName_local (v:=.ref a) hkf hkd (by rw[hL];exact hns) (by simp) ?_) hd);refine LB (LU ?_);show wpAny _ _ (do return Value.int 0 (<- fresh)) _ _ _;refine xA ?_;have hv0:0<vs.size:=(Array.getElem?_eq_some_iff.mp hv).1;have e1:h1a.get? a=some {cls:=.type "tuple",data:=.seq vs m}:=hk1 _ _ ha;refine LB (LX ?_);refine tail_any (T:="tuple") (iM e1).typeIs slot_tuple_getitem.lookup (getItem_tuple (k:=0) (iM e1) (by lia) (by lia) (rG hv0) hv ?_) rfl;exact LC (LC (q h1a _ hk1))
end
noncomputable def Hs(o:Obj):Obj:={o with data:=.freed}
noncomputable def rW(h:Heap)(a:Addr):Heap:=h.update a Hs
theorem tT{h:Heap}{a:Addr}:(rW h a).get? a=none:=by
 revert h a;intros h a;cases e:(rW h a).get? a with
 |none=>rfl
 |some o=>
  revert o;intros o;intro e;exfalso;obtain⟨e1,e2⟩:=Heap.get?_some_iff.mp e;unfold rW at e1;obtain⟨objs,l⟩:=h;revert objs l;intros objs l;intro e e1;simp only[Heap.update,Array.getElem?_modify,if_true] at e1;cases q:objs[a]? with
  |none=>rw[q] at e1;cases e1
  |some o'=>
   revert o';intros o';intro q;rw[q] at e1;cases e1;cases e2
theorem su{h:Heap}{a b:Addr}(n:a≠b):(rW h a).get? b=h.get? b:=Heap.get?_update_other _ _ n
noncomputable def without:Heap->List Addr->Heap
 |h,[]=>h
 |h,a::l=>without (rW h a) l
theorem ly:∀ {l:List Addr} {h:Heap} {b:Addr},b∉l->(without h l).get? b=h.get? b
 |[],_,_,_=>rfl
 |a::l,h,b,n=>by
  rw[without,ly (λq=>n (List.mem_cons_of_mem _ q)),su (λq=>by subst q;exact n List.mem_cons_self)]
theorem sj:∀ {l:List Addr} {h:Heap} {b:Addr},h.get? b=none->(without h l).get? b=none
 |[],_,_,e=>e
 |a::l,h,b,e=>by
  rw[without];refine sj ?_;by_cases q:a=b
  ·subst q;exact tT
  ·rw[su q];exact e
theorem oz{l:List Addr}{h:Heap}{b:Addr}(n:b∈l):(without h l).get? b=none:=by
 induction l generalizing h with
 |nil=>exact nomatch n
 |cons a l ih=>
  rw[without];by_cases q:a=b
  ·subst q;exact sj tT
  ·exact ih ((Lx n).resolve_left λz=>q z.symm)
def q6(C:Addr)(k:Nat)(r:Except V V×ai):Option (Except V ay×ai):=
 Except.casesOn r.1 (λv=>some (.error v,r.2)) λv=>v.bO.bind λi=>if k<=i then (r.2[i]?.bind aq.jo).bind λp=>if p.1=C/\p.2.2=true then some (.error (.obj i),r.2.set i (.exc p.1 p.2.1 false)) else none else none
theorem EA{C:Addr}{k:Nat}{v:V}{σ:ai}{q:Except V ay×ai}(h:q6 C k (.ok v,σ)=some q):∃ i d,v=.obj i/\k<=i/\σ[i]?=some (.exc C d true)/\(.error (.obj i),σ.set i (.exc C d false))=q:=by
 obtain⟨i,hi,h⟩:=Lv h;obtain⟨hk,h⟩:=aE h;obtain⟨c,d,w,h1,h⟩:=q9 h;have hc:c=C/\w=true:=(aE h).1;rw[hc.1,hc.2] at h1;exact⟨i,d,V.cu hi,hk,h1,hc.1▸LF (aE h).2⟩
theorem E6{C:Addr}{k i:Nat}{d:Option Nat}{σ:ai}(hk:k<=i)(h:σ[i]?=some (.exc C d true)):q6 C k (.ok (.obj i),σ)=some (.error (.obj i),σ.set i (.exc C d false)):=by
 show (if k<=i then (σ[i]?.bind aq.jo).bind _ else none)=_;rw[if_pos hk,h];exact if_pos ⟨rfl,rfl⟩
def rK(C:Addr)(m:M V):M ay:=λσ=>(m σ).bind (q6 C σ.length)
noncomputable def vX(K:Frag)(C:Addr):Bool:=subIn K (.ref C) (.type "BaseException")==some true&&typeIn K (.ref C)==some (.type "type")
section
variable{prog:Program}{w:World}{base:Heap}{n:Nat}{env:Env}{le keep:List (Str×V)}{K:Frag}{mg mb:Str->Option Value}
theorem Bg{A:Around}{E:Value->Shared->Prop}{s:Shared}{x:Sem Value}{Q:Flow->Shared->Prop}(hh:A.handled=none)
 (h:wpAny (model prog w) A x (λv s₁=>∃ e C oe vs,v=.ref e/\K.In s₁.heap/\vX K C=true/\s₁.heap.get? e=some oe/\oe.cls=.ref C/\oe.data=.fields vs/\vs[1]?=some .none/\E (.ref e) s₁) E s) :
  wpAny (model prog w) A (raiseStmt env (some x) none) Q E s:=by
 revert hh h;revert prog w env K A E s x Q;intros prog w env K;intros A E s x;intros Q;intro hh h;unfold raiseStmt;refine LB (LY h ?_ λu u x=>x);intros v s₁;intro h1a;injection h1a with h1a e C oe vs hz;obtain⟨rfl,X,ok,he,hc,hd,h1,hE⟩:=hz
 unfold vX at ok;simp only[Bool.and_eq_true,beq_iff_eq] at ok;obtain⟨hp,g,d,tk,os⟩:=s₁;revert hp g tk os;intros hp g tk os;intro X he hE;dsimp only at X he;have ty:Looks (model prog w) hp (typeOf (.ref e)) (.ref C):=((Looks.ld he).andThen (hc▸.now))
 have ii:Looks (model prog w) hp (isInstance (.ref e) (.type "BaseException")) true:=ty.andThen (looks_subIn X ok.1);have tt:=looks_typeIn (M:=model prog w) X ok.2;have it:Looks (model prog w) hp (isType (.ref e)) false:=(Looks.ld he).andThen (by rw[hd];exact .now);unfold excFromValue isExcClass raisedInstance setFlight;refine LB (LC ?_);refine LB (LU ?_);refine LB (LB (it.at ?_));rw[if_neg (by decide)];refine LC ?_;rw[if_neg (by decide)];refine LB (ii.at ?_);rw[if_pos rfl];refine LC (LB (it.at ?_));rw[if_neg (by decide)];refine LB (LB (ty.at (LB (tt.at ?_))));rw[if_pos (by decide)];refine LC (LB (LB (wpAny_field he hd h1 ?_)));rw[if_neg (by decide)];exact LC (wpAny_raiseNew_none hh hE)
theorem nQ{h base B:Heap}:∀ {fs:List Env},h.FunFrames base fs->(∀ env∈fs,∀ L,env.frame=some L->B.get? L=none)->h.FunFrames B fs
 |[],_,_=>trivial
 |env::fs,⟨hk,⟨L,o,hf,hn,ho,hd⟩,r⟩,k=>⟨hk,⟨L,o,hf,k env (.head _) L hf,ho,hd⟩,nQ r λe he=>k e (.tail _ he)⟩
theorem EN{A:Around}{h h':Heap}{ρ':List Addr}{σ':ai}{i:Nat}{ea:Addr}{oe:Obj}{vs:Array Value}(S:fj base A ρ' h')(D:Rep w base ρ' σ' h')(hi:ρ'[i]?=some ea)(he:h'.get? ea=some oe)(hd:oe.data=.fields vs)(hsz:1<vs.size)(h1:vs[1]?=some .none) :
  jk base A h ρ' h' ea (without h' (ea::frs A)):=by
 have hm:ea∈ρ':=LG hi;obtain⟨fs,hA,hf⟩:=S.fr;refine⟨λb o q=>?_,λb o q=>?_,oz (.head _),⟨fs,hA,nQ hf λenv he' L hL=>oz (.tail _ ((sV hA).mpr ⟨env,he',hL⟩))⟩,λa o q u nf ne=>?_,⟨oe,vs,he,hd,hsz,.inl h1⟩⟩
 ·rw[ly]
  ·exact D.sub b o q
  ·intro z;rcases Lx z with rfl|z
   ·rw[D.off _ hm] at q;cases q
   ·obtain⟨env,he',hL⟩:=(sV hA).mp z;have:b∈fs.filterMap (·.frame):=List.mem_filterMap.mpr ⟨env,he',hL⟩;rw[(hf.mem this).1] at q;cases q
 ·by_cases z:b∈ea::frs A
  ·rw[oz z] at q;cases q
  ·rwa [ly z] at q
 ·rw[ly λz=>(List.mem_cons.mp z).elim ne nf];exact q
theorem B4(G:Gd K mg mb base){e:Expr}{pos:Pos}{rest:List Stmt}{m:M V}{C:Addr}(ok:vX K C=true)(h:aC prog w base n env le e m)(hn1:1<=n:=by lia):aJ prog w base n env le keep (.Raise (some e) none pos::rest) (rK C m):=by
 revert G ok h hn1;revert C;revert prog w base n env le keep K mg mb e pos rest m;apply b9;generalize cM=zt;generalize zt.1.1.1=prog,zt.1.1.2.1=w,zt.1.1.2.2=base,zt.1.2.1.1=n,zt.1.2.1.2=env,zt.1.2.2.1=le,zt.1.2.2.2=keep,zt.2.1.1=K,zt.2.1.2.1=mg,zt.2.1.2.2=mb,zt.2.2.1.1=e,zt.2.2.1.2=pos,zt.2.2.2.1=rest,zt.2.2.2.2=m;intros C;intro G ok h hn1;intros A σ ρ s;intro P H;show Runs _ _ _ _ _ (exec (.Raise (some e) none pos) env>>=λfl=>match fl with|.next=>execs rest env|f=>pure f) _ _ ((m σ).bind (q6 C σ.length)) _;have z:=h A σ ρ s P;have start:∀ (Q:Flow->Shared->Prop) (E:Value->Shared->Prop),wpAny (model prog w) A (eval e env) (λv s₁=>∃ e C oe vs,v=.ref e/\K.In s₁.heap/\vX K C=true/\s₁.heap.get? e=some oe/\oe.cls=.ref C/\oe.data=.fields vs/\vs[1]?=some .none/\E (.ref e) s₁) E s ->
   wpAny (model prog w) A (exec (.Raise (some e) none pos) env>>=λfl=>match fl with|.next=>execs rest env|f=>pure f) Q E s:=λQ E q=>by
  rw[arm_exec_Raise];refine LB (LB (LX (Bg (K:=K) (P.R.handled hn1) ?_)));exact LB (LY q (λv s' z=>LB (LX (LC z))) λu u z=>z)
 refine Runs.inv ?_;intros res σ2;intro ev;injection Lv ev with ev q hz;obtain⟨hm,hz⟩:=hz
 obtain⟨q,σ'⟩:=q;revert hm hz;revert q σ';intros q σ';intro hm hz;rw[hm] at z;have Gx:∀ {ρ':List Addr} {h':Heap},Goes (frs A) [] ρ ρ' s.heap h'->Goes (frs A) (own env) ρ ρ' s.heap h':=λG=>G.mono (λu u u z=>z) (λu u u z=>nomatch z) λa o u ha=>.inr (gA P.Y ha);cases q with
 |error v=>
  revert hm hz z;revert v;intros v;intro z hm hz;cases (show some (Except.error v,σ')=some (res,σ2) from hz);intros Q E;intro k;exact start Q E (z _ _ λρ' h' tk x G D e=>k ρ' h' tk x (Gx G) D e)
 |ok b=>
  revert hm hz z;revert b;intros b;intro z hm hz;injection EA hz with hz i d hz;obtain⟨rfl,hle,hx,hr⟩:=hz
  cases hr;intros Q E;intro k;refine start Q E (z _ _ ?_);intros ρ' h' tk a;intro G' D r;refine r.objE ?_;intros ea;intro hi;have P':=P.step G' D;injection D.obj _ _ _ hx hi with x0 da vs sl hz;obtain⟨h1,h2,h3⟩:=hz
  obtain⟨hsz,hv1⟩:=h3 rfl;have D2:Rep w base ρ' (σ'.set i (.exc C d false)) h':=D.update hi (.refl _ _) ⟨_,h2,by simp⟩ ⟨da,vs,sl,h1,h2,λz=>nomatch z⟩;have hnone:s.heap.get? ea=none:=by
   rcases G'.fresh ea (LG hi) with q|q
   ·exfalso;obtain⟨j,hj⟩:=List.mem_iff_getElem?.mp q;have hj':=G'.idx hj;have:=(List.getElem?_inj (LA hi).1 D.nd).mp (hi.trans hj'.symm);have hlt:=(LA hj).1;rw[P.D.len] at hlt;exact LV _ (LS hlt (this▸hle))
   ·exact q
  refine⟨ea,C,_,vs,rfl,G.X.keeps D.sub,ok,h2,rfl,rfl,hv1,?_⟩;exact k ρ' h' tk (.ref ea) (Gx G') D2 ⟨i,ea,_,rfl,rfl,hi,hnone,⟨C,d,by rw[List.getElem?_set_self (List.getElem?_eq_some_iff.mp hx).1]⟩,EN P'.S D hi h2 rfl hsz hv1⟩
end
section
variable{prog:Program}{w:World}{base:Heap}{n:Nat}{env:Env}{le keep:List (Str×V)}{K:Frag}{mg mb:Str->Option Value}
theorem qx(G:Gd K mg mb base){x:Str}{pos:Pos}{v:V}{val:Value}(hx:env.kindOf x=some .globalImplicit)(e:nsIn K mainGlobals x=some (some val))
 (hd:(x==("__debug__":Str))=false)(r:∀ ρ h,K.In h->VR ρ h v val):aC prog w base n env le (.Name x pos) (pure v):=by
 intro A σ ρ s P Q E k;refine Calls.Name_function_global P.Y.fn hx (Calls.loadGlobal_global (mg:=mg) ?_ (mg_of G.X G.g e) (k ρ s.heap s.toks _ .refl P.D (r _ _ (G.X.keeps P.D.sub)))) hd;rw[P.Y.gl];exact G.g.keeps P.D.sub
theorem Ii{l:List V}{a:Addr}{vs:Array Value}{m:Nat}(e:K.lookup a=some {cls:=.type "tuple",data:=.seq vs m})(r:∀ ρ h,K.In h->bq ρ h l vs.toList):∀ ρ h,K.In h->VR ρ h (.tup l) (.ref a):=
 λρ h X=>.tup (X _ _ e) (r ρ h X)
end
section
open Builtin Builtin.ObjectAttr
noncomputable def rD(K:Frag)(C:Addr):Bool:=findIn K (.ref C) "__getattribute__"==some (some (.builtin "BaseException.__getattribute__"))&&findIn K (.ref C) "__getattr__"==some none&&mroIn K C (.type "BaseException")==some true
noncomputable def o5:List Value->Bool
 |[]=>false
 |v::r=>match v with
  |.ref _=>o5 r
  |_=>v::r==[.type "Exception",.type "BaseException",.type "object"]
theorem tH{P:List Value->Prop}(h1:∀ c r,P r->P (.ref c::r))(h2:P [.type "Exception",.type "BaseException",.type "object"]){l:List Value}(e:o5 l=true):P l:=by
 induction l with
 |nil=>exact Bool.noConfusion (e:false=true)
 |cons v r ih=>
  cases v with
  |ref c=>exact h1 c r (ih e)
  |_=>exact eq_of_beq e▸h2
noncomputable def vA(K:Frag)(C:Addr):Bool:=(clsIn K C).any λcd=>o5 cd.mro
noncomputable def sG(K:Frag)(c:Addr)(name:Str):Bool:=rD K c&&hasDictIn K c&&(match findIn K (.ref c) name with|some attr=>noGet K attr|none=>false)
noncomputable def gQ(K:Frag)(c:Addr)(name:Str):Bool:=findIn K (.ref c) "__setattr__"==some (some (.builtin "object.__setattr__"))&&vA K c&&takerIn K c name==some none&&hasDictIn K c
theorem DW(self:Value){l:List Value}(e:o5 l=true):refuseLoop self "__setattr__" l=pure ():=
 tH (P:=λl=>refuseLoop self "__setattr__" l=pure ()) (λc r h=>by rw[refuseLoop_ref];exact h) (PySem.F.store_Exception.passes self) e
theorem Iz{l:List Value}(e:o5 l=true):l.contains (.type "object")=true:=
 tH (P:=λl=>l.contains (.type "object")=true) (λc r h=>by rw[List.contains_cons,h,Bool.or_true]) (by simp) e
section
variable{prog:Program}{w:World}{A:Around}{E:Value->Shared->Prop}{s:Shared}{K:Frag}{x C:Addr}{ox:Obj}{od:Option Obj}{R:Result->Shared->Prop}
theorem yf{name:Str}{tk:Tok}{v:Value}{r:Option Value}(X:K.In s.heap)(I:InstAt s.heap x ox C od)(hp:vA K C=true)(ht:takerIn K C name=some r)
 (h:∀ b,wpAny (model prog w) A.in1 (match r with|some a=>setByDescriptor a (.ref x) v|none=>storeInOwnDict (.ref x) (.ref C) (.str name tk) name v b)
   (λfin s'=>match fin with|.done f=>R (.ok f) s'|.again c'=>c'.quiet=true/\codeAny (model prog w) A c' R s') (λe s'=>R (.error e) s') s) :
  codeAny (model prog w) A (.call (.builtin "object.__setattr__") ⟨[.ref x,.str name tk,v],[]⟩) R s:=by
 revert X I hp ht h;revert prog w A s K x C ox od R name tk v r;apply b9;generalize cM=zt;generalize zt.1.1.1=prog,zt.1.1.2.1=w,zt.1.1.2.2=A,zt.1.2.1.1=s,zt.1.2.1.2=K,zt.1.2.2.1=x,zt.1.2.2.2=C,zt.2.1.1=ox,zt.2.1.2.1=od,zt.2.1.2.2=R,zt.2.2.1.1=name,zt.2.2.1.2=tk,zt.2.2.2.1=v,zt.2.2.2.2=r;intro X I hp ht h;have SF:=PySem.F.store_object;injection any_some hp with x0 cd hz;obtain⟨hc,ho⟩:=hz
 have ne:cd.mro.isEmpty=false:=by cases q:cd.mro with|nil=>rw[q] at ho;cases ho|cons _ _=>rfl
 have sub:Looks (model prog w) s.heap (isInstance (.ref x) (.type "object")) true:=I.type.andThen (looks_mroIn X (by unfold mroIn;rw[hc,Option.bind_some,if_neg (by rw[ne];decide),Iz ho]));refine codeAny_call_builtin SF.slot.plain SF.entry (@check_slot (model prog w) _ _ s "object.__setattr__" "object" "__setattr__" (.ref x) [.str name tk,v] [] _ SF.kind SF.split sub (SF.args (.ref x) (.str name tk) v) ?_);injection Lv ht with x0 attr hz;obtain⟨ha,hr⟩:=hz
 have hm:Looks (model prog w) s.heap (mroOf (.ref C)) cd.mro:=(looks_clsIn X hc).andThen .now;have L3:Looks (model prog w) s.heap (storeTaker? attr) r:=by
  cases attr with
  |none=>cases hr;exact .now
  |some a=>
   obtain⟨b,hb,rfl⟩:=Lw hr;refine(looks_takesIn X hb).andThen ?_;cases b<;>exact .now
 rw[osa_eq,refuse_eq];refine LB (LB (I.type.here (LB (hm.here ?_))));rw[DW _ ho];refine LC (LB (I.type.here (LB ((looks_findIn X ha).here (LB (L3.here ?_))))));exact h _
theorem Du{name:Str}{v:Value}{expr:Bool}{Q:Value->Shared->Prop}(X:K.In s.heap)(I:InstAt s.heap x ox C od)(hg:rD K C=true)
 (hf:findObj K C od name=some (.value v))(hh:handedIn v=true)(h:Q v {s with toks:=s.toks+1}):wpAny (model prog w) A (getAttr (.ref x) name expr) Q E s:=by
 revert X I hg hf hh h;revert prog w A E s K x C ox od name v expr Q;apply b9;generalize cM=zt;generalize zt.1.1.1=prog,zt.1.1.2.1=w,zt.1.1.2.2=A,zt.1.2.1.1=E,zt.1.2.1.2=s,zt.1.2.2.1=K,zt.1.2.2.2=x,zt.2.1.1=C,zt.2.1.2.1=ox,zt.2.1.2.2=od,zt.2.2.1.1=name,zt.2.2.1.2=v,zt.2.2.2.1=expr,zt.2.2.2.2=Q;intro X I hg hf hh h;simp only[rD,Bool.and_eq_true,beq_iff_eq] at hg;obtain⟨⟨g1,g2⟩,g3⟩:=hg;obtain⟨hh',g,d,t,os⟩:=s;revert hh' g d t os;intros hh' g d t;intros os;intro X I h;have L0:∀ M,Looks M hh' (typeOf (.ref x)) (.ref C):=λM=>I.type (M:=M);have L1:=looks_findIn (M:=model prog w) X g1;have L2:=looks_findIn (M:=model prog w) X g2;have L3:=looks_find (M:=model prog w) X I hf;have sub:Looks (model prog w) hh' (isInstance (.ref x) (.type "BaseException")) true:=(L0 _).andThen (looks_mroIn X g3);have hx2:(Value.builtin "BaseException.__getattribute__"==Value.builtin "object.__getattribute__")=false:=by decide +kernel
 have hx0:(expr&&onTheHeap (Value.builtin "BaseException.__getattribute__"))=false:=by cases expr<;>rfl
 have hb:bindSpecial (.builtin "BaseException.__getattribute__") (.ref x)=pure (.builtin "BaseException.__getattribute__",[.ref x]):=by kernel_rfl
 unfold getAttr getAttrBy;refine LB (wpAny_mkText (LU (LB ((L0 _).at (LB (L1.at ?_))))));dsimp only;rw[hx2,Bool.and_false,if_neg (by decide)];unfold getAttrByItsOwn hookBefore;refine LB ?_;rw[if_pos (show onTheHeap (.ref C)=true from rfl)];refine L2.at ?_;refine LB (wpAny_attempt (LU ?_));dsimp only[callGetattribute];rw[hx0,if_neg (by decide)];unfold boundAndCalled;rw[hb];refine LB (LC (wpAny_call ?_));refine codeAny_call_builtin (by decide +kernel) PySem.F.entry_bexc_ga (@check_slot (model prog w) _ _ _ "BaseException.__getattribute__" "BaseException" "__getattribute__" (.ref x) [.str name t] [] _ (by decide +kernel) (by decide +kernel) sub (PySem.F.args_bexc_ga (.ref x) (.str name t)) ?_);refine LB (LC (LB (LC (LB ((L0 _).at (LB (L3.at ?_)))))));refine LC ?_;show wpAny _ _ (handedOut v) _ _ _;rw[handedOut_of hh];exact LC h
end
end
def zx(c:Addr)(v:V)(name:Str):M V:=λσ=>v.bO.bind λi=>(qh σ c i).bind λq=>(q.2.lookup name).bind λx=>if qn x=true then some (.ok x,σ) else none
def pP(c:Addr)(v:V)(name:Str)(x:V):M Unit:=λσ=>v.bO.bind λi=>(qh σ c i).bind λq=>if q.2.length<900 then some (.ok (),σ.set q.1 (.sd (gC name x q.2))) else none
theorem IX{c:Addr}{i d:Nat}{w:Bool}{name:Str}{l:List (Str×V)}{x:V}{σ:ai}(h:σ[i]?=some (.exc c (some d) w))(h2:σ[d]?=some (.sd l))(hx:l.lookup name=some x)(hb:qn x=true):zx c (.obj i) name σ=some (.ok x,σ):=by
 show (qh σ c i).bind _=_;rw[A0 h h2];show (l.lookup name).bind _=_;rw[hx];exact if_pos hb
theorem De{c:Addr}{i d:Nat}{w:Bool}{name:Str}{l:List (Str×V)}{x:V}{σ:ai}(h:σ[i]?=some (.exc c (some d) w))(h2:σ[d]?=some (.sd l))(hl:l.length<900):pP c (.obj i) name x σ=some (.ok (),σ.set d (.sd (gC name x l))):=by
 show (qh σ c i).bind _=_;rw[A0 h h2];exact if_pos hl
section
variable{prog:Program}{w:World}{base:Heap}{n:Nat}{env:Env}{le keep:List (Str×V)}{A:Around}{X:List Addr}{σ:ai}{ρ:List Addr}{s:Shared}{K:Frag}{mg mb:Str->Option Value}
theorem FU{h:Heap}{c:Addr}{d i a:Nat}{rw0:Bool}{da:Addr}{l:List (Str×V)}(D:Rep w base ρ σ h)(h1:σ[i]?=some (.exc c (some d) rw0))(h2:σ[d]?=some (.sd l))(hi:ρ[i]?=some a) :
  ∃ (da:Addr) (es:Array DictEntry) (k:Nat) (vs:Array Value) (sl:Array (Option Value)),ρ[d]?=some da/\h.get? da=some (aN es k)/\dB l0 (hashStr w) (VR ρ h) l es.toList/\(l.map (·.1)).Nodup/\h.get? a=some {cls:=.ref c,dict:=some da,data:=.fields vs,slots:=sl} /\
   InstAt h a {cls:=.ref c,dict:=some da,data:=.fields vs,slots:=sl} c (some (dictOf es.toList k)):=by
 revert D h1 h2 hi;revert da l;revert w base σ ρ h c d i a rw0;apply cK;generalize dm=zt;generalize zt.1.1.1=w,zt.1.1.2=base,zt.1.2.1=σ,zt.1.2.2.1=ρ,zt.1.2.2.2=h,zt.2.1.1=c,zt.2.1.2=d,zt.2.2.1=i,zt.2.2.2.1=a,zt.2.2.2.2=rw0;intros da l;intro D h1 h2 hi;injection D.obj _ _ _ h1 hi with x0 u1 vs sl hz;obtain⟨⟨da,rfl,e1⟩,e2,_⟩:=hz
 revert da;intros da;intro e1 e2;injection D.obj _ _ _ h2 e1 with x0 es k hz;obtain⟨e3,e4,e5⟩:=hz
 refine⟨da,es,k,vs,sl,e1,e3,e4,e5,e2,e2,rfl,rfl,?_⟩;show h.get? da=some (dictOf es.toList k);rw[e3];simp[aN,dictOf]
theorem Hj(G:Gd K mg mb base){c:Addr}{name:Str}(ok:sG K c name=true){v:V}{x:Value}{ex:Bool}(D:Rep w base ρ σ s.heap)(r:VR ρ s.heap v x) :
  Runs prog w base A X (getAttr x name ex) s ρ (zx c v name σ) VR:=by
 refine Runs.inv λres σ' ev=>?_;obtain⟨i,hi,ev⟩:=Lv ev;cases V.cu hi;obtain⟨d,l,rw0,h1,h2,ev⟩:=Ah ev;obtain⟨y,hy,ev⟩:=Lv ev;obtain⟨hb,ev⟩:=aE ev;cases ev;refine r.objE λa hi Q E kk=>?_;obtain⟨da,es,k,vs0a,sl0,e1,e2,e3,_,e5,I⟩:=FU (a:=a) (da:=a) D h1 h2 hi;have f:=lI (name:=name) e3;rw[hy] at f;obtain⟨val,g,hv⟩:=f;unfold sG at ok;simp only[Bool.and_eq_true] at ok;obtain⟨⟨o1,o2⟩,o3⟩:=ok;split at o3
 ·exact Du (G.X.keeps D.sub) I o1 (findObj_own o2 (by assumption) o3 (by rw[lookIn_dict];exact g)) (hv.handed hb) (kk ρ s.heap _ _ .refl D hv)
 ·cases o3
theorem G9(G:Gd K mg mb base){c:Addr}{value:Expr}{name:Str}{pos:Pos}{m:M V}(ok:sG K c name=true)(h:aC prog w base n env le value m)
 (he:eval (.Attribute value name pos) env=(do
   let o<-eval value env
   standAt pos.atName
   let r<-holding [o] (getAttr o name true)
   letTemporaryGo value o r
   pure r)):aC prog w base n env le (.Attribute value name pos) (do let v<-m;zx c v name):=by
 unfold aC;rw[he];refine bI.bind h λv x A σ ρ s P r=>Runs.aY ?_;exact Runs.Kn (Runs.holding (Hj (ex:=true) G ok P.D r))
theorem Gk(G:Gd K mg mb base){c:Addr}{name:Str}(ok:gQ K c name=true){v y:V}{x val:Value}(hX:∀ a∈ρ,a∉X)(D:Rep w base ρ σ s.heap)(r:VR ρ s.heap v x)(ry:VR ρ s.heap y val) :
  Runs prog w base A X (setAttr x name val) s ρ (pP c v name y σ) (λu u u u=>True):=by
 revert G ok hX D r ry;revert y x val;revert prog w base A X σ ρ s K mg mb c name v;apply b9;generalize cM=zt;generalize zt.1.1.1=prog,zt.1.1.2.1=w,zt.1.1.2.2=base,zt.1.2.1.1=A,zt.1.2.1.2=X,zt.1.2.2.1=σ,zt.1.2.2.2=ρ,zt.2.1.1=s,zt.2.1.2.1=K,zt.2.1.2.2=mg,zt.2.2.1.1=mb,zt.2.2.1.2=c,zt.2.2.2.1=name,zt.2.2.2.2=v;intros y x val;intro G ok hX D r ry;refine Runs.inv ?_;intros res σ';intro ev;injection Lv ev with ev i hz;obtain⟨hi,hz⟩:=hz
 cases V.cu hi;injection Ah hz with hz d l rw0 hz;obtain⟨h1,h2,hz⟩:=hz
 obtain⟨hlen,hr⟩:=aE hz;replace hlen:l.length<900:=hlen;cases hr;refine r.objE ?_;intros a;intro hi;injection FU (a:=a) (da:=a) D h1 h2 hi with x0 da es k vs0a hz;injection hz with hz sl0 hz;obtain⟨e1,e2,e3,nd,e5,I⟩:=hz
 intros Q E;intro kk;unfold gQ at ok;simp only[Bool.and_eq_true,beq_iff_eq] at ok;obtain⟨⟨⟨o1,o2⟩,o3⟩,o4⟩:=ok;have Xh:=G.X.keeps D.sub;refine set_plain Xh I o1 (yf (s:={s with toks:=s.toks+1}) Xh I o2 o3 ?_);intros b;injection any_some o4 with x0 cd hz;obtain⟨hcd,hdd⟩:=hz
 refine LB (LC (LB (LB (wpAny_loadPart e5 (LB (Looks.here (s:={s with toks:=s.toks+1}) (looks_clsIn Xh hcd) ?_))))));rw[hdd];refine LC (a:=some da) ?_;exact oV (s:={s with toks:=s.toks+1}) D hX e1 e2 e3 nd hlen ry λh' G3 D3=>kk _ _ _ () G3 D3 trivial
end
section
variable{prog:Program}{w:World}{base:Heap}{n:Nat}{env:Env}{le keep:List (Str×V)}{A:Around}{X:List Addr}{σ:ai}{ρ:List Addr}{s:Shared}{K:Frag}{mg mb:Str->Option Value}
def m9(c:Addr)(v:V)(name:Str)(x:V):M Unit:=λσ=>v.bO.bind λi=>(σ[i]?.bind aq.jo).bind λp=>if p.1=c/\p.2.1=none then some (.ok (),List.set (List.set (σ++[aq.sd []]) i (aq.exc c (some σ.length) p.2.2)) σ.length (aq.sd (gC name x []))) else none
theorem GD{c:Addr}{i:Nat}{w:Bool}{name:Str}{x:V}{σ:ai}(h:σ[i]?=some (.exc c none w)):m9 c (.obj i) name x σ=some (.ok (),List.set (List.set (σ++[aq.sd []]) i (aq.exc c (some σ.length) w)) σ.length (aq.sd (gC name x []))):=by
 show (σ[i]?.bind aq.jo).bind _=_;rw[h];exact if_pos ⟨rfl,rfl⟩
theorem EM(G:Gd K mg mb base){c:Addr}{name:Str}(ok:gQ K c name=true){v y:V}{x val:Value}(hX:∀ a∈ρ,a∉X)(hXn:∀ a∈X,s.heap.get? a≠none)(D:Rep w base ρ σ s.heap)(r:VR ρ s.heap v x)(ry:VR ρ s.heap y val) :
  Runs prog w base A X (setAttr x name val) s ρ (m9 c v name y σ) (λu u u u=>True):=by
 revert G ok hX hXn D r ry;revert y x val;revert prog w base A X σ ρ s K mg mb c name v;apply b9;generalize cM=zt;generalize zt.1.1.1=prog,zt.1.1.2.1=w,zt.1.1.2.2=base,zt.1.2.1.1=A,zt.1.2.1.2=X,zt.1.2.2.1=σ,zt.1.2.2.2=ρ,zt.2.1.1=s,zt.2.1.2.1=K,zt.2.1.2.2=mg,zt.2.2.1.1=mb,zt.2.2.1.2=c,zt.2.2.2.1=name,zt.2.2.2.2=v;intros y x val;intro G ok hX hXn D r ry;refine Runs.inv ?_;intros res σ';intro ev;injection Lv ev with ev i hz;obtain⟨hi,hz⟩:=hz
 cases V.cu hi;injection q9 hz with hz c' d' raw hz;obtain⟨h1,hz⟩:=hz
 obtain⟨hq,hr⟩:=aE hz;clear hz hi;cases hr;obtain⟨rfl,rfl⟩:c'=c/\d'=none:=hq;refine r.objE ?_;intros a;intro hi;intros Q E;intro kk;injection D.obj _ _ _ h1 hi with x0 da vs sl hz;obtain⟨e0,e5,e6⟩:=hz
 obtain rfl:da=none:=e0;have I:InstAt s.heap a {cls:=.ref c',dict:=none,data:=.fields vs,slots:=sl} c' none:=⟨e5,rfl,rfl,trivial⟩
 unfold gQ at ok;simp only[Bool.and_eq_true,beq_iff_eq] at ok;obtain⟨⟨⟨o1,o2⟩,o3⟩,o4⟩:=ok;have Xh:=G.X.keeps D.sub;refine set_plain Xh I o1 (yf (s:={s with toks:=s.toks+1}) Xh I o2 o3 ?_);intros b;injection any_some o4 with x0 cd hz;obtain⟨hcd,hdd⟩:=hz
 refine LB (LC (LB (LB (wpAny_loadPart e5 (LB (Looks.here (s:={s with toks:=s.toks+1}) (looks_clsIn Xh hcd) ?_))))));rw[hdd];have hal:i<σ.length:=(LA h1).1;have hai:a<s.heap.objs.size:=LM e5;have k1:∀ b o,s.heap.get? b=some o->(s.heap.push emptyDict).get? b=some o:=aP;have D1:Rep w base (ρ++[s.heap.objs.size]) (σ++[.sd []]) (s.heap.push emptyDict):=D.alloc k1 (LP _) (o:=.sd []) ⟨#[],0,LK _ rfl,.nil,List.nodup_nil⟩;have G1:Goes (frs A) X ρ (ρ++[s.heap.objs.size]) s.heap (s.heap.push emptyDict):=Goes.alloc k1 (LP _);have hi1:=G1.idx hi;have hs2:Heap.SameBut a (s.heap.push emptyDict) ((s.heap.push emptyDict).update a λo=>{o with dict:=some s.heap.objs.size}):=LQ ..;have e52:=LN (λo=>{o with dict:=some s.heap.objs.size}) (k1 _ _ e5) rfl;have hd1:(ρ++[s.heap.objs.size])[σ.length]?=some s.heap.objs.size:=by rw[<- D.len];simp
 have D2:=D1.update hi1 (o':=.exc c' (some σ.length) raw) hs2 ⟨_,k1 _ _ e5,by simp⟩ ⟨_,vs,sl,⟨_,rfl,hd1⟩,e52,e6⟩;have hX1:∀ a∈ρ++[s.heap.objs.size],a∉X:=λa ha=>by
  rcases Ly ha with ha|ha
  ·exact hX a ha
  ·obtain rfl:=Lz ha;exact λq=>hXn _ q (Heap.get?_none_of_le (LP _))
 have G2:Goes (frs A) X (ρ++[s.heap.objs.size]) (ρ++[s.heap.objs.size]) _ _:=Goes.update (LG hi1) hs2 (hX1 _ (LG hi1));refine LB (wpAny_alloc ?_);refine LB (wpAny_update (k1 _ _ e5) ?_);refine LC (a:=some s.heap.objs.size) ?_;refine oV (s:={s with heap:=(s.heap.push emptyDict).update a λo=>{o with dict:=some s.heap.objs.size},toks:=s.toks+1}) (l:=[]) (es:=#[]) (k:=0) (y:=y) D2 hX1 hd1 ?_ .nil List.nodup_nil (by decide) ?_ λh' G3 D3=>kk _ _ _ () ((G1.trans G2).trans G3) D3 trivial
 ·refine(hs2.2 _ ?_).trans (LK _ rfl);exact L7 hai
 ·exact(ry.mono (λu u z=>G1.idx z) λu u u z=>(hs2.2 _ λq=>by subst q;rw[e5] at z;cases z).trans (k1 _ _ z))
end
section
variable{prog:Program}{w:World}{base:Heap}{n:Nat}{env:Env}{le keep:List (Str×V)}{K:Frag}{mg mb:Str->Option Value}
theorem o9(G:Gd K mg mb base){c:Addr}{o value:Expr}{name:Str}{pos pos':Pos}{rest:List Stmt}{m mo:M V}{f:M ay}(ok:gQ K c name=true)(h:aC prog w base n env le value m)(ho:aC prog w base n env le o mo)
 (h2:aJ prog w base n env le keep rest f)(hs:swapsWithSole [.Attribute o name pos'] value pos.line env=pure false)(hw:swappedStores [.Attribute o name pos'] value env=pure none) :
  aJ prog w base n env le keep (.Assign [.Attribute o name pos'] value pos::rest) (do (do let v<-m;let b<-mo;pP c b name v);f):=by
 refine dz.block (m:=do let v<-m;let b<-mo;pP c b name v) (f:=λu=>f) (le':=λu=>le) (gx hs hw rfl) ?_ λu=>h2;intro A σ ρ s P H;refine Runs.aY (dz.fF h (λv x A σ ρ s P H r=>?_) A σ ρ s P H);have ha:∀ x,assign (.Attribute o name pos') env x=(holding [x] (eval o env)>>=λov=>standAt pos'.atName>>=λu=>holding [x,ov] (setAttr ov name x)>>=λu=>PySem.release [x,ov] []):=λu=>rfl;rw[ha];have e:(mo>>=λb=>pP c b name v) σ=((mo>>=λb=>pP c b name v)>>=λu=>pure ()) σ:=M.bind_pure.symm;rw[e];refine Runs.fF P (R:=λu u u u=>True) ?_ λu σ' ρ' h' tk u G' P' u=>Runs.pure P'.D ⟨rfl,P'.Y⟩;refine Runs.bind (Runs.holding (ho A σ ρ s P)) λb σ' u ρ' h' tk y G' D' ry=>Runs.aY (Runs.release (Runs.holding ?_));exact Gk G ok (λu u q=>nomatch q) D' ry (P.vr G' r)
theorem vM(G:Gd K mg mb base){c:Addr}{o value:Expr}{name:Str}{pos pos':Pos}{rest:List Stmt}{m mo:M V}{f:M ay}(ok:gQ K c name=true)(h:aC prog w base n env le value m)(ho:aC prog w base n env le o mo)
 (h2:aJ prog w base n env le keep rest f)(hs:swapsWithSole [.Attribute o name pos'] value pos.line env=pure false)(hw:swappedStores [.Attribute o name pos'] value env=pure none) :
  aJ prog w base n env le keep (.Assign [.Attribute o name pos'] value pos::rest) (do (do let v<-m;let b<-mo;m9 c b name v);f):=by
 refine dz.block (m:=do let v<-m;let b<-mo;m9 c b name v) (f:=λu=>f) (le':=λu=>le) (gx hs hw rfl) ?_ λu=>h2;intro A σ ρ s P H;refine Runs.aY (dz.fF h (λv x A σ ρ s P H r=>?_) A σ ρ s P H);have ha:∀ x,assign (.Attribute o name pos') env x=(holding [x] (eval o env)>>=λov=>standAt pos'.atName>>=λu=>holding [x,ov] (setAttr ov name x)>>=λu=>PySem.release [x,ov] []):=λu=>rfl;rw[ha];have e:(mo>>=λb=>m9 c b name v) σ=((mo>>=λb=>m9 c b name v)>>=λu=>pure ()) σ:=M.bind_pure.symm;rw[e];refine Runs.fF P (R:=λu u u u=>True) ?_ λu σ' ρ' h' tk u G' P' u=>Runs.pure P'.D ⟨rfl,P'.Y⟩;refine Runs.bind (Runs.holding (ho A σ ρ s P)) λb σ' u ρ' h' tk y G' D' ry=>Runs.aY (Runs.release (Runs.holding ?_));exact EM G ok (λu u q=>nomatch q) (λu q=>nomatch q) D' ry (P.vr G' r)
end
def BK(K:Frag)(C:Addr):Prop:=∃ oc od cd sl,K.lookup C=some ⟨oc,od,.cls cd,sl⟩/\cd.abstract=false/\cd.hasDel=false/\(sl.toList[4]?).join=some (.builtin "Exception.__new__")/\cd.mro.isEmpty=false /\
 cd.mro.contains (.ref C)=true/\cd.mro.contains (.type "Exception")=true/\cd.mro.contains (.type "AttributeError")=false/\cd.mro.contains (.type "NameError")=false /\
 specialIn K (.ref C) "__call__"=some (some (.builtin "type.__call__"))/\instIn K (.ref C) (.type "type")=some true
structure Bo(M:Model)(h:Heap)(C:Addr):Prop where
 obj:∃ oc od cd sl,h.get? C=some ⟨oc,od,.cls cd,sl⟩/\cd.abstract=false/\cd.hasDel=false/\cd.mro.isEmpty=false
 made:Looks M h (Bind.madeBy (.ref C)) (some "Exception.__new__")
 base:Looks M h (Bind.staticBase (.ref C)) (.ref C)
 self:Looks M h (isSubtype (.ref C) (.ref C)) true
 top:Looks M h (isSubtype (.ref C) (.type "Exception")) true
 noA:Looks M h (isSubtype (.ref C) (.type "AttributeError")) false
 noN:Looks M h (isSubtype (.ref C) (.type "NameError")) false
 call:Looks M h (specialOf (.ref C) "__call__") (some (.builtin "type.__call__"))
 typ:Looks M h (isInstance (.ref C) (.type "type")) true
theorem E5{K:Frag}{M:Model}{h:Heap}(X:K.In h){C:Addr}(e:BK K C):Bo M h C:=by
 obtain⟨oc,od,cd,sl,ho,e1,e2,e3,e4,e5,e6,e9,dm,e7,e8⟩:=e;have hc:clsIn K C=some cd:=by unfold clsIn;rw[ho]
 have hm:Looks M h (mroOf (.ref C)) cd.mro:=(looks_clsIn X hc).andThen .now;obtain⟨c,l,hl⟩:∃ c l,cd.mro=c::l:=by cases q:cd.mro with|nil=>rw[q] at e4;cases e4|cons c l=>exact⟨c,l,rfl⟩
 have made:Looks M h (Bind.madeBy (.ref C)) (some "Exception.__new__"):=by
  intro A Q E s k q;unfold Bind.madeBy;refine LB (hm A _ E s k ?_);rw[hl,List.forIn_cons];refine LB (LB (LB (LB (wpAny_loadPart (k _ _ (X _ _ ho)) (LC ?_)))));dsimp only;rw[<- Array.getElem?_toList,e3];exact LC (LC (LC q))
 have sub:∀ (b:Value) (r:Bool),cd.mro.contains b=r->Looks M h (isSubtype (.ref C) b) r:=λb r q=>looks_mroIn X (by unfold mroIn;rw[hc,Option.bind_some,if_neg (by rw[e4];decide),q]);refine⟨⟨oc,od,cd,sl,X _ _ ho,e1,e2,e4⟩,made,?_,sub _ _ e5,sub _ _ e6,sub _ _ e9,sub _ _ dm,looks_specialIn X e7,looks_instIn X e8⟩;intro A Q E s k q;unfold Bind.staticBase;refine LB (hm A _ E s k ?_);rw[hl,List.forIn_cons];exact LB (LB (LB (made A _ E s k (LC (LC (LC q))))))
noncomputable abbrev dJ(rest:List Value):Obj:={cls:=.type "tuple",data:=.seq rest.toArray}
noncomputable abbrev cE(C t:Addr):Obj:={cls:=.ref C,data:=.fields #[.ref t,.none,.none,.none,.bool false,.none]}
section
variable{prog:Program}{w:World}{A:Around}{K:Frag}{C:Addr}{R:Result->Shared->Prop}{h:Heap}{g:Array GenState}{d:Drawn}{t:Nat}{os:OsState}
theorem KQ{rest:List Value}(Y:Bo (model prog w) h C)(hrest:rest.length<=sizeLine)
 (hq:R (.ok (.ret (.ref (h.objs.size+1)))) ⟨(h.push (dJ rest)).push (cE C h.objs.size),g,d,t,os⟩) :
  codeAny (model prog w) A (.call (.builtin "Exception.__new__") ⟨.ref C::rest,[]⟩) R ⟨h,g,d,t,os⟩:=by
 revert d Y hrest hq;revert prog w A C R h g t os rest;apply cK;generalize dm=zt;generalize zt.1.1.1=prog,zt.1.1.2=w,zt.1.2.1=A,zt.1.2.2.1=C,zt.1.2.2.2=R,zt.2.1.1=h,zt.2.1.2=g,zt.2.2.1=t,zt.2.2.2.1=os,zt.2.2.2.2=rest;intro d Y hrest hq;obtain⟨⟨oc,od,cd,sl,hC,e1,e2,e4⟩,made,base,self,top,noA,noN,call,typ⟩:=Y;revert oc od cd sl;intros oc od cd sl;intro hC e1 e2 e4;have F:=PySem.F.excBase_Exception;have hstar:=F.noStar;refine codeAny_call_builtin_code (Code.quiet_builtin _ F.quiet) ?_;simp only[checkBuiltinCall,F.newKind,F.newSplit,F.newRow];have here:∀ {id},Manifest.canonical "Exception.__new__"=Manifest.canonical id->Looks (model prog w) h (Bind.madeHere id (.ref C)) ():=λhc=>base.andThen (made.andThen (Looks.of_pure (by simp only[Option.map_some,hc,bne_self_eq_false,Bool.false_eq_true,if_false])))
 repeat (first|simp only[bne_self_eq_false,Bool.false_eq_true,if_false]|lk)
 have hends:=F.ends;refine codeAny_builtinAt F.entry ?_;unfold Builtin.«BaseException.__new__»;refine PySem.wpAt_bind ?_;show PySem.wpAt _ _ _ (stack>>=_) _ _ _;refine PySem.wpAt_bind (PySem.wpAt_stack λp below=>PySem.wpAt_of_wpAny ?_)
 wp_walk
 refine PySem.wpAt_of_wpAny ?_;rw[F.owner];have here':=here F.canon
 repeat (first|simp only[bne_self_eq_false,Bool.not_true,Bool.false_eq_true,if_false]|lk)
 rw[if_neg (by rw[List.size_toArray];lia)];unfold newObjAsIs classHasDel;refine LB (wpAny_alloc ?_)
 wp_walk
 show R _ _;rw[Heap.size_push];exact hq
theorem Ek{rest:List Value}{init:Value}(Y:Bo (model prog w) h C)(hi:Looks (model prog w) h (typeLookup (.ref C) "__init__") (some init))
 (hb:∀ self,Looks (model prog w) h (bindSpecial init self) (init,[self]))(hrest:rest.length<=sizeLine)
 (hq:codeAny (model prog w) (A.under (.builtin "type.__call__" ⟨.ref C::rest,[]⟩)) (.call init ⟨.ref (h.objs.size+1)::rest,[]⟩) (InitBack (h.objs.size+1) R) ⟨(h.push (dJ rest)).push (cE C h.objs.size),g,d,t,os⟩) :
  codeAny (model prog w) A (.call (.ref C) ⟨rest,[]⟩) R ⟨h,g,d,t,os⟩:=by
 revert d Y hi hb hrest hq;revert init;revert prog w A C R h g t os rest;apply cK;generalize dm=zt;generalize zt.1.1.1=prog,zt.1.1.2=w,zt.1.2.1=A,zt.1.2.2.1=C,zt.1.2.2.2=R,zt.2.1.1=h,zt.2.1.2=g,zt.2.2.1=t,zt.2.2.2.1=os,zt.2.2.2.2=rest;intros init;intro d Y hi hb hrest hq;have Y':=Y;obtain⟨⟨oc,od,cd,sl,hC,e1,e2,e4⟩,made,base,self,top,noA,noN,call,typ⟩:=Y;revert oc od cd sl;intros oc od cd sl;intro hC e1 e2 e4;refine codeAny_of_tree ?_;show wpAny _ _ (callAny (.ref C) _) _ _ _;refine nd_load hC ?_;show wpAny _ _ (callAny.viaDunder (.ref C) _) _ _ _;unfold callAny.viaDunder;refine LB (call.at ?_);dsimp only;rw[tc_bind];refine LB (LC (LB (LC ?_)));refine LC (a:=Fin.again (.call (.builtin "type.__call__") ⟨.ref C::rest,[]⟩)) (And.intro rfl ?_);refine codeAny_call_builtin_at (Code.quiet_builtin _ (by decide +kernel)) entry_typeCall (check_slot tc_kind tc_split typ (tc_args _ _ _) ?_);unfold Builtin.«type.__call__»;have hm:Looks (model prog w) h (mroOf (.ref C)) cd.mro:=((Looks.ld (part:=none) hC).andThen .now).andThen .now
 repeat (first|simp only[e4,Bool.false_eq_true,if_false]|with_reducible refine wpAny_call ?_|lk)
 refine KQ Y' hrest ?_;have k:∀ b o,h.get? b=some o->((h.push (dJ rest)).push (cE C h.objs.size)).get? b=some o:=λb o e=>LL _ (LL _ e);have hx:((h.push (dJ rest)).push (cE C h.objs.size)).get? (h.objs.size+1)=some (cE C h.objs.size):=by heap_get
 have t1:Looks (model prog w) ((h.push (dJ rest)).push (cE C h.objs.size)) (typeOf (.ref (h.objs.size+1))) (.ref C):=(Looks.ld hx).andThen .now;have s1:=self.keeps k;have i1:=hi.keeps k;have b1:=(hb (.ref (h.objs.size+1))).keeps k;unfold isInstance callSpecial? specialOf
 repeat (first|with_reducible refine wpAny_call ?_|lk)
 refine codeAny_mono hq ?_;intros r s';intro z;rcases r with e|(v|_|_|_)<;>first|exact z|exact z.elim|skip
 obtain⟨rfl,z⟩:=z;exact LC (LC z)
end
def Eh(C:Addr)(g:List V->M V)(l:List V):M V:=λσ=>
 if l.length<=100 then (g (.obj σ.length::l) (σ++[.exc C none true])).bind (qe (.obj σ.length)) else none
section
variable{prog:Program}{w:World}{base:Heap}{n:Nat}{K:Frag}{mg mb:Str->Option Value}
theorem AK(G:Gd K mg mb base){C fI:Addr}{g:List V->M V}(hm:BK K C)
 (hi:findIn K (.ref C) "__init__"=some (some (.ref fI)))(hf:typeIn K (.ref fI)=some (.type "function"))
 (H:gO prog w base n (.ref fI) g):gO prog w base (n+1) (.ref C) (Eh C g):=by
 revert G hm hi hf H;revert prog w base n K mg mb C fI g;apply cK;generalize dm=zt;generalize zt.1.1.1=prog,zt.1.1.2=w,zt.1.2.1=base,zt.1.2.2.1=n,zt.1.2.2.2=K,zt.2.1.1=mg,zt.2.1.2=mb,zt.2.2.1=C,zt.2.2.2.1=fI,zt.2.2.2.2=g;intro G hm hi hf H;intros A σ ρ s;intros l xs;intro D S R r;have Xh:=G.X.keeps D.sub;have Y:=E5 (M:=model prog w) Xh hm;show jA _ _ _ _ _ _ _ (if l.length<=100 then _ else none);split
 ·rename_i hlen;have hxl:xs.length<=sizeLine:=by rw[<- r.length,sizeLine_eq];lia
  obtain⟨hh,gs,d,t,os⟩:=s;revert hh gs d t os;intros hh gs d t;intros os;intro D S r Xh Y;have k1:∀ b o,hh.get? b=some o->(hh.push (dJ xs)).get? b=some o:=aP;have k2:∀ b o,(hh.push (dJ xs)).get? b=some o->((hh.push (dJ xs)).push (cE C hh.objs.size)).get? b=some o:=aP;have hx:((hh.push (dJ xs)).push (cE C hh.objs.size)).get? (hh.objs.size+1)=some (cE C hh.objs.size):=by heap_get
  have kk:∀ b o,hh.get? b=some o->((hh.push (dJ xs)).push (cE C hh.objs.size)).get? b=some o:=λb o e=>k2 _ _ (k1 _ _ e);have D2:Rep w base (ρ++[hh.objs.size+1]) (σ++[.exc C none true]) ((hh.push (dJ xs)).push (cE C hh.objs.size)):=
   D.alloc kk (Nat.le_succ _) (o:=.exc C none true) ⟨none,_,_,rfl,hx,λu=>⟨by simp,rfl⟩⟩
  have G12:Goes (frs A) [] ρ (ρ++[hh.objs.size+1]) hh ((hh.push (dJ xs)).push (cE C hh.objs.size)):=Goes.alloc kk (Nat.le_succ _);have S2:fj base A _ _:=S.step G12;have rx:VR (ρ++[hh.objs.size+1]) ((hh.push (dJ xs)).push (cE C hh.objs.size)) (.obj σ.length) (.ref (hh.objs.size+1)):=.obj (by rw[<- D.len];simp);have rl:=r.mono (ρ':=ρ++[hh.objs.size+1]) (h':=(hh.push (dJ xs)).push (cE C hh.objs.size)) (λu u e=>G12.idx e) λu u u e=>kk _ _ e;have S2':fj base (A.under (iS C xs)) (ρ++[hh.objs.size+1]) ((hh.push (dJ xs)).push (cE C hh.objs.size)):=
   ⟨by have:=S2.fr;rwa [<- lE (C:=C) (xs:=xs)] at this,by rw[kh];exact S2.off,by rw[kh];exact S2.cls⟩
  have z:=H (A.under (iS C xs)) _ _ ⟨(hh.push (dJ xs)).push (cE C hh.objs.size),gs,d,t,os⟩ (.obj σ.length::l) (.ref (hh.objs.size+1)::xs) D2 S2' (CW R) (.cons rx rl);have enter:∀ Rz:Result->Shared->Prop,codeAny (model prog w) (A.under (iS C xs)) (.call (.ref fI) ⟨.ref (hh.objs.size+1)::xs,[]⟩) (InitBack (hh.objs.size+1) Rz) ⟨(hh.push (dJ xs)).push (cE C hh.objs.size),gs,d,t,os⟩ ->
    codeAny (model prog w) A (.call (.ref C) ⟨xs,[]⟩) Rz ⟨hh,gs,d,t,os⟩:=λRz q=>
   Ek Y (looks_findIn Xh hi) (λself=>bind_fn Xh self hf) hxl q
  show jA _ _ _ _ _ _ _ ((g (.obj σ.length::l) (σ++[.exc C none true])).bind (qe (.obj σ.length)));cases hg:g (.obj σ.length::l) (σ++[.exc C none true]) with
  |none=>trivial
  |some q=>
   revert q;intros q;intro hg;obtain⟨q,σ'⟩:=q;revert q σ';intros q σ';intro hg;rw[hg] at z;cases q with
   |error v=>
    revert v;intros v;intro z hg;intros Rz;intro q;refine enter Rz (z _ ?_);intros ρ' h' tk x;intro G' D' e;rw[kh] at G';exact q ρ' h' tk x (G12.trans G') D' ((FW e).older G12 D2)
   |ok b=>
    revert b;intros b;intro z hg;cases b with
    |none=>
     intros Rz;intro q;refine enter Rz (z _ ?_);intros ρ' h' tk a;intro G' D' e;rw[kh] at G';cases e;exact⟨rfl,q ρ' h' tk _ (G12.trans G') D' (.obj (by
      cases rx with
      |obj e=>
       exact G'.idx e))⟩
    |_=>trivial
 ·trivial
end
def xR(K:Frag)(C:Addr)(mc:Value)(name:Str)(f:Addr):Prop:=
 specialIn K (.ref C) "__getattribute__"=some (some (.builtin "type.__getattribute__"))/\readsIn K C mc=true/\findCls K (.ref C) mc name=some (.val (.ref f))
section
variable{prog:Program}{w:World}{base:Heap}{n:Nat}{env:Env}{le keep:List (Str×V)}{K:Frag}{mg mb:Str->Option Value}
theorem DV(G:Gd K mg mb base){c f:Addr}{mc:Value}{o:Expr}{name:Str}{args:List Expr}{pos apos:Pos}{pl:Sem Bool}{ml:M (List V)}{g:List V->M V}{m:Nat}(ok:xR K c mc name f)(hk:keepIn K (.ref f)=true)
 (ho:aC prog w base n env le o (pure (.ref c)))(hl:ju prog w base n env le pos args ml)(hg:bC prog w base m (.ref f) g)(hm:m<=n)
 (he:eval (.Call (.Attribute o name apos) args [] pos) env=(do
   let ov<-eval o env
   standAt apos.atName
   let(f,first)<-holding [ov] (getMethod ov name pl)
   callWith pos f first (backTo pos (starEach args env)) []))
 (hp:(backTo pos (starEach args env)).any (·.1)=false) :
  aC prog w base n env le (.Call (.Attribute o name apos) args [] pos) (do let l<-ml;g l):=by
 unfold aC;rw[he];intro A σ ρ s P;refine Runs.bind (m:=(pure (V.ref c):M V)) (g:=λu=>do let l<-ml;g l) (ho A σ ρ s P) λb σ1 q ρ1 h1a tk1 x G1a D1a r=>Runs.aY ?_;cases q;cases r;have P1:=P.step G1a D1a;refine Runs.bind (m:=(pure ():M Unit)) (g:=λu=>do let l<-ml;g l) (R:=λu u u fx=>fx=(Value.ref f,([]:List Value))) (Runs.holding ?_) λu σ' u ρ' h' tk fx G' D' e=>?_
 ·intro Q E k;exact method_cls (G.X.keeps D1a.sub) ok.1 (cls_value (G.X.keeps D1a.sub) ok.2.1 ok.2.2 rfl (k ρ1 h1a _ _ .refl D1a rfl))
 ·subst e;exact iK G (vf:=.ref f) (first:=[]) (P1.step G' D') hk .nil hp hl (hg.low hm)
end
def JG(C:Addr)(σ:ai)(i:Nat)(v:V):Option (Except V V×ai):=(σ[i]?.bind aq.jo).bind λq=>if q.1=C/\q.2.2=true then some (.ok .none,σ.set i (.exc q.1 q.2.1 true)) else none
def uK(C:Addr)(l:List V):M V:=λσ=>(two l).bind λp=>p.1.bO.bind λi=>JG C σ i p.2
theorem DY{C:Addr}{i:Nat}{d:Option Nat}{v:V}{σ:ai}(h:σ[i]?=some (.exc C d true)):uK C [.obj i,v] σ=some (.ok .none,σ.set i (.exc C d true)):=by
 show (σ[i]?.bind aq.jo).bind _=_;rw[h];exact if_pos ⟨rfl,rfl⟩
section
variable{prog:Program}{w:World}{base:Heap}{n:Nat}{env:Env}{le keep:List (Str×V)}{K:Frag}{mg mb:Str->Option Value}
theorem Bx(G:Gd K mg mb base){C:Addr}(ok:subIn K (.ref C) (.type "Exception")=some true)(isC:∃ oc od cd os,K.lookup C=some ⟨oc,od,.cls cd,os⟩):bC prog w base 0 (.builtin "Exception.__init__") (uK C):=by
 revert G ok isC;revert prog w base K mg mb C;intros prog w base K;intros mg mb C;intro G ok isC;intros A σ ρ s;intros l xs;intro D S R r;refine Runs.inv ?_;intros res σ';intro ev;injection mS (f:=JG C σ) ev with ev i v hz;obtain⟨rfl,hz⟩:=hz
 injection q9 hz with hz c d u hz;obtain⟨hx,hz⟩:=hz
 obtain⟨hc,hr⟩:=aE hz;clear hz;cases hr;obtain⟨rfl,rfl⟩:c=C/\u=true:=hc;injection kU r with x0 x y hz;obtain⟨rfl,rx,ry⟩:=hz
 refine rx.objE ?_;intros a;intro hi;intros Q E;intro k;injection D.obj _ _ _ hx hi with x0 da vs sl hz;obtain⟨e0,e5,e6⟩:=hz
 obtain⟨hsz,hv1⟩:=e6 rfl;have F:=PySem.F.excBase_Exception;have Xh:=G.X.keeps D.sub;obtain⟨h,g,dr,t,os⟩:=s;revert h g dr t os;intros h g dr t;intros os;intro D S r rx ry k e5 Xh;have ii:Looks (model prog w) h (isInstance (.ref a) (.type "Exception")) true:=((Looks.ld e5).andThen .now).andThen (looks_subIn Xh ok);injection isC with isC oc od cd osl hCl
 have hCl:=Xh _ _ hCl;refine wpAny_call (codeAny_call_builtin F.init.plain F.initEntry ?_);have hshort:=F.noStar;simp only[checkBuiltinCall,F.initKind,F.initSplit,F.initRow]
 repeat (first|simp only[bne_self_eq_false,Bool.not_true,Bool.false_eq_true,if_false]|lk)
 have kp:∀ b o,h.get? b=some o->(h.push {cls:=.type "tuple",data:=.seq #[y]}).get? b=some o:=aP;have e5':=kp _ _ e5;have hz:vs[0]?=some vs[0]:=Array.getElem?_eq_getElem (by omega);refine wpAny_loadPart e5' (LC ?_);rw[hz];refine LC (LB (wpAny_setField e5' rfl (by omega) ?_));have hs:=LQ (h.push {cls:=.type "tuple",data:=.seq #[y]}) a (Obj.mapFields (·.setIfInBounds 0 (.ref h.objs.size)));have e52:=LN (Obj.mapFields (·.setIfInBounds 0 (.ref h.objs.size))) e5' rfl;have D1:=D.keeps kp;have D2:=D1.update hi (o':=.exc c d true) hs ⟨_,e5',by simp⟩ ⟨da,_,sl,e0,e52,λu=>⟨by simpa using hsz,by rw[Array.getElem?_setIfInBounds_ne (by decide)];exact hv1⟩⟩;have G1:Goes (frs A) [] ρ ρ h (h.push {cls:=.type "tuple",data:=.seq #[y]}):=Goes.keeps kp;have G2:Goes (frs A) [] ρ ρ _ _:=Goes.update (LG hi) hs (λq=>nomatch q);have fin:=k ρ _ t .none (G1.trans G2) D2 .none;cases vs[0] with
 |ref b=>
  revert b;intros b;exact wpAny_letGo (LC fin)
 |_=>exact LC (LC fin)
end
def Aq(K:Frag)(T:String)(name:Str)(id:String):Prop:=findCls K (.type T) (.type "type") name=some (.val (.builtin id))
section
variable{prog:Program}{w:World}{base:Heap}{n:Nat}{env:Env}{le keep:List (Str×V)}{K:Frag}{mg mb:Str->Option Value}
theorem Aa{A:Around}{E:Value->Shared->Prop}{s:Shared}{T:String}{name:Str}{v:Value}{pl:Sem Bool}{Q:Value×List Value->Shared->Prop}(X:K.In s.heap)(ht:typeOf (.type T)=pure (.type "type"))(hs:Manifest.isStub T=false)
 (e:findCls K (.type T) (.type "type") name=some (.val v))(hh:handedIn v=true)(h:Q (v,[]) {s with toks:=s.toks+1}):wpAny (model prog w) A (getMethod (.type T) name pl) Q E s:=by
 have hstub:opaqueClassAbove (.type T)=pure none:=by unfold opaqueClassAbove;dsimp only;rw[hs];rfl
 have L0:Looks (model prog w) s.heap (typeOf (.type T)) (.type "type"):=Looks.of_pure ht;have hg:findIn K (.type "type") "__getattribute__"=some (some (.builtin "type.__getattribute__")):=type_tga;unfold getMethod specialOf;refine LB (LB (L0.here ((looks_findIn X hg).here ?_)));dsimp only;rw[if_pos canon_tga];refine LB (LY (Q:=λv=>Q (v,[])) (E:=E) ?_ (λu u z=>LC z) λu u z=>z);have LO:Looks (model prog w) s.heap (opaqueClassAbove (.type T)) none:=Looks.of_pure hstub;refine cls_open X LO L0 hg (looks_hook X (r:=none) (by rfl)) (by show subIn K _ _=_;rfl) e
  (LC (by show wpAny _ _ (handedOut v) _ _ _;rw[handedOut_of hh];exact LC h))
theorem CJ(G:Gd K mg mb base){T id:String}{o:Expr}{name:Str}{args:List Expr}{pos apos:Pos}{pl:Sem Bool}{ml:M (List V)}{g:List V->M V}{m:Nat}(ht:typeOf (.type T)=pure (.type "type"))(hst:Manifest.isStub T=false)(ok:Aq K T name id)(hh:handedIn (.builtin id)=true)
 (ho:aC prog w base n env le o (pure (.ty T)))(hl:ju prog w base n env le pos args ml)(hg:bC prog w base m (.builtin id) g)(hm:m<=n)
 (he:eval (.Call (.Attribute o name apos) args [] pos) env=(do
   let ov<-eval o env
   standAt apos.atName
   let(f,first)<-holding [ov] (getMethod ov name pl)
   callWith pos f first (backTo pos (starEach args env)) []))
 (hp:(backTo pos (starEach args env)).any (·.1)=false) :
  aC prog w base n env le (.Call (.Attribute o name apos) args [] pos) (do let l<-ml;g l):=by
 unfold aC;rw[he];intro A σ ρ s P;refine Runs.bind (m:=(pure (V.ty T):M V)) (g:=λu=>do let l<-ml;g l) (ho A σ ρ s P) λb σ1 q ρ1 h1a tk1 x G1a D1a r=>Runs.aY ?_;cases q;cases r;have P1:=P.step G1a D1a;refine Runs.bind (m:=(pure ():M Unit)) (g:=λu=>do let l<-ml;g l) (R:=λu u u fx=>fx=(Value.builtin id,([]:List Value))) (Runs.holding ?_) λu σ' u ρ' h' tk fx G' D' e=>?_
 ·intro Q E k;exact Aa (G.X.keeps D1a.sub) ht hst ok hh (k ρ1 h1a _ _ .refl D1a rfl)
 ·subst e;exact iK G (vf:=.bi id) (first:=[]) (P1.step G' D') rfl .nil hp hl (hg.low hm)
end
noncomputable def mW:Str:="hash of unhashable type"
noncomputable def cy:Array UInt8:=#[104,97,115,104,32,111,102,32,117,110,104,97,115,104,97,98,108,101,32,116,121,112,101]
def xC(l:List V):M V:=λσ=>(two l).bind λp=>p.1.iC.bind λx=>p.2.iC.bind λy=>if x=mW/\y=(("ascii":Str)) then some (.ok (.bytes cy),σ) else none
section
variable{prog:Program}{w:World}{base:Heap}{n:Nat}{env:Env}{le keep:List (Str×V)}{K:Frag}{mg mb:Str->Option Value}
theorem B7(t u:Tok):Builtin.«str.encode» ⟨[.str mW t,.str ("ascii":Str) u],[]⟩=(do ret (<- mkBytes cy)):=by kernel_rfl
theorem FQ{σ:ai}:xC [.str mW,.str ("ascii":Str)] σ=some (.ok (.bytes cy),σ):=by
 show (if mW=mW/\("ascii":Str)=("ascii":Str) then some (Except.ok (V.bytes cy),σ) else none)=_;exact if_pos ⟨rfl,rfl⟩
theorem Cg:bC prog w base 0 (.builtin "str.encode") xC:=by
 intro A σ ρ s l xs D S R r;refine Runs.inv λres σ' ev=>?_;obtain⟨p,h1,ev⟩:=Lv ev;obtain⟨x,h2,ev⟩:=Lv ev;obtain⟨y,h3,ev⟩:=Lv ev;obtain⟨hxy,hr⟩:=aE ev;cases hr;rw[two_of h1,V.jg h2,V.jg h3,hxy.1,hxy.2] at r;obtain⟨vx,vy,rfl,rx,ry⟩:=kU r;refine rx.oJ λt=>?_;refine ry.oJ λu=>?_;intro Q E k;refine wpAny_call_entry PySem.F.slot_str_encode (T:="str") rfl PySem.F.entry_str_encode ?_ (PySem.F.args_str_encode_2 _ _);rw[B7];exact LB (wpAny_mkBytes (LC ⟨_,rfl,k ρ s.heap (s.toks+1) _ .refl D (.bytes _ _)⟩) (by decide))
end
noncomputable def DU(q:Except V ay×ai):Option (Except V ay×ai):=Except.casesOn q.1 (λv=>none) λc=>ay.casesOn c (some (.ok .next,q.2)) λv=>none
def Kf(C:Addr)(h:V->M ay)(r:Except V V×ai):Option (Except V ay×ai):=
 Except.casesOn r.1 (λv=>v.bO.bind λi=>(r.2[i]?.bind aq.jo).bind λp=>if p.1=C then (h (.obj i) r.2).bind DU else none) λv=>some (.ok .next,r.2)
def nK(C:Addr)(m:M V)(h:V->M ay):M ay:=λσ=>(m σ).bind (Kf C h)
theorem xO{q x:Except V ay×ai}(h:DU q=some x):q=(.ok .next,q.2)/\(.ok .next,q.2)=x:=by
 obtain⟨a,σ⟩:=q;cases a with
 |error v=>exact nomatch (show none=some x from h)
 |ok c=>cases c with
  |next=>exact⟨rfl,LF h⟩
  |ret v=>exact nomatch (show none=some x from h)
theorem G6{C:Addr}{h:V->M ay}{v:V}{σ1:ai}{x:Except V ay×ai}(hx:Kf C h (.error v,σ1)=some x) :
  ∃ i d w σ2,v=.obj i/\σ1[i]?=some (.exc C d w)/\h (.obj i) σ1=some (.ok .next,σ2)/\(.ok .next,σ2)=x:=by
 obtain⟨i,hi,hx⟩:=Lv hx;obtain⟨c,d,w,h1,hx⟩:=q9 hx;obtain⟨hc,hx⟩:=aE hx;obtain⟨q,h2,hx⟩:=Lv hx;obtain⟨h3,h4⟩:=xO hx;exact⟨i,d,w,q.2,V.cu hi,hc▸h1,h3▸h2,h4⟩
theorem IW{C:Addr}{m:M V}{h:V->M ay}{σ σ1 σ2:ai}{i:Nat}{d:Option Nat}{w:Bool}(e:m σ=some (.error (.obj i),σ1))(h1:σ1[i]?=some (.exc C d w))(e2:h (.obj i) σ1=some (.ok .next,σ2)):nK C m h σ=some (.ok .next,σ2):=by
 show (m σ).bind _=_;rw[e];show (σ1[i]?.bind aq.jo).bind _=_;rw[h1];show ite (C=C) _ _=_;rw[if_pos rfl,e2];rfl
section
variable{prog:Program}{w:World}{base:Heap}{n:Nat}{env:Env}{le keep:List (Str×V)}{K:Frag}{mg mb:Str->Option Value}{A:Around}{σ σ':ai}{ρ ρ':List Addr}{s:Shared}{h':Heap}
theorem EO{h:Option Value}(R:c7 n A):c7 0 (A.mark h):=⟨by have:=R.depth;show A.depth+3*0<=600;lia,by have:=R.units;show A.units+60*0<=9000;lia,λz=>LW z (by decide)⟩
theorem Ba{h:Option Value}{hp:Heap}(S:fj base A ρ hp):fj base (A.mark h) ρ hp:=⟨S.fr,S.off,S.cls⟩
theorem Bw{h:Option Value}{hp:Heap}(P:Pre w base n A env le σ ρ hp):Pre w base 0 (A.mark h) env le σ ρ hp:=⟨P.D,Ba P.S,EO P.R,P.Y⟩
theorem CZ{h:Option Value}(H:Head base env A):Head base env (A.mark h):=⟨H.fr,H.frame,H.new⟩
theorem uV{X:List Addr}{v:V}{x:Value}{tk:Nat}{Q:Unit->Shared->Prop}{E:Value->Shared->Prop}(H:Head base env A)(S:fj base A ρ' h')(D:Rep w base ρ' σ' h')(G:Goes (frs A) X ρ ρ' s.heap h')(e:fT base A s.heap ρ' σ' h' v x)(tb:Tb h' x)
 (k:∀ h'' tk,Goes (frs A) X ρ ρ' s.heap h''->Rep w base ρ' σ' h''->fT base A s.heap ρ' σ' h'' v x->Tb h'' x->Q () {s with heap:=h'',toks:=tk}) :
  wpAny (model prog w) A (setFlight x none) Q E {s with heap:=h',toks:=tk}:=by
 revert H S D G e tb k;revert Q E;revert prog w base env A σ' ρ ρ' s h' X v x tk;apply b9;generalize cM=zt;generalize zt.1.1.1=prog,zt.1.1.2.1=w,zt.1.1.2.2=base,zt.1.2.1.1=env,zt.1.2.1.2=A,zt.1.2.2.1=σ',zt.1.2.2.2=ρ,zt.2.1.1=ρ',zt.2.1.2.1=s,zt.2.1.2.2=h',zt.2.2.1.1=X,zt.2.2.1.2=v,zt.2.2.2.1=x,zt.2.2.2.2=tk;intros Q E;intro H S D G e tb k;injection e with e i e B hz;obtain⟨rfl,rfl,hi,hen,hx,F⟩:=hz
 injection tb with tb e' hz;obtain⟨q,tb⟩:=hz
 cases q;injection H.fr with x0 fs hA
 injection (id F.fr) with x0 fs' hz;obtain⟨q,ff⟩:=hz
 rw[hA] at q;cases q;have hh:headOf A=some env.locals:=by unfold headOf;rw[hA];simp[H.frame]
 refine lM (s:={s with heap:=h',toks:=tk}) (l':=some env.locals) F.stays ff F.trace tb (.inl rfl) ?_;intros h'';intro N tb';obtain⟨G',D',F'⟩:=p6 (v:=.obj i) (x:=.ref e) hA hh.symm N F S D G hen hi hx;exact k h'' tk G' D' ⟨i,e,B,rfl,rfl,hi,hen,hx,F'⟩ ⟨e,rfl,tb'⟩
theorem Dp{X:List Addr}{v:V}{x:Value}{tk:Nat}{Q:Unit->Shared->Prop}{E:Value->Shared->Prop}(H:Head base env A)(S:fj base A ρ' h')(D:Rep w base ρ' σ' h')(G:Goes (frs A) X ρ ρ' s.heap h')(e:fT base A s.heap ρ' σ' h' v x)
 (k:∀ h'' tk,Goes (frs A) X ρ ρ' s.heap h''->Rep w base ρ' σ' h''->fT base A s.heap ρ' σ' h'' v x->Tb h'' x->Q () {s with heap:=h'',toks:=tk}) :
  wpAny (model prog w) A (noteFrame x env) Q E {s with heap:=h',toks:=tk}:=by
 revert H S D G e k;revert Q E;revert prog w base env A σ' ρ ρ' s h' X v x tk;apply b9;generalize cM=zt;generalize zt.1.1.1=prog,zt.1.1.2.1=w,zt.1.1.2.2=base,zt.1.2.1.1=env,zt.1.2.1.2=A,zt.1.2.2.1=σ',zt.1.2.2.2=ρ,zt.2.1.1=ρ',zt.2.1.2.1=s,zt.2.1.2.2=h',zt.2.2.1.1=X,zt.2.2.1.2=v,zt.2.2.2.1=x,zt.2.2.2.2=tk;intros Q E;intro H S D G e k;injection e with e i e B hz;obtain⟨rfl,rfl,hi,hen,hx,F⟩:=hz
 injection H.fr with x0 fs hA
 injection (id F.fr) with x0 fs' hz;obtain⟨q,ff⟩:=hz
 rw[hA] at q;cases q;have hh:headOf A=some env.locals:=by unfold headOf;rw[hA];simp[H.frame]
 refine oB (s:={s with heap:=h',toks:=tk}) hA ff H.frame F.stays F.new (hh▸F.trace) ?_;intros h'';intro N tb;obtain⟨G',D',F'⟩:=p6 (v:=.obj i) (x:=.ref e) hA hh.symm N F S D G hen hi hx;exact k h'' tk G' D' ⟨i,e,B,rfl,rfl,hi,hen,hx,F'⟩ ⟨e,rfl,tb⟩
theorem E8(G:Gd K mg mb base){x:Str}{pos:Pos}{a:Addr}{Q:Value->Shared->Prop}{E:Value->Shared->Prop}(P:Pre w base n A env le σ ρ s.heap)(hx:env.kindOf x=some .globalImplicit)(e:nsIn K mainGlobals x=some (some (.ref a)))
 (hd:(x==("__debug__":Str))=false)(k:Q (.ref a) s):wpAny (model prog w) A (eval (.Name x pos) env) Q E s:=by
 refine Calls.Name_function_global P.Y.fn hx (Calls.loadGlobal_global (mg:=mg) ?_ (mg_of G.X G.g e) k) hd;rw[P.Y.gl];exact G.g.keeps P.D.sub
theorem B6(G:Gd K mg mb base){C:Addr}{e:Expr}{tn x:Str}{tp:Pos}{b0a:Stmt}{suite:List Stmt}{ep hp pos:Pos}{m:M V}{h:V->M ay}
 (P:Pre w base n A env le σ ρ s.heap)(H:Head base env A)(he:Runs prog w base A [] (eval e env) s ρ (m σ) VR)
 (htx:env.kindOf tn=some .globalImplicit)(hte:nsIn K mainGlobals tn=some (some (.ref C)))(htd:(tn==("__debug__":Str))=false)
 (hx:env.kindOf x=some .local)(hxw:le.lookup x=none)(hex:exmOne K (.ref C) (.ref C)=some true)
 (hh:∀ v,aJ prog w base 0 env ((x,v)::le) ((x,v)::le) (b0a::suite) (h v))
 (hi:interactive env=false)(hsw:swapsWith e none ep.line env=pure false) :
  Runs prog w base A (own env) (exec (.Try [.Expr e ep] [.ExceptHandler (some (.Name tn tp)) (some x) (b0a::suite) hp] [] [] pos) env) s ρ (nK C m h σ) (qc env le):=by
 revert G P H he htx hte htd hx hxw hex hh hi hsw;revert ep hp pos m h;revert prog w base n env le K mg mb A σ ρ s C e tn x tp b0a suite;apply nS;generalize gm=zt;generalize zt.1.1.1.1=prog,zt.1.1.1.2=w,zt.1.1.2.1=base,zt.1.1.2.2.1=n,zt.1.1.2.2.2=env,zt.1.2.1.1=le,zt.1.2.1.2=K,zt.1.2.2.1=mg,zt.1.2.2.2.1=mb,zt.1.2.2.2.2=A,zt.2.1.1.1=σ,zt.2.1.1.2=ρ,zt.2.1.2.1=s,zt.2.1.2.2.1=C,zt.2.1.2.2.2=e,zt.2.2.1.1=tn,zt.2.2.1.2=x,zt.2.2.2.1=tp,zt.2.2.2.2.1=b0a,zt.2.2.2.2.2=suite;intros ep hp pos m;intros h;intro G P H he htx hte htd hx hxw hex hh hi hsw;have body:∀ (Q:Flow->Shared->Prop) E,wpAny (model prog w) A (eval e env) (λv s₁=>Q .next s₁) E s->wpAny (model prog w) A (execs [.Expr e ep] env) Q E s:=λQ E z=>by
  show wpAny _ _ (exec (.Expr e ep) env>>=λfl=>match fl with|.next=>execs [] env|f=>pure f) _ _ _;rw[exec_Expr env e ep hi hsw];exact LB (LB (LX (LB (LY z (λv s' q=>wpAny_dropValue (wpAny_execs_nil q)) λj j q=>q))))
 have lift:∀ {ρ':List Addr} {h':Heap},Goes (frs A) [] ρ ρ' s.heap h'->Goes (frs A) (own env) ρ ρ' s.heap h':=λG=>
  G.mono (λj j j z=>z) (λj j j z=>nomatch z) λa o j ha=>.inr (gA P.Y ha)
 refine Runs.inv ?_;intros res σ2;intro ev;injection Lv ev with ev r hz;obtain⟨hm,hz⟩:=hz
 obtain⟨r,σ1⟩:=r;revert hm hz;revert r σ1;intros r σ1;intro hm hz;rw[hm] at he;cases r with
 |ok v=>
  revert hm hz he;revert v;intros v;intro he hm hz;cases (show some (Except.ok ay.next,σ1)=some (res,σ2) from hz);intros Q E;intro k;exact wpAny_Try_except (body _ _ (he _ _ λρ' h' tk a G D r=>wpAny_execs_nil (k ρ' h' tk .next (lift G) D ⟨rfl,P.Y.step P.D P.S G⟩)))
 |error v=>
  revert hm hz he;revert v;intros v;intro he hm hz;injection G6 hz with hz i d raw σ2 hz;obtain⟨rfl,hci,hr,hx⟩:=hz
  cases hx;intros Q E;intro k;refine wpAny_Try_except (body _ _ (he _ _ ?_));intros ρ1 h1a tk1 x1a;intro G1a D1a er1;refine Dp (ρ:=ρ) (s:=s) H (P.S.step G1a) D1a G1a er1 ?_;intros h2a tk2;intro G2a D2a er2 tb2;refine uV (ρ:=ρ) (s:=s) H (P.S.step G2a) D2a G2a er2 tb2 ?_;intros h3a tk3;intro G3a D3a er3 tb3;injection (id er3) with x0 i' ea B hz;obtain⟨q1,rfl,hi',hen,hx',F⟩:=hz
  cases q1;refine wpAny_handleBy_cons (codeAny_handlers_test ?_) (by intro q;cases q);have P3:Pre w base 0 (A.mark (some (.ref ea))) env le σ1 ρ1 h3a:=Bw (P.step G3a D3a);refine E8 (s:={s with heap:=h3a,toks:=tk3}) G P3 htx hte htd ?_;injection D3a.obj _ _ _ hci hi' with x0 da vs sl hz;obtain⟨o1,o2,_⟩:=hz
  have LT:Looks (model prog w) h3a (typeOf (.ref ea)) (.ref C):=(Looks.ld o2).andThen .now;refine Looks.here (s:={s with heap:=h3a,toks:=tk3}) (exm_one (G.X.keeps D3a.sub) LT hex) ?_;refine codeAny_handlers_suite_as ?_;refine uV (A:=A.mark (some (.ref ea))) (ρ:=ρ) (s:=s) (CZ H) (Ba (P.S.step G3a)) D3a G3a (show fT base (A.mark (some (.ref ea))) s.heap ρ1 σ1 h3a (.obj i) (.ref ea) from ⟨i,ea,B,rfl,rfl,hi',hen,hx',⟨F.over,F.stays,F.new,F.fr,F.jK,F.trace⟩⟩) tb3 ?_;intros h4a tk4;intro G4a D4a er4 tb4;have P4:Pre w base 0 (A.mark (some (.ref ea))) env le σ1 ρ1 h4a:=Bw (P.step G4a D4a);injection (id P4.Y.ns) with x0 m4 hz;obtain⟨hm4,hv4⟩:=hz
  have hfn:(env.scope.kind==.class||(env.scope.kind==.module&&env.locals !=env.globals))=false:=by rw[P.Y.fn];rfl
  refine wpAny_storeName_local (s:={s with heap:=h4a,toks:=tk4}) hx hm4 ?_ hfn;intros h5a;intro hn5 hs5;obtain⟨N1,N2,N3,_⟩:=Av H.may P4 hx hv4 hn5 hs5;have Y5:=N3 (.obj i) _ rfl (.obj hi');have P5:Pre w base 0 (A.mark (some (.ref ea))) env ((x,.obj i)::le) σ1 ρ1 h5a:=P4.jq N1 N2 Y5;have z:=hh (.obj i) (A.mark (some (.ref ea))) σ1 ρ1 {s with heap:=h5a,toks:=tk4+1} P5 (CZ H);rw[hr] at z;refine z _ _ ?_;intros ρ6 h6a tk6 fl;intro G6a D6a F6a;obtain⟨rfl,Y6⟩:=F6a;have P6:Pre w base 0 (A.mark (some (.ref ea))) env ((x,.obj i)::le) σ2 ρ6 h6a:=P5.jq G6a D6a Y6;have wk:∀ y v,le.lookup y=some v->((x,V.obj i)::le).lookup y=some v:=λy v e=>by
   rw[List.lookup_cons];have z:y≠x:=λz=>by subst z;rw[hxw] at e;cases e
   have z':(y==x)=false:=by simpa using z
   rw[z'];exact e
  have P6':Pre w base 0 (A.mark (some (.ref ea))) env le σ2 ρ6 h6a:=⟨P6.D,P6.S,P6.R,P6.Y.weak wk⟩
  injection (id P6'.Y.ns) with x0 m6a hz;obtain⟨hm6,hv6⟩:=hz
  refine wpAny_nameGoes_keeps (s:={s with heap:=h6a,toks:=tk6}) hx hm6 hfn ?_;intros h7a u;intro hn7 hs7;obtain⟨M1,M2,_,M4⟩:=Av H.may P6' hx hv6 hn7 hs7;have Gt:Goes (frs A) (own env) ρ ρ6 s.heap h7a:=((lift G4a).trans N1).trans (G6a.trans M1);exact k ρ6 h7a _ .next Gt M2 ⟨rfl,M4 hxw⟩
end
noncomputable def aq.zu(o:aq):Option (Addr×List ((Nat×Nat)×Nat)):=aq.casesOn o (λu=>none) (λu=>none) (λu u=>none) (λu=>none) (λu u=>none) (λu u u=>none) (λP l=>some (P,l)) (λu=>none)
theorem aq.tab_of{o:aq}{p:Addr×List ((Nat×Nat)×Nat)}:o.zu=some p->o=.tab p.1 p.2:=aq.casesOn (motive:=λo=>o.zu=some p->o=.tab p.1 p.2) o (λu=>au) (λu=>au) (λu u=>au) (λu=>au) (λu u=>au) (λu u u=>au) (λu u h=>LF h▸rfl) (λu=>au)
noncomputable def aq.BB(o:aq):Option Str:=aq.casesOn o (λu=>none) (λu=>none) (λu u=>none) (λu=>none) (λu u=>none) (λu u u=>none) (λu u=>none) some
theorem aq.I7{o:aq}{q:Str}:o.BB=some q->o=.code q:=aq.casesOn (motive:=λo=>o.BB=some q->o=.code q) o (λu=>au) (λu=>au) (λu u=>au) (λu=>au) (λu u=>au) (λu u u=>au) (λu u=>au) (λu h=>LH aq.code (LF h))
noncomputable def codeAt{β:Type}(σ:ai)(i:Nat)(q:Str)(o:Option β):Option β:=(σ[i]?.bind aq.BB).bind λq'=>if q'=q then o else none
theorem qb{β:Type}{σ:ai}{i:Nat}{q:Str}{o:Option β}{r:β}(h:codeAt σ i q o=some r):σ[i]?=some (.code q)/\o=some r:=by
 obtain⟨q',h1,h⟩:=Lv h;obtain⟨x,h2,h3⟩:=Lv h1;exact⟨h2.trans (LH some ((aq.I7 h3).trans (LH aq.code (aE h).1))),(aE h).2⟩
theorem xV{β:Type}{σ:ai}{i:Nat}{q:Str}{o:Option β}(h:σ[i]?=some (.code q)):codeAt σ i q o=o:=by
 unfold codeAt;rw[h];exact if_pos rfl
noncomputable def AU(Pa:Addr)(pos:Pos)(q:Str)(σ:ai)(l:List ((Nat×Nat)×Nat)):ai:=σ.set 0 (.tab Pa (l++[((pos.line,pos.col),σ.length)]))++[.code q]
noncomputable def m7(Pa:Addr)(pos:Pos)(q:Str):M Nat:=λσ=>(σ[(0:Nat)]?.bind aq.zu).bind λp=>if p.1=Pa then (p.2.lookup (pos.line,pos.col)).elim (some (.ok σ.length,AU Pa pos q σ p.2)) λi=>codeAt σ i q (some (.ok i,σ)) else none
section
variable{Pa:Addr}{pos:Pos}{q:Str}{σ:ai}{r:Except V Nat×ai}{i:Nat}{l:List ((Nat×Nat)×Nat)}
theorem Gr(h:m7 Pa pos q σ=some r):∃ l,σ[(0:Nat)]?=some (.tab Pa l)/\((l.lookup (pos.line,pos.col)=none/\(.ok σ.length,AU Pa pos q σ l)=r)\/∃ i,l.lookup (pos.line,pos.col)=some i/\σ[i]?=some (.code q)/\(.ok i,σ)=r):=by
 obtain⟨p,h1,h⟩:=Lv h;obtain⟨x,h2,h3⟩:=Lv h1;refine⟨p.2,h2.trans (LH some ((aq.tab_of h3).trans (LH (aq.tab · p.2) (aE h).1))),?_⟩;replace h:=(aE h).2;cases e:p.2.lookup (pos.line,pos.col) with
 |none=>rw[e] at h;exact .inl ⟨rfl,LF h⟩
 |some i=>rw[e] at h;exact .inr ⟨i,rfl,(qb h).1,LF (qb h).2⟩
theorem GZ(h:σ[(0:Nat)]?=some (.tab Pa l))(e:l.lookup (pos.line,pos.col)=none):m7 Pa pos q σ=some (.ok σ.length,AU Pa pos q σ l):=by
 unfold m7;rw[h];refine(if_pos rfl).trans ?_;rw[e];rfl
theorem Hz(h:σ[(0:Nat)]?=some (.tab Pa l))(e:l.lookup (pos.line,pos.col)=some i)(hc:σ[i]?=some (.code q)):m7 Pa pos q σ=some (.ok i,σ):=by
 unfold m7;rw[h];refine(if_pos rfl).trans ?_;rw[e];exact xV hc
end
def FnAt(h:Heap)(f:Addr)(q:Str)(params:Arguments)(body:Expr)(scope:Scope)(clos:List (Str×Addr))(pm:Value):Prop:=
 ∃ c' ctv,h.get? f=some (kla_obj "<lambda>" q params body scope clos pm c' ctv)/\h.CodeRec (.ref c') q
def FH(ρ:List Addr)(h:Heap)(f:Addr)(i:Nat)(q:Str)(params:Arguments)(body:Expr)(scope:Scope)(clos:List (Str×Addr))(pm:Value):Prop:=
 ∃ c' ctv,h.get? f=some (kla_obj "<lambda>" q params body scope clos pm c' ctv)/\ρ[i]?=some c'
theorem FH.at{w:World}{base:Heap}{ρ:List Addr}{σ:ai}{h:Heap}{f:Addr}{i:Nat}{q:Str}{params:Arguments}{body:Expr}{scope:Scope}{clos:List (Str×Addr)}{pm:Value}(D:Rep w base ρ σ h)
 (F:FH ρ h f i q params body scope clos pm)(hi:σ[i]?=some (.code q)):FnAt h f q params body scope clos pm:=
 let⟨c',ctv,h1,h2⟩:=F;⟨c',ctv,h1,D.obj i _ c' hi h2⟩
theorem yg{pos:Pos}{r:List Value}(l:List Value)(h:TriplesOk l):codeAmong pos (l++r)=(codeAmong pos l).or (codeAmong pos r):=by
 fun_induction TriplesOk l with
 |case1=>rfl
 |case2 i t j u x rest ih=>
  show (ite _ (some x) (codeAmong pos (rest++r)))=(ite _ (some x) (codeAmong pos rest)).or (codeAmong pos r);rw[ih h];split<;>rfl
 |case3=>exact h.elim
theorem wz{κ α:Type}[BEq κ]:∀ (l r:List (κ×α)) (x:κ),(l++r).lookup x=(l.lookup x).or (r.lookup x)
 |[],r,x=>by simp
 |(y,v)::l,r,x=>by
  rw[List.cons_append,List.lookup_cons,List.lookup_cons];cases x==y with
  |true=>rfl
  |false=>exact wz l r x
theorem E3{ρ:List Addr}{l:List ((Nat×Nat)×Nat)}{ps:Array Value}{pos:Pos}{c:Addr}(ht:TriplesOk ps.toList)(h:DB ρ l ps.toList)(hn:l.lookup (pos.line,pos.col)=none) :
  DB (ρ++[c]) (l++[((pos.line,pos.col),ρ.length)]) (ps++#[rawInt pos.line,rawInt pos.col,.ref c]).toList:=by
 revert ht h hn;revert ρ l ps pos c;intros ρ l ps pos;intros c;intro ht h hn;intros p;have z:=h p;have e:(ps++#[rawInt pos.line,rawInt pos.col,Value.ref c]).toList=ps.toList++[rawInt pos.line,rawInt pos.col,.ref c]:=by simp
 rw[e,wz];cases q:l.lookup (p.line,p.col) with
 |some i=>
  revert i;intros i;intro q;rw[q] at z;injection z with z c' hz;obtain⟨z1,z2⟩:=hz
  exact⟨c',iU i c' z1,(by rw[yg _ ht,z2];rfl)⟩
 |none=>
  rw[q] at z;have a:codeAmong p (ps.toList++[rawInt pos.line,rawInt pos.col,.ref c])=codeAmong p [rawInt pos.line,rawInt pos.col,.ref c]:=by rw[yg _ ht,z];rfl
  have b:codeAmong p [rawInt pos.line,rawInt pos.col,.ref c]=if (p.line,p.col)==(pos.line,pos.col) then some (.ref c) else none:=by
   show (ite _ _ _)=_;have:(((pos.line:Int)==(p.line:Int))&&((pos.col:Int)==(p.col:Int)))=((p.line,p.col)==(pos.line,pos.col)):=by
    rw[Bool.eq_iff_iff];simp only[Bool.and_eq_true,beq_iff_eq,Prod.mk.injEq];lia
   rw[this];rfl
  rw[a,b,Option.none_or,List.lookup_cons];cases ((p.line,p.col)==(pos.line,pos.col)) with
  |true=>exact⟨c,by simp,by simp⟩
  |false=>simp
section
variable{prog:Program}{w:World}{base:Heap}{n:Nat}{env:Env}{le lec:List (Str×V)}{K:Frag}{mg mb:Str->Option Value}{A:Around}{σ σ':ai}{ρ ρ':List Addr}{s:Shared}{h h':Heap}
theorem ID{P c':Addr}{ps:Array Value}{l:List ((Nat×Nat)×Nat)}{pos:Pos}{q:Str}{ob:Obj}{FR:List Addr}(D:Rep w base ρ σ h)(h0:σ[0]?=some (.tab P l))(r0:ρ[0]?=some P)
 (ht:TriplesOk ps.toList)(hR:DB ρ l ps.toList)(hn:l.lookup (pos.line,pos.col)=none)(hx:Heap.ExtBut P h h')(hge:h.objs.size<=c')(hrec:h'.CodeRec (.ref c') q)
 (hP:h'.get? P=some (tabObj (ps++#[rawInt pos.line,rawInt pos.col,.ref c'])))(hPo:∀ vs n,h.get? P≠some {cls:=.type "tuple",data:=.seq vs n}) :
  Goes FR [] ρ (ρ++[c']) h (h'.push ob)/\Rep w base (ρ++[c']) (σ.set 0 (.tab P (l++[((pos.line,pos.col),σ.length)]))++[.code q]) (h'.push ob):=by
 revert D h0 r0 ht hR hn hx hge hrec hP hPo;revert w base σ ρ h h' P c' ps l pos q ob FR;apply b9;generalize cM=zt;generalize zt.1.1.1=w,zt.1.1.2.1=base,zt.1.1.2.2=σ,zt.1.2.1.1=ρ,zt.1.2.1.2=h,zt.1.2.2.1=h',zt.1.2.2.2=P,zt.2.1.1=c',zt.2.1.2.1=ps,zt.2.1.2.2=l,zt.2.2.1.1=pos,zt.2.2.1.2=q,zt.2.2.2.1=ob,zt.2.2.2.2=FR;intro D h0 r0 ht hR hn hx hge hrec hP hPo;revert D h0 r0 ht hR hn hx hge hrec hP hPo;revert w base σ ρ h h' P c' ps l pos q ob FR;apply b9;generalize cM=zt;generalize zt.1.1.1=w,zt.1.1.2.1=base,zt.1.1.2.2=σ,zt.1.2.1.1=ρ,zt.1.2.1.2=h,zt.1.2.2.1=h',zt.1.2.2.2=P,zt.2.1.1=c',zt.2.1.2.1=ps,zt.2.1.2.2=l,zt.2.2.1.1=pos,zt.2.2.1.2=q,zt.2.2.2.1=ob,zt.2.2.2.2=FR;intro D h0 r0 ht hR hn hx hge hrec hP hPo;have cn:h.get? c'=none:=by
  cases e:h.get? c' with
  |none=>rfl
  |some o=>exact LW (LS (LM e) hge) (LV _)
 have cρ:c'∉ρ:=λq=>by obtain⟨o,e,_⟩:=D.there q;rw[cn] at e;cases e
 have Pρ:P∈ρ:=LG r0;have keep:∀ a o,a≠P->h.get? a=some o->(h'.push ob).get? a=some o:=λa o ne e=>LL _ (hx a o ne e);have tp:∀ a vs n,h.get? a=some {cls:=.type "tuple",data:=.seq vs n}->(h'.push ob).get? a=some {cls:=.type "tuple",data:=.seq vs n}:=λa vs n e=>keep a _ (λz=>by subst z;exact hPo _ _ e) e;have hr:∀ (i:Nat) (b:Addr),ρ[i]?=some b->(ρ++[c'])[i]?=some b:=λi b e=>iU i b e;refine⟨⟨⟨[c'],rfl⟩,λa o e n u=>⟨o,keep a o (λz=>n (z▸Pρ)) e,.inl rfl⟩,λa ha=>?_,λa ha=>nomatch ha⟩,?_⟩
 ·rcases Ly ha with ha|ha
  ·exact .inl ha
  ·simp at ha;subst ha;exact .inr cn
 ·have bP:base.get? P=none:=D.off P Pρ;refine⟨by simp[D.len],?_,λi o a e1 e2=>?_,λb o e=>keep b o (λz=>by subst z;rw[bP] at e;cases e) (D.sub b o e),λa ha=>?_,D.glob,λa ha=>?_⟩
  ·rw[List.nodup_append];refine⟨D.nd,by simp,λa ha b hb=>?_⟩;simp at hb;subst hb;exact λz=>cρ (z▸ha)
  ·by_cases hi:i<ρ.length
   ·rw[List.getElem?_append_left hi] at e2;rw[List.getElem?_append_left (by rw[List.length_set,<- D.len];exact hi),List.getElem?_set] at e1;by_cases i0:0=i
    ·subst i0;rw[r0] at e2;cases e2;rw[if_pos rfl] at e1;split at e1
     ·cases e1;refine⟨rfl,_,LL _ hP,?_,?_⟩
      ·have:(ps++#[rawInt pos.line,rawInt pos.col,Value.ref c']).toList=ps.toList++[rawInt pos.line,rawInt pos.col,.ref c']:=by simp
       rw[this];exact TriplesOk_snoc _ _ _ _ ht
      ·rw[<- D.len];exact E3 ht hR hn
     ·cases e1
    ·rw[if_neg i0] at e1;have ne:a≠P:=λz=>i0 ((List.getElem?_inj (LA r0).1 D.nd).mp (r0.trans (z▸e2).symm));exact(D.obj i o a e1 e2).move hr tp λob' z=>keep a ob' ne z
   ·have hi':i=ρ.length:=by
     have:=(LA e2).1;simp at this;lia
    subst hi';simp at e2;subst e2;rw[List.getElem?_append_right (by rw[List.length_set,D.len];exact Nat.le_refl _)] at e1;rw[List.length_set,D.len,Nat.sub_self] at e1;cases e1;exact hrec.keeps λb o e=>LL _ e
  ·rcases Ly ha with ha|ha
   ·exact D.off a ha
   ·simp at ha;subst ha;cases e:base.get? a with
    |none=>rfl
    |some o=>
     revert hge hrec hP cn cρ hr ha e;revert a o;intros a o;intro hge hrec hP cn cρ hr ha e;revert hge hrec hP cn cρ hr ha e;revert a o;apply uU;generalize nj Addr=a,oO Obj=o;intro hge hrec hP cn cρ hr ha e;rw[D.sub _ _ e] at cn;cases cn
  ·rcases Ly ha with ha|ha
   ·exact D.low a ha
   ·simp at ha;subst ha;refine lU D.glob ?_;generalize zp Obj=o;intro e;revert a;apply n8;generalize A1 Addr=a;intro hge hrec hP cn cρ hr ha;exact LS (LM (D.sub _ _ e)) hge
theorem D7{params:Arguments}{body:Expr}{scope:Scope}{pos:Pos}{clos:List (Str×Addr)}{q:Str}{c Pa:Addr}(G:Gd K mg mb base)(P:Pre w base n A env le σ ρ s.heap)(Ch:CodeHd base c Pa)(hcode:env.code=.ref c)
 (hcl:closureFor scope env=pure clos)(hdef:defaultsOf params env=([],[]))(hq:env.qual++"<lambda>"=q) :
  Runs prog w base A [] (eval (.Lambda params body scope pos) env) s ρ (m7 Pa pos q σ) (λρ' h' i v=>∃ f,v=.ref f/\FH ρ' h' f i q params body scope clos ((mg "__name__").getD .none)/\f∉ρ'/\s.heap.get? f=none/\base.get? f=none):=by
 revert G P Ch hcode hcl hdef hq;revert Pa;revert prog w base n env le K mg mb A σ ρ s params body scope pos clos q c;apply nS;generalize gm=zt;generalize zt.1.1.1.1=prog,zt.1.1.1.2=w,zt.1.1.2.1=base,zt.1.1.2.2.1=n,zt.1.1.2.2.2=env,zt.1.2.1.1=le,zt.1.2.1.2=K,zt.1.2.2.1=mg,zt.1.2.2.2.1=mb,zt.1.2.2.2.2=A,zt.2.1.1.1=σ,zt.2.1.1.2=ρ,zt.2.1.2.1=s,zt.2.1.2.2.1=params,zt.2.1.2.2.2=body,zt.2.2.1.1=scope,zt.2.2.1.2=pos,zt.2.2.2.1=clos,zt.2.2.2.2.1=q,zt.2.2.2.2.2=c;intros Pa;intro G P Ch hcode hcl hdef hq;refine Runs.inv ?_;intros res σ';intro ev;injection Gr ev with ev l hz;obtain⟨h0,cs⟩:=hz
 injection P.D.addr h0 with x0 a0 hz;obtain⟨r0,x⟩:=hz
 obtain⟨rfl,hz⟩:=id x;injection hz with hz ps hz;obtain⟨hps,ht,hR⟩:=hz
 have hgs:s.heap.Ns mainGlobals mg:=G.g.keeps P.D.sub;have hgP:mainGlobals≠a0:=Nat.ne_of_lt (P.D.low a0 (LG r0));injection G.bm with x0 bm ob hz;obtain⟨b1,b2,b3,b4,b5,b6⟩:=hz
 have hbG:bm≠mainGlobals:=λz=>by
  obtain⟨o,es,ep,e,hd,_⟩:=G.g;rw[z,e] at b3;cases b3;rw[hd] at b6;cases b6
 have hbP:bm≠a0:=λz=>by
  have:=P.D.off a0 (LG r0);rw[<- z,b3] at this;cases this
 have hb:s.heap.BuiltinsAt mg a0:=⟨bm,ob,b1,b2,hbG,hbP,P.D.sub _ _ b3,b4,b5,b6⟩
 have Ch':CodeHd s.heap c a0:=Ch.keeps P.D.sub;have fresh:∀ {f:Addr},s.heap.objs.size<=f->s.heap.get? f=none/\base.get? f=none:=λ{f} hf=>by
  have z:s.heap.get? f=none:=by
   cases e:s.heap.get? f with
   |none=>rfl
   |some o=>exact LW (LS (LM e) hf) (LV _)
  refine⟨z,?_⟩;cases e:base.get? f with
  |none=>rfl
  |some o=>
   rw[P.D.sub _ _ e] at z;cases z
 have zz:=hR pos;rcases cs with cs|cs
 ·obtain⟨hl,hr⟩:=cs;cases hr;rw[hl] at zz;intros Q E;intro k;refine kla_eval hdef ?_;rw[hq];refine kla_makeFunction (mg:=mg) hcl P.Y.gl hgs hcode Ch' hps ht zz hgP hb ?_;intros c' ctv h' tk;intro hx hge hlt hrec htab;obtain⟨G',D'⟩:=ID (FR:=frs A) (ob:=kla_obj "<lambda>" q params body scope clos ((mg "__name__").getD .none) c' ctv) P.D h0 r0 ht hR hl hx hge hrec htab (λvs n z=>by rw[hps] at z;cases z);have hsz:s.heap.objs.size<=h'.objs.size:=LZ hge (Nat.le_of_lt hlt);obtain⟨f1,f2⟩:=fresh hsz;refine k (ρ++[c']) _ tk _ G' D' ⟨_,rfl,⟨c',ctv,LK _ rfl,jS P.D.len⟩,λz=>?_,f1,f2⟩;rcases Ly z with z|z
  ·injection P.D.there z with x0 o hz;obtain⟨e,_⟩:=hz
   rw[f1] at e;cases e
  ·have z2:h'.objs.size=c':=by simpa using z
   exact LW z2 (L7 hlt)
 ·injection cs with cs i hz;obtain⟨hl,hc,hr⟩:=hz
  cases hr;rw[hl] at zz;injection zz with zz c' hz;obtain⟨rc,hf⟩:=hz
  intros Q E;intro k;refine kla_eval hdef ?_;rw[hq];refine kla_makeFunctionHit (mg:=mg) hcl P.Y.gl hgs hcode Ch' hps ht hf hb ?_;intros ctv h' tk;intro hk hsz;obtain⟨f1,f2⟩:=fresh hsz;have keep:∀ a o,s.heap.get? a=some o->(h'.push (kla_obj "<lambda>" q params body scope clos ((mg "__name__").getD .none) c' ctv)).get? a=some o:=λa o e=>LL _ (hk a o e);have cr:s.heap.CodeRec (.ref c') q:=P.D.obj i _ c' hc rc;refine k ρ _ tk _ (Goes.keeps keep) (P.D.keeps keep) ⟨_,rfl,⟨c',ctv,LK _ rfl,rc⟩,λz=>?_,f1,f2⟩;injection P.D.there z with x0 o hz;obtain⟨e,_⟩:=hz
  rw[f1] at e;cases e
end
section
variable{prog:Program}{w:World}{base:Heap}{n:Nat}{env:Env}{le lec:List (Str×V)}{K:Frag}{mg mb:Str->Option Value}{A:Around}{σ σ':ai}{ρ ρ':List Addr}{s:Shared}{h h':Heap}
theorem br.lam{scope:Scope}{L f:Addr}{q:Str}{cd:Value}(Y:br env le ρ h)(C:jf env scope le lec)(hL:h'.Ns L λu=>none)(hk:∀ b o,h.get? b=some o->h'.get? b=some o)(hLn:h.get? L=none)(hLρ:L∉ρ) :
  br (envX q scope L f cd (bx env scope.names [])) lec ρ h':=by
 have hfull:∀ p∈scope.names,p.2=.free->∃ c,env.cells.lookup p.1=some c:=λp hp e=>Y.full _ (C.free p hp e);have vr:∀ {v:V} {x:Value},VR ρ h v x->VR ρ h' v x:=λr=>r.mono (λu u z=>z) λu u u z=>hk _ _ z;have free:∀ x v,lec.lookup x=some v->scope.names.lookup x=some .free:=λx v e=>C.caps _ (LJ e);have kinds:∀ x v,lec.lookup x=some v->env.kindOf x=some .cell\/env.kindOf x=some .free:=λx v e=>C.free _ (LJ (free x v e)) rfl;refine⟨⟨_,hL,λx v e q=>?_⟩,λx v e q=>?_,λx v e=>.inr (.inr (free x v e)),hLρ,λp hp=>?_,?_,λx q=>?_,C.kind,rfl,rfl⟩
 ·have q':scope.names.lookup x=some .local:=q;rw[free x v e] at q';cases q'
 ·obtain⟨c,val,e1,⟨o,e2,e3⟩,r⟩:=Y.cell x v (C.weak x v e) (kinds x v e);exact⟨c,val,lC (LJ (free x v e)) e1,⟨o,hk _ _ e2,e3⟩,vr r⟩
 ·have hp':=iY hfull hp;obtain⟨a,b,v,o,e1,e2⟩:=Y.offC p hp';exact⟨a,λq=>(by rw[show p.2=L from q,hLn] at e1;cases e1),v,o,hk _ _ e1,e2⟩
 ·refine List.Pairwise.imp_of_mem ?_ (p9 (env:=env) (acc:=[]) C.nd (λu h=>nomatch h) .nil);intro x y hx hy ne;exact mD Y.apart (iY hfull hx) (iY hfull hy) ne
 ·have q':scope.names.lookup x=some .cell\/scope.names.lookup x=some .free:=q;rcases q' with q'|q'
  ·exact LW rfl (C.nocell _ (LJ q'))
  ·have hx:(x,NameKind.free)∈scope.names:=LJ q';obtain⟨c,hc⟩:=hfull _ hx rfl;exact⟨c,lC hx hc⟩
theorem Bk{f:Addr}{q:Str}{params:Arguments}{body:Expr}{scope:Scope}{pm:Value}{m:M V}(G:Gd K mg mb base)(P:Pre w base (n+1) A env le σ ρ s.heap)
 (F:FnAt s.heap f q params body scope (bx env scope.names []) pm)(C:jf env scope le lec)(hbind:∀ c' ctv,bindArgs (kla_fn "<lambda>" q params body scope (bx env scope.names []) pm (.ref c') ctv) ⟨[],[]⟩=pure [])
 (hb:∀ L c',aC prog w base n (envX q scope L f (.ref c') (bx env scope.names [])) lec body m)(hco:scope.isCoroutine=false)(hgen:scope.isGenerator=false) :
  jA prog w base A (.call (.ref f) ⟨[],[]⟩) s ρ (m σ):=by
 revert G P F C hbind hb hco hgen;revert m;revert prog w base n env le lec K mg mb A σ ρ s f q params body scope pm;apply nS;generalize gm=zt;generalize zt.1.1.1.1=prog,zt.1.1.1.2=w,zt.1.1.2.1=base,zt.1.1.2.2.1=n,zt.1.1.2.2.2=env,zt.1.2.1.1=le,zt.1.2.1.2=lec,zt.1.2.2.1=K,zt.1.2.2.2.1=mg,zt.1.2.2.2.2=mb,zt.2.1.1.1=A,zt.2.1.1.2=σ,zt.2.1.2.1=ρ,zt.2.1.2.2.1=s,zt.2.1.2.2.2=f,zt.2.2.1.1=q,zt.2.2.1.2=params,zt.2.2.2.1=body,zt.2.2.2.2.1=scope,zt.2.2.2.2.2=pm;intros m;intro G P F C hbind hb hco hgen;injection F with F c' ctv hz;obtain⟨hf,hrec⟩:=hz
 injection P.S.fr with x0 fs hz;obtain⟨hA,hfs⟩:=hz
 have hLn:s.heap.get? s.heap.objs.size=none:=by
  cases e:s.heap.get? s.heap.objs.size with
  |none=>rfl
  |some o=>exact LW (LM e) (LV _)
 have hLb:base.get? s.heap.objs.size=none:=by
  cases e:base.get? s.heap.objs.size with
  |none=>rfl
  |some o=>
   rw[P.D.sub _ _ e] at hLn;cases hLn
 have hLρ:s.heap.objs.size∉ρ:=λq=>LV _ (P.D.lt q);have hroom:A.depth<recursionLimit:=by have:=P.R.depth;show A.depth<1000;lia
 have hXh:∀ a∈[s.heap.objs.size],s.heap.get? a=none:=λa ha=>by simp at ha;subst ha;exact hLn
 have enter:∀ (Rz:Result->Shared->Prop),
   (∀ h1a,h1a.Ns s.heap.objs.size (λu=>none)->(∀ b o,s.heap.get? b=some o->h1a.get? b=some o) ->
    wpAny (model prog w) (A.deeper (envX q scope s.heap.objs.size f (.ref c') (bx env scope.names []))) (eval body (envX q scope s.heap.objs.size f (.ref c') (bx env scope.names [])))
     (λv s'=>Rz (.ok (.ret v)) s')
     (λe s'=>wpAny (model prog w) (A.deeper (envX q scope s.heap.objs.size f (.ref c') (bx env scope.names []))) (leaving (envX q scope s.heap.objs.size f (.ref c') (bx env scope.names [])) e) (λu s''=>Rz (.error e) s'') (λe' s''=>Rz (.error e') s'') s')
     {s with heap:=h1a,toks:=s.toks}) ->
   codeAny (model prog w) A (.call (.ref f) ⟨[],[]⟩) Rz s:=λRz k=>by
  refine kla_callFunE hroom hf rfl hco hgen rfl hrec ?_;rw[hbind];refine LC (wpAny_newFunctionEnv C.nocell (λx hx=>nomatch hx) (λh1a hns hsb=>⟨(G.nolimit.keeps P.D.sub).fresh _ hsb,?_⟩) C.kind);have hk1:∀ b o,s.heap.get? b=some o->h1a.get? b=some o:=λb o e=>hsb.extBut b o (Nat.ne_of_lt (LM e)) (LL _ e);exact kla_codeExpr (k h1a hns hk1)
 have within:∀ h1a,h1a.Ns s.heap.objs.size (λu=>none)->(∀ b o,s.heap.get? b=some o->h1a.get? b=some o) ->
   Runs prog w base (A.deeper (envX q scope s.heap.objs.size f (.ref c') (bx env scope.names []))) [] (eval body (envX q scope s.heap.objs.size f (.ref c') (bx env scope.names []))) {s with heap:=h1a,toks:=s.toks} ρ (m σ) VR:=by
  intro h1a hns hk1;obtain⟨oL,es,ep,hoL,hdL,_⟩:=id hns;have nf:∀ vs,oL.data≠.fields vs:=λvs e=>by rw[hdL] at e;cases e
  refine hb s.heap.objs.size c' _ σ ρ {s with heap:=h1a,toks:=s.toks} ⟨P.D.keeps hk1,⟨⟨_,Around.frames_deeper hA,?_⟩,?_,?_⟩,P.R.deeper _,P.Y.lam C hns hk1 hLn hLρ⟩
  ·refine⟨by show scope.kind≠.module;rw[C.kind];decide,⟨_,oL,rfl,hLb,hoL,nf⟩,hfs.of_keeps λb o e u=>⟨o,hk1 b o e,rfl⟩⟩
  ·intro a ha;rw[eY rfl hA] at ha;rcases Lx ha with rfl|ha
   ·exact hLρ
   ·exact P.S.off a ha
  ·intro a ha;rw[eY rfl hA] at ha;rcases Lx ha with rfl|ha
   ·exact⟨oL,hoL,λu u e=>by rw[hdL] at e;cases e⟩
   ·obtain⟨o,e,q⟩:=P.S.cls a ha;exact⟨o,hk1 _ _ e,q⟩
 cases hm:m σ with
 |none=>trivial
 |some r=>
  revert r;intros r;intro hm;obtain⟨r,σ'⟩:=r;revert r σ';intros r σ';intro hm;cases r with
  |error v=>
   revert v;intros v;intro hm;intros Rz;intro k;refine enter Rz ?_;intros h1a;intro hns hk1;have z:=within h1a hns hk1;rw[hm] at z;refine z _ _ ?_;intros ρ' h' tk x;intro G' D' e;injection (id hns) with x0 oL u1 u2 hz;obtain⟨hoL,hdL,_⟩:=hz
   have hLρ':s.heap.objs.size∉ρ':=G'.gu hoL hLρ;refine oM (s:=s) (s₁:={s with heap:=h1a}) (L:=s.heap.objs.size) (X:=[s.heap.objs.size]) hA rfl P.S ⟨oL,hoL,λu u e=>by rw[hdL] at e;cases e⟩ (.head _) hk1 hLn hLρ' ?_ hXh D' e λh'' tk' G'' D'' e''=>k ρ' h'' tk' x G'' D'' e'';exact G'.mono (λu u u z=>z) (λu u u z=>nomatch z) λa o u ha=>.inr (by simp at ha;subst ha;exact hLρ)
  |ok b=>
   revert b;intros b;intro hm;intros Rz;intro k;refine enter Rz ?_;intros h1a;intro hns hk1;have z:=within h1a hns hk1;rw[hm] at z;refine z _ _ ?_;intros ρ' h' tk a;intro G' D' r;refine k ρ' h' tk a ?_ D' r;rw[eY rfl hA] at G';exact G'.left hk1 hLn λa ha=>nomatch ha
theorem Ce{f:Addr}{q:Str}{params:Arguments}{body:Expr}{scope:Scope}{pm:Value}{m:M V}{x:Str}{np pos:Pos}(G:Gd K mg mb base)(P:Pre w base (n+1) A env le σ ρ s.heap)
 (F:FnAt s.heap f q params body scope (bx env scope.names []) pm)(C:jf env scope le lec)(hbind:∀ c' ctv,bindArgs (kla_fn "<lambda>" q params body scope (bx env scope.names []) pm (.ref c') ctv) ⟨[],[]⟩=pure [])
 (hb:∀ L c',aC prog w base n (envX q scope L f (.ref c') (bx env scope.names [])) lec body m)(hco:scope.isCoroutine=false)(hgen:scope.isGenerator=false)
 (hx:le.lookup x=some (.ref f))(hk:env.kindOf x=some .local)(hd:(x==("__debug__":Str))=false)
 (he:eval (.Call (.Name x np) [] [] pos) env=(do callWith pos (<- eval (.Name x np) env) [] (backTo pos (starEach [] env)) [])) :
  Runs prog w base A [] (eval (.Call (.Name x np) [] [] pos) env) s ρ (m σ) VR:=by
 have CR:=Bk G P F C hbind hb hco hgen;obtain⟨mm,hm,hv⟩:=id P.Y.ns;obtain⟨val,e1,r1⟩:=hv x _ hx hk;cases r1;obtain⟨c',ctv,hf,hrec⟩:=id F;have step:∀ (Q:Value->Shared->Prop) E,wpAny (model prog w) A (call (.ref f) []) Q E s->wpAny (model prog w) A (eval (.Call (.Name x np) [] [] pos) env) Q E s:=λQ E z=>by
  rw[he];refine LB (wpAny_Name (wpAny_loadName_local P.Y.fn hk hm e1 ?_) hd);have XK:Frag.In [(f,kla_obj "<lambda>" q params body scope (bx env scope.names []) pm c' ctv)] s.heap:=λa o e=>by
   rw[List.lookup_cons] at e;by_cases z:(a==f)=true
   ·rw[z] at e;cases e;rw[eq_of_beq z];exact hf
   ·rw[Bool.not_eq_true] at z;rw[z] at e;cases e
  exact callWith_of (P:=λh=>Frag.In [(f,kla_obj "<lambda>" q params body scope (bx env scope.names []) pm c' ctv)] h) rfl
   (keeps_K (f:=.ref f) (by simp[keepIn,List.lookup])) (m5 rfl (Calls.spliced_nil ⟨XK,z⟩))
 cases hms:m σ with
 |none=>trivial
 |some r=>
  obtain⟨r,σ'⟩:=r;rw[hms] at CR;cases r with
  |error v=>exact λQ E k=>step Q E (wpAny_call (CR _ λρ' h' tk x G D e=>k ρ' h' tk x G D e))
  |ok b=>exact λQ E k=>step Q E (wpAny_call (CR _ λρ' h' tk a G D r=>k ρ' h' tk a G D r))
end
structure fB where
 params:Arguments
 body:Expr
 scope:Scope
 pos:Pos
 m:M V
instance:Nonempty fB:=⟨⟨default,.Constant .none 0 default,default,default,λu=>none⟩⟩
noncomputable abbrev fB.pm(d:fB):Pos×M V:=(d.pos,d.m)
def oh(Pa:Addr)(q:Str)(ps:List (Pos×M V)):ai->Option (List Nat×ai):=
 List.rec (motive:=λu=>ai->Option (List Nat×ai)) (λσ=>some ([],σ)) (λp u ih σ=>(m7 Pa p.1 q σ).bind λr=>Except.casesOn r.1 (λu=>none) λi=>(ih r.2).map λz=>(i::z.1,z.2)) ps
def iR(C:Addr)(q:Str)(hd:V->M ay)(ps:List (Pos×M V)):List Nat->ai->Option ai:=
 List.rec (motive:=λu=>List Nat->ai->Option ai) (λu σ=>some σ) (λp u ih is σ=>List.casesOn is none λi is=>codeAt σ i q ((nK C p.2 hd σ).bind λr=>(DU r).bind λr=>ih is r.2)) ps
def Bd(Pa C:Addr)(q:Str)(hd:V->M ay)(ps:List (Pos×M V)):M ay:=λσ=>(oh Pa q ps σ).bind λr=>(iR C q hd ps r.1 r.2).map λσ''=>(.ok .next,σ'')
section
variable{Pa C:Addr}{q:Str}{hd:V->M ay}{p:Pos×M V}{ps:List (Pos×M V)}{is:List Nat}{i:Nat}{σ σ' σf:ai}
theorem GX(hr:oh Pa q (p::ps) σ=some (is,σf)):∃ i σ1 is',m7 Pa p.1 q σ=some (.ok i,σ1)/\oh Pa q ps σ1=some (is',σf)/\is=i::is':=by
 obtain⟨⟨r,σ1⟩,h1,hr⟩:=Lv hr;cases r with
 |error v=>exact nomatch (show none=some (is,σf) from hr)
 |ok i=>
  obtain⟨z,h2,h3⟩:=Lw hr;cases h3;exact⟨i,σ1,z.1,h1,h2,rfl⟩
theorem rm(e:m7 Pa p.1 q σ=some (.ok i,σ'))(e2:oh Pa q ps σ'=some (is,σf)):oh Pa q (p::ps) σ=some (i::is,σf):=by
 show (m7 Pa p.1 q σ).bind _=_;rw[e];show (oh Pa q ps σ').map _=_;rw[e2];rfl
theorem turns_inv(hr:iR C q hd (p::ps) (i::is) σ=some σf):∃ σ',σ[i]?=some (.code q)/\nK C p.2 hd σ=some (.ok .next,σ')/\iR C q hd ps is σ'=some σf:=by
 obtain⟨h1,hr⟩:=qb hr;obtain⟨r,h2,hr⟩:=Lv hr;obtain⟨r',h3,hr⟩:=Lv hr;obtain⟨h4,h5⟩:=xO h3;cases h5;exact⟨r.2,h1,h4▸h2,hr⟩
theorem p8(h:σ[i]?=some (.code q))(e:nK C p.2 hd σ=some (.ok .next,σ')):iR C q hd (p::ps) (i::is) σ=iR C q hd ps is σ':=by
 show codeAt σ i q ((nK C p.2 hd σ).bind _)=_;rw[xV h,e];rfl
end
noncomputable def zW(d:fB):Expr:=.Lambda d.params d.body d.scope d.pos
inductive gK(FR:List Addr)(base:Heap)(env:Env)(q:Str)(pm:Value)(ρ:List Addr)(h:Heap):List fB->List Nat->List Value->Prop
 |nil:gK FR base env q pm ρ h [] [] []
 |cons {d:fB} {i:Nat} {f:Addr} {ds:List fB} {is:List Nat} {xs:List Value}:FH ρ h f i q d.params d.body d.scope (bx env d.scope.names []) pm->f∉ρ->f∉FR->base.get? f=none ->
   gK FR base env q pm ρ h ds is xs->gK FR base env q pm ρ h (d::ds) (i::is) (.ref f::xs)
section
variable{prog:Program}{w:World}{base:Heap}{n:Nat}{env:Env}{le lec keep:List (Str×V)}{K:Frag}{mg mb:Str->Option Value}{A:Around}{σ σ':ai}{ρ ρ':List Addr}{s:Shared}{h h':Heap}{q:Str}{pm:Value}
theorem oq(Y:br env le ρ h){a:Addr}(ha:a∈own env){o:Obj}(e:h.get? a=some o)(fd:FuncData):o.data≠.func fd:=by
 revert Y ha e;revert env le ρ h a o fd;intros env le ρ h;intros a o fd;intro Y ha e;rcases m6 ha with hz|hz
 ·obtain rfl:=hz;injection Y.ns with x0 m hz;obtain⟨⟨o',es,ep,e',hd,_⟩,_⟩:=hz
  revert o' es ep;intros o' es ep;intro e' hd _;rw[e] at e';cases e';rw[hd];intro z;cases z
 ·injection hz with hz p hz;obtain⟨hp,rfl⟩:=hz
  obtain⟨_,_,hz⟩:=Y.offC p hp;injection hz with hz v o' hz;obtain⟨e',hd⟩:=hz
  rw[e] at e';cases e';rw[hd];intro z;cases z
theorem gK.step{X:List Addr}{ds:List fB}{is:List Nat}{xs:List Value}(H:gK (frs A) base env q pm ρ h ds is xs)(G:Goes (frs A) X ρ ρ' h h')(hX:∀ a∈X,∀ o,h.get? a=some o->∀ fd,o.data≠.func fd) :
  gK (frs A) base env q pm ρ' h' ds is xs:=by
 induction H with
 |nil=>exact .nil
 |cons F n1 n2 n3 _ ih=>
  obtain⟨c',ctv,e1,e2⟩:=F;exact .cons ⟨c',ctv,G.exact e1 n1 (λz=>hX _ z _ e1 _ rfl) n2,G.idx e2⟩ (G.gu e1 n1) n2 n3 ih
theorem Hh{c Pa:Addr}{lpos:Pos}(G:Gd K mg mb base)(Ch:CodeHd base c Pa)(hcode:env.code=.ref c)(hq:env.qual++"<lambda>"=q) :
  ∀ (ds:List fB) {σ:ai} {ρ:List Addr} {s:Shared} {is:List Nat} {σ':ai},Pre w base n A env le σ ρ s.heap->(∀ d∈ds,closureFor d.scope env=pure (bx env d.scope.names [])/\defaultsOf d.params env=([],[]))->oh Pa q (ds.map fB.pm) σ=some (is,σ') ->
  ∀ (Q:List Value->Shared->Prop) (E:Value->Shared->Prop),(∀ ρ' h' tk xs,Goes (frs A) [] ρ ρ' s.heap h'->Rep w base ρ' σ' h'->gK (frs A) base env q ((mg "__name__").getD .none) ρ' h' ds is xs->Q xs {s with heap:=h',toks:=tk}) ->
   wpAny (model prog w) A (spliced (backTo lpos (starEach (ds.map zW) env))) Q E s:=by
 revert G Ch hcode hq;revert prog w base n env le K mg mb A q c Pa lpos;apply b9;generalize cM=zt;generalize zt.1.1.1=prog,zt.1.1.2.1=w,zt.1.1.2.2=base,zt.1.2.1.1=n,zt.1.2.1.2=env,zt.1.2.2.1=le,zt.1.2.2.2=K,zt.2.1.1=mg,zt.2.1.2.1=mb,zt.2.1.2.2=A,zt.2.2.1.1=q,zt.2.2.1.2=c,zt.2.2.2.1=Pa,zt.2.2.2.2=lpos;intro G Ch hcode hq;intros ds
 induction ds with
 |nil=>
  intros σ ρ s is;intros σ';intro P _ hr;intros Q E;intro k;cases (show some ([],σ)=some (is,σ') from hr);exact LC (k ρ s.heap s.toks [] .refl P.D .nil)
 |cons d ds ih=>
  revert d ds;intros d ds;intro ih;intros σ ρ s is;intros σ';intro P hd hr;intros Q E;intro k;injection GX hr with x0 i σ1 is' hz;obtain⟨hm,hr',e⟩:=hz
  cases e;obtain⟨h1,h2⟩:=hd d (.head _);have z:=D7 (prog:=prog) (params:=d.params) (body:=d.body) (pos:=d.pos) G P Ch hcode h1 h2 hq;rw[hm] at z;show wpAny _ _ (eval (zW d) env>>=λv=>(pure [v]:Sem (List Value))>>=λhere=>holding here (spliced (backTo lpos (starEach (ds.map zW) env)))>>=λr=>pure (here++r)) Q E s;refine LB (z _ E ?_);intros ρ1 h1a tk1 a;intro G1a D1a r1a;injection r1a with r1a f hz;obtain⟨rfl,F,f1,f2,f3⟩:=hz
  have P1:=P.step G1a D1a;have f4:f∉frs A:=λz=>by
   obtain⟨o,e,_⟩:=P.S.cls f z;rw[f2] at e;cases e
  refine LB (LC (LB (LU (ih (s:={s with heap:=h1a,toks:=tk1}) P1 (λd hd'=>hd d (.tail _ hd')) hr' _ E ?_))));intros ρ2 h2a tk2 xs;intro G2a D2a r2a;refine LC (k ρ2 h2a tk2 _ (G1a.trans G2a) D2a (.cons ?_ ?_ f4 f3 r2a))
  ·injection F with F c' ctv hz;obtain⟨e1,e2⟩:=hz
   exact⟨c',ctv,G2a.exact e1 f1 (λz=>nomatch z) f4,G2a.idx e2⟩
  ·injection F with F c' ctv hz;obtain⟨e1,e2⟩:=hz
   exact G2a.gu e1 f1
structure D6(prog:Program)(w:World)(base:Heap)(n:Nat)(env:Env)(le lec:List (Str×V))(x:Str)(q:Str)(pm:Value)(d:fB):Prop where
 comp:∀ v,jf env d.scope ((x,v)::le) lec
 clos:closureFor d.scope env=pure (bx env d.scope.names [])
 defs:defaultsOf d.params env=([],[])
 bind:∀ c' ctv,bindArgs (kla_fn "<lambda>" q d.params d.body d.scope (bx env d.scope.names []) pm (.ref c') ctv) ⟨[],[]⟩=pure []
 body:∀ f L c',aC prog w base n (envX q d.scope L f (.ref c') (bx env d.scope.names [])) lec d.body d.m
 co:d.scope.isCoroutine=false
 gen:d.scope.isGenerator=false
theorem gK.Km{FR:List Addr}{d:fB}{j:Nat}{f:Addr}{ds:List fB}{is:List Nat}{xs:List Value}(H:gK FR base env q pm ρ h (d::ds) (j::is) (.ref f::xs)) :
  FH ρ h f j q d.params d.body d.scope (bx env d.scope.names []) pm/\gK FR base env q pm ρ h ds is xs:=by
 revert H;revert ds is xs;revert base env ρ h q pm FR d j f;apply cK;generalize dm=zt;generalize zt.1.1.1=base,zt.1.1.2=env,zt.1.2.1=ρ,zt.1.2.2.1=h,zt.1.2.2.2=q,zt.2.1.1=pm,zt.2.1.2=FR,zt.2.2.1=d,zt.2.2.2.1=j,zt.2.2.2.2=f;intros ds is xs;intro H;cases H with|cons a _ _ _ b=>exact⟨a,b⟩
theorem DJ{C:Addr}{hd:V->M ay}{FR:List Addr}{ds:List fB}{is:List Nat}{xs:List Value}{σf:ai}(L:gK FR base env q pm ρ h ds is xs)(hr:iR C q hd (ds.map fB.pm) is σ=some σf):(ds=[]/\xs=[]/\σ=σf) \/
  ∃ d ds' j is' f xs' σ',ds=d::ds'/\is=j::is'/\xs=.ref f::xs'/\σ[j]?=some (.code q)/\nK C d.m hd σ=some (.ok .next,σ')/\iR C q hd (ds'.map fB.pm) is' σ'=some σf:=by
 revert L hr;revert base env σ ρ h q pm C hd FR ds is xs σf;apply b9;generalize cM=zt;generalize zt.1.1.1=base,zt.1.1.2.1=env,zt.1.1.2.2=σ,zt.1.2.1.1=ρ,zt.1.2.1.2=h,zt.1.2.2.1=q,zt.1.2.2.2=pm,zt.2.1.1=C,zt.2.1.2.1=hd,zt.2.1.2.2=FR,zt.2.2.1.1=ds,zt.2.2.1.2=is,zt.2.2.2.1=xs,zt.2.2.2.2=σf;intro L hr;cases L with
 |nil=>exact .inl ⟨rfl,rfl,LF hr⟩
 |cons F _ _ _ L=>exact .inr ((turns_inv hr).elim λσ' z=>⟨_,_,_,_,_,_,σ',rfl,rfl,rfl,z⟩)
structure KN(prog:Program)(w:World)(base:Heap)(n:Nat)(env:Env)(le lec:List (Str×V))(A:Around)(x q:Str)(pm:Value)(s₀:Shared)(ρ0:List Addr)(it lst:Addr)(vs:List Value)(C:Addr)(hd:V->M ay)(σf:ai)
 (m:Nat)(s:Shared)(ds:List fB)(is:List Nat)(i:Nat)(σ:ai)(ρ:List Addr):Prop where
 len:m=ds.length+1
 ok:∀ d∈ds,D6 prog w base n env le lec x q pm d
 at_:∃ h tk,s={s₀ with heap:=h,toks:=tk}
 G:Goes (frs A) (own env++[it]) ρ0 ρ s₀.heap s.heap
 D:Rep w base ρ σ s.heap
 Y:br env le ρ s.heap
 hit:Hid base ρ s.heap it
 il:s.heap.IsListIter it lst i
 ls:lst∉ρ
 lo:∃ m,s.heap.get? lst=some (aO vs.toArray m)
 L:gK (frs A) base env q pm ρ s.heap ds is (vs.drop i)
 r:iR C q hd (ds.map fB.pm) is σ=some σf
theorem CH(Y:br env le ρ h){it:Addr}(hit:Hid base ρ h it){a:Addr}(ha:a∈own env++[it]){o:Obj}(e:h.get? a=some o)(fd:FuncData):o.data≠.func fd:=by
 rcases Ly ha with ha|ha
 ·exact oq Y ha e fd
 ·obtain⟨_,_,o2,ws,e2,d2⟩:=hit;rw[<- List.mem_singleton.mp ha,e] at e2;cases e2;rw[d2];intro z;cases z
theorem Ak{lst:Addr}{vs:Array Value}{m:Nat}{h0a:Heap}{ρ0:List Addr}(S0:fj base A ρ0 h0a)(hl:h0a.get? lst=none)(Y:br env le ρ h)(e:h.get? lst=some (aO vs m))(n:lst∉ρ)(G:Goes (frs A) (own env) ρ ρ' h h'):lst∉ρ'/\h'.get? lst=some (aO vs m):=
 ⟨G.gu e n,G.exact e n (λz=>by
  obtain⟨o,e',hc⟩:=mL Y lst z;rw[e] at e';cases e';exact hc _ _ rfl) λz=>by
  obtain⟨o,e',_⟩:=S0.cls lst z;rw[hl] at e';cases e'⟩
theorem AW{x:Str}{v:V}(hxl:le.lookup x=none){y:Str}{u:V}(e:le.lookup y=some u):((x,v)::le).lookup y=some u:=by
 rw[List.lookup_cons];have z':(y==x)=false:=by
  apply Bool.eq_false_iff.mpr;intro z;rw[eq_of_beq z,hxl] at e;cases e
 rw[z'];exact e
theorem EY{vs xs:List Value}{i:Nat}{v:Value}(e:vs.drop i=v::xs):vs.toArray[i]?=some v/\vs.drop (i+1)=xs:=by
 constructor
 ·rw[List.getElem?_toArray];have:=LH (λl=>l[0]?) e;simpa using this
 ·have:=LH List.tail e;simpa using this
theorem s8{it c:Addr}{P:Addr->Prop}(h:P it)(hc:c∈[it]):P c:=Lz hc▸h
theorem FO{C:Addr}{x y tn:Str}{np cp pp ep tp hp tpos:Pos}{b0a:Stmt}{suite:List Stmt}{hd:V->M ay}{s₀:Shared}{ρ0:List Addr}{σf:ai}{Rz:Result->Shared->Prop}{it lst:Addr}{vs:List Value}
 (G:Gd K mg mb base)(hx:env.kindOf x=some .local)(hxd:(x==("__debug__":Str))=false)(hxl:le.lookup x=none)
 (htx:env.kindOf tn=some .globalImplicit)(hte:nsIn K mainGlobals tn=some (some (.ref C)))(htd:(tn==("__debug__":Str))=false)
 (hy:env.kindOf y=some .local)(hyw:∀ v,((x,v)::le).lookup y=none)(hex:exmOne K (.ref C) (.ref C)=some true)
 (hh:∀ u v,aJ prog w base 0 env ((y,v)::(x,u)::le) ((y,v)::(x,u)::le) (b0a::suite) (hd v))
 (he:∀ np pos,eval (.Call (.Name x np) [] [] pos) env=(do callWith pos (<- eval (.Name x np) env) [] (backTo pos (starEach [] env)) []))
 (hi:interactive env=false)(hsw:swapsWith (.Call (.Name x cp) [] [] pp) none ep.line env=pure false)
 (S0:fj base A ρ0 s₀.heap)(R0:c7 (n+1) A)(H:Head base env A)(hn:∀ c∈[it],s₀.heap.get? c=none)(hlst:s₀.heap.get? lst=none)
 (k:∀ ρ' h' tk,Goes (frs A) (own env) ρ0 ρ' s₀.heap h'->Rep w base ρ' σf h'->br env le ρ' h'->Rz (.ok .next) {s₀ with heap:=h',toks:=tk})
 {ds:List fB}{is:List Nat}{xs:List Value}{i:Nat}{σ:ai}{ρ:List Addr}{s:Shared}
 (hl:∀ d∈ds,D6 prog w base n env le lec x q ((mg "__name__").getD .none) d)
 (at_:∃ h tk,s={s₀ with heap:=h,toks:=tk})(Gs:Goes (frs A) (own env++[it]) ρ0 ρ s₀.heap s.heap)(D:Rep w base ρ σ s.heap)(Y:br env le ρ s.heap)
 (hit:Hid base ρ s.heap it)(hi2:s.heap.IsListIter it lst i)(hls:lst∉ρ/\∃ m,s.heap.get? lst=some (aO vs.toArray m))(hvs:vs.drop i=xs)
 (L:gK (frs A) base env q ((mg "__name__").getD .none) ρ s.heap ds is xs)(hr:iR C q hd (ds.map fB.pm) is σ=some σf) :
  codeAny (model prog w) A (.forLoop (.Name x np) (.ref it) [.Try [.Expr (.Call (.Name x cp) [] [] pp) ep] [.ExceptHandler (some (.Name tn tp)) (some y) (b0a::suite) hp] [] [] tpos] [] env) Rz s:=by
 revert G hx hxd hxl htx hte htd hy hyw hex hh he hi hsw S0 R0 H hn hlst k hl at_ Gs D Y hit hi2 hls hvs L hr;revert σf Rz it lst vs ds is xs i σ ρ s;revert prog w base n env le lec K mg mb A q C x y tn np cp pp ep tp hp tpos b0a suite hd s₀ ρ0;apply zD;generalize fH=zt;generalize zt.1.1.1.1=prog,zt.1.1.1.2.1=w,zt.1.1.1.2.2=base,zt.1.1.2.1.1=n,zt.1.1.2.1.2=env,zt.1.1.2.2.1=le,zt.1.1.2.2.2=lec,zt.1.2.1.1=K,zt.1.2.1.2.1=mg,zt.1.2.1.2.2=mb,zt.1.2.2.1.1=A,zt.1.2.2.1.2=q,zt.1.2.2.2.1=C,zt.1.2.2.2.2=x,zt.2.1.1.1=y,zt.2.1.1.2.1=tn,zt.2.1.1.2.2=np,zt.2.1.2.1.1=cp,zt.2.1.2.1.2=pp,zt.2.1.2.2.1=ep,zt.2.1.2.2.2=tp,zt.2.2.1.1=hp,zt.2.2.1.2.1=tpos,zt.2.2.1.2.2=b0a,zt.2.2.2.1.1=suite,zt.2.2.2.1.2=hd,zt.2.2.2.2.1=s₀,zt.2.2.2.2.2=ρ0;intros σf Rz it lst;intros vs ds is xs;intros i σ ρ s;intro G hx hxd hxl htx hte htd hy hyw hex hh he hi hsw S0 R0 H hn hlst k hl at_ Gs D Y hit hi2 hls hvs L hr;refine Au (λm s'=>∃ ds is i σ ρ,KN prog w base n env le lec A x q ((mg "__name__").getD .none) s₀ ρ0 it lst vs C hd σf m s' ds is i σ ρ) ?_ (ds.length+1) ⟨ds,is,i,σ,ρ,rfl,hl,at_,Gs,D,Y,hit,hi2,hls.1,hls.2,hvs▸L,hr⟩;clear hl at_ Gs D Y hit hi2 hls hvs L hr;intros m s';intro hI;injection hI with hI ds is i σ hz;injection hz with hz ρ T
 have S:=S0.step T.G;injection T.at_ with x0 h1a tk1 es
 injection T.lo with x0 ml hlo
 have il:s'.heap.IsList lst vs.toArray:=ye hlo;have nlit:lst≠it:=λz=>by
  obtain⟨_,_,o,ws,e,d⟩:=T.hit;rw[<- z,hlo] at e;cases e;cases d
 have hh1:∀ c∈[it],Hid base ρ s'.heap c:=λc hc=>s8 T.hit hc;rcases DJ T.L T.r with hz|hz
 ·obtain⟨_,hx,e⟩:=hz;have hx':vs.toArray[i]?=none:=by
   rw[List.getElem?_toArray,List.getElem?_eq_none_iff];exact List.drop_eq_nil_iff.mp hx
  refine wpAny_pyNext_list_end (R0.handled (by lia)) T.il il hx' ?_;intros h';intro hb;have hk:∀ c o,c∉[it]->s'.heap.get? c=some o->h'.get? c=some o:=λc o nc ec=>hb c o (λz=>nc (z▸.head _)) ec;refine wpAny_execs_nil ?_;have:=k ρ h' s'.toks (T.G.done hn hk) (e▸T.D.hid hh1 hk) (T.Y.hid hh1 hk);rw[es];rw[es] at this;exact this
 injection hz with hz d ds' j is' hz;injection hz with hz f xs' σ3 hz;obtain⟨e1,e2,e3,hq,ht,hr⟩:=hz
 have hv:=EY e3;refine wpAny_pyNext_list_item T.il il hv.1 ?_;intros h';intro hit' hs;have hk:∀ c o,c∉[it]->s'.heap.get? c=some o->h'.get? c=some o:=λc o nc ec=>(hs.2 c λz=>nc (z▸.head _)).trans ec;injection (id hit') with x0 o' hz;obtain⟨ho',hc',hd'⟩:=hz
 refine mz (s:={s' with heap:=h'}) ho' hc' hd' (by decide) ?_;have G':Goes (frs A) (own env++[it]) ρ ρ s'.heap h':=nh hh1 hk λc hc=>s8 (P:=λc=>∃ o' vs,h'.get? c=some o'/\o'.data=.fields vs) ⟨o',_,ho',hd'⟩ hc;have P':Pre w base (n+1) A env le σ ρ h':=⟨T.D.hid hh1 hk,S.step G',R0,T.Y.hid hh1 hk⟩
 have hid':Hid base ρ h' it:=⟨T.hit.1,T.hit.2.1,o',_,ho',hd'⟩
 have L':gK (frs A) base env q ((mg "__name__").getD .none) ρ h' (d::ds') (j::is') (.ref f::xs'):=(e1▸e2▸e3▸T.L.step G' λa ha o e fd=>CH T.Y T.hit ha e fd)
 have hlo':h'.get? lst=some (aO vs.toArray ml):=hk lst _ (by simpa using nlit) hlo;refine(bY (prog:=prog) (X:=own env) (pos:=np) (.inl hx) le A σ ρ {s' with heap:=h'} (.ref f) (.ref f) (.ref f) P' H.may (.ref f) rfl) _ _ ?_;intros ρ2 h2a tk2 u1;intro G2a D2a Y2;have P2:Pre w base (n+1) A env ((x,.ref f)::le) σ ρ2 h2a:=P'.jq G2a D2a Y2;have hXf:∀ a∈own env,∀ o,h2a.get? a=some o->∀ fd,o.data≠.func fd:=λa ha o e fd=>oq Y2 ha e fd;obtain⟨F2a,L2a⟩:=(L'.step G2a λa ha o e fd=>oq P'.Y ha e fd).Km;obtain⟨ls2,hlo2⟩:=Ak S0 hlst P'.Y hlo' T.ls G2a;obtain⟨hid2,hkeep2⟩:=hid'.step P'.S (hid'.lD P'.Y) G2a;have hit2:h2a.IsListIter it lst (i+1):=hit'.at λo e=>hkeep2 o e;have OK:=T.ok d (e1▸.head _);have he2:=Ce (pos:=pp) (np:=cp) (m:=d.m) (s:={s' with heap:=h2a,toks:=tk2}) G P2 (F2a.at D2a hq) (OK.comp (.ref f)) OK.bind (OK.body f) OK.co OK.gen (by simp) hx hxd (he cp pp);show wpAny _ _ (exec (.Try _ _ _ _ _) env>>=λfl=>match fl with|.next=>execs [] env|f=>pure f) _ _ _;refine LB ((B6 (s:={s' with heap:=h2a,toks:=tk2}) (hp:=hp) (tp:=tp) (pos:=tpos) G P2 H he2 htx hte htd hy (hyw _) hex (λv=>hh (.ref f) v) hi hsw).ok ht _ _ ?_);intros ρ3 h3a tk3 fl;intro G3a D3a F3a;obtain⟨rfl,Y3⟩:=F3a;refine wpAny_execs_nil ?_;obtain⟨hid3,hkeep3⟩:=hid2.step P2.S (hid2.lD Y2) G3a;obtain⟨ls3,hlo3⟩:=Ak S0 hlst Y2 hlo2 ls2 G3a;exact⟨ds'.length+1,by rw[T.len,e1];simp,ds',is',i+1,σ3,ρ3,rfl,λd hd=>T.ok d (e1▸.tail _ hd),⟨h3a,tk3,by rw[es]⟩,((T.G.trans G').trans (G2a.more λc hc=>s8 (P:=(·∉ρ)) T.hit.1 hc)).trans (G3a.more λc hc=>s8 (P:=(·∉ρ2)) hid2.1 hc),D3a,Y3.weak λy v e=>AW hxl e,hid3,
  hit2.at λo e=>hkeep3 o e,ls3,⟨ml,hlo3⟩,hv.2▸L2a.step G3a hXf,hr⟩
end
theorem Lk{P:fB->Prop}{a b c:fB}(h1:P a)(h2:P b)(h3:P c):∀ d∈[a,b,c],P d:=λd hd=>by
 rcases Lx hd with rfl|hd
 ·exact h1
 ·rcases Lx hd with rfl|hd
  ·exact h2
  ·rcases Lx hd with rfl|hd
   ·exact h3
   ·exact nomatch hd
section
variable{prog:Program}{w:World}{base:Heap}{n:Nat}{env:Env}{le lec keep:List (Str×V)}{K:Frag}{mg mb:Str->Option Value}{q:Str}
theorem z8{c Pa C:Addr}{x y tn:Str}{np cp pp ep tp hp tpos lpos pos:Pos}{b0a:Stmt}{suite rest:List Stmt}{hd:V->M ay}{f:M ay}{ds:List fB}
 (G:Gd K mg mb base)(Ch:CodeHd base c Pa)(hcode:env.code=.ref c)(hq:env.qual++"<lambda>"=q)(hx:env.kindOf x=some .local)(hxd:(x==("__debug__":Str))=false)(hxl:le.lookup x=none)
 (htx:env.kindOf tn=some .globalImplicit)(hte:nsIn K mainGlobals tn=some (some (.ref C)))(htd:(tn==("__debug__":Str))=false)
 (hy:env.kindOf y=some .local)(hyw:∀ v,((x,v)::le).lookup y=none)(hex:exmOne K (.ref C) (.ref C)=some true)
 (hh:∀ u v,aJ prog w base 0 env ((y,v)::(x,u)::le) ((y,v)::(x,u)::le) (b0a::suite) (hd v))
 (he:∀ np pos,eval (.Call (.Name x np) [] [] pos) env=(do callWith pos (<- eval (.Name x np) env) [] (backTo pos (starEach [] env)) []))
 (hi:interactive env=false)(hsw:swapsWith (.Call (.Name x cp) [] [] pp) none ep.line env=pure false)
 (hds:ds.length<=1000)(hl:∀ d∈ds,D6 prog w base n env le lec x q ((mg "__name__").getD .none) d)(h2:aJ prog w base (n+1) env le keep rest f) :
  aJ prog w base (n+1) env le keep (.For (.Name x np) (.List (ds.map zW) lpos) [.Try [.Expr (.Call (.Name x cp) [] [] pp) ep] [.ExceptHandler (some (.Name tn tp)) (some y) (b0a::suite) hp] [] [] tpos] [] pos::rest)
   (do match<-Bd Pa C q hd (ds.map λd=>(d.pos,d.m)) with|.next=>f|.ret v=>pure (.ret v)):=by
 revert G Ch hcode hq hx hxd hxl htx hte htd hy hyw hex hh he hi hsw hds hl h2;revert suite rest hd f ds;revert prog w base n env le lec keep K mg mb q c Pa C x y tn np cp pp ep tp hp tpos lpos pos b0a;apply zD;generalize fH=zt;generalize zt.1.1.1.1=prog,zt.1.1.1.2.1=w,zt.1.1.1.2.2=base,zt.1.1.2.1.1=n,zt.1.1.2.1.2=env,zt.1.1.2.2.1=le,zt.1.1.2.2.2=lec,zt.1.2.1.1=keep,zt.1.2.1.2.1=K,zt.1.2.1.2.2=mg,zt.1.2.2.1.1=mb,zt.1.2.2.1.2=q,zt.1.2.2.2.1=c,zt.1.2.2.2.2=Pa,zt.2.1.1.1=C,zt.2.1.1.2.1=x,zt.2.1.1.2.2=y,zt.2.1.2.1.1=tn,zt.2.1.2.1.2=np,zt.2.1.2.2.1=cp,zt.2.1.2.2.2=pp,zt.2.2.1.1=ep,zt.2.2.1.2.1=tp,zt.2.2.1.2.2=hp,zt.2.2.2.1.1=tpos,zt.2.2.2.1.2=lpos,zt.2.2.2.2.1=pos,zt.2.2.2.2.2=b0a;intros suite rest hd f;intros ds;intro G Ch hcode hq hx hxd hxl htx hte htd hy hyw hex hh he hi hsw hds hl h2;refine dz.Az rfl ?_ h2;intros A σ ρ s;intro P H;refine Runs.inv ?_;intros res σ2;intro ev;injection Lv ev with ev r hz;obtain⟨hm,hz⟩:=hz
 obtain⟨is,σ1⟩:=r;revert hm hz;revert is σ1;intros is σ1;intro hm hz;injection Lw hz with hz σ3 hz;obtain⟨hr,hx⟩:=hz
 cases hx;replace hr:iR C q hd (ds.map fB.pm) is σ1=some σ2:=hr;intros Q E;intro k;refine wpAny_For ?_ (λj=>rfl);show wpAny _ _ (do standAt lpos;newList (<- spliced (backTo lpos (starEach (ds.map zW) env)))) _ E s;refine LB (LX (LB (Hh G Ch hcode hq ds P (λd hd=>⟨(hl d hd).clos,(hl d hd).defs⟩) hm _ E ?_)));intros ρ1 h1a tk1 xs;intro G1a D1a L1a;have P1:=P.step G1a D1a;have hlen:∀ {ds:List fB} {is:List Nat} {xs:List Value},gK (frs A) base env q ((mg "__name__").getD .none) ρ1 h1a ds is xs->xs.length=ds.length:=λL=>by
  induction L with
  |nil=>rfl
  |cons _ _ _ _ _ ih=>simp[ih]
 have hsz:h1a.get? h1a.objs.size=none:=dD _;have gone:∀ {a:Addr},h1a.get? a=none->s.heap.get? a=none/\base.get? a=none/\a∉ρ1:=λ{a} e=>by
  refine⟨?_,?_,λz=>by obtain⟨o,e',_⟩:=D1a.there z;rw[e] at e';cases e'⟩
  ·cases z:s.heap.get? a with
   |none=>rfl
   |some o=>
    obtain⟨o',e'⟩:=G1a.there D1a z;rw[e] at e';cases e'
  ·cases z:base.get? a with
   |none=>rfl
   |some o=>
    rw[D1a.sub _ _ z] at e;cases e
 have n1:h1a.get? (h1a.objs.size+1)=none:=by
  cases z:h1a.get? (h1a.objs.size+1) with
  |none=>rfl
  |some o=>exact LW (LM z) (Nat.not_lt.mpr (Nat.le_succ _))
 have eL:=LK h1a (o:=aO xs.toArray 0) rfl;have szL:(h1a.push (aO xs.toArray 0)).objs.size=h1a.objs.size+1:=Heap.size_push ..;have hbig:xs.length<=sizeLine:=by rw[hlen L1a];exact LZ hds (by decide)
 ·refine L6 (s:={s with heap:=h1a,toks:=tk1}) ?_ (by show xs.toArray.size<=sizeLine;rw[List.size_toArray];exact hbig);refine wpAny_pyIter_list (s:={s with heap:=h1a.push (aO xs.toArray 0),toks:=tk1}) (ye eL) ?_;have eN:=LK (h1a.push (aO xs.toArray 0)) (o:={cls:=.type "list_iterator",data:=.fields #[.ref h1a.objs.size,.int 0 0]}) rfl;have keep:∀ a o,h1a.get? a=some o->((h1a.push (aO xs.toArray 0)).push {cls:=.type "list_iterator",data:=.fields #[.ref h1a.objs.size,.int 0 0]}).get? a=some o:=λa o e=>aP _ _ (aP _ _ e);obtain⟨a1,a2,a3⟩:=gone hsz;obtain⟨b1,b2,b3⟩:=gone n1;rw[<- szL] at b1 b2 b3;have G2a:Goes (frs A) (own env) ρ ρ1 s.heap ((h1a.push (aO xs.toArray 0)).push {cls:=.type "list_iterator",data:=.fields #[.ref h1a.objs.size,.int 0 0]}):=
   (G1a.trans (Goes.keeps keep)).mono (λj j j z=>z) (λj j j z=>nomatch z) λa o j ha=>.inr (gA P.Y ha)
  refine FO (s₀:=s) (σ:=σ1) (ρ:=ρ1) (it:=(h1a.push (aO xs.toArray 0)).objs.size) (lst:=h1a.objs.size) (vs:=xs) (i:=0) (xs:=xs) G hx hxd hxl htx hte htd hy hyw hex hh he hi hsw P.S P.R H
   (λc hc=>by simp at hc;subst hc;simpa using b1) a1 (λρ' h' tk G' D' Y'=>k ρ' h' tk .next G' D' ⟨rfl,Y'⟩) hl ⟨_,_,rfl⟩
   (G2a.more λc hc z=>by simp at hc;subst hc;obtain⟨o,e,_⟩:=P.D.there z;rw[show s.heap.get? (h1a.objs.size+1)=none from by simpa using b1] at e;cases e)
   (D1a.keeps keep) ((P1.step (Goes.keeps keep) (D1a.keeps keep)).Y) ⟨b3,b2,_,_,eN,rfl⟩ ⟨_,eN,rfl,rfl⟩ ⟨a3,0,aP _ _ eL⟩ rfl (L1a.step (X:=[]) (Goes.keeps keep) (λj z=>nomatch z)) hr
end
def dX(it:It)(mi:V->M It)(g:V->V->M (Option V))(f1 f:Nat):Nat->List V->M (List V):=
 Nat.rec (motive:=λu=>Nat->List V->M (List V)) (λu u u=>none) (λu ih i acc σ=>(jz (bF it i σ)).bind λp=>p.1.elim (some (.ok acc,p.2)) λv=>(jz (mi v p.2)).bind λq=>(jz (bV q.1 (g v) f1 0 acc q.2)).bind λr=>ih (i+1) r.1 r.2) f
section
variable{it it1:It}{mi:V->M It}{g:V->V->M (Option V)}{f1 m i:Nat}{l l' lf:List V}{σ σ' σ1 σ2 σf:ai}{v:V}
theorem tX{r:Except V (List V)×ai}(h:dX it mi g f1 (m+1) i l σ=some r):(∃ σ',bF it i σ=some (.ok none,σ')/\(.ok l,σ')=r) \/
  ∃ v σ' it1 σ1 l' σ2,bF it i σ=some (.ok (some v),σ')/\mi v σ'=some (.ok it1,σ1)/\bV it1 (g v) f1 0 l σ1=some (.ok l',σ2)/\dX it mi g f1 m (i+1) l' σ2=some r:=by
 obtain⟨o,σ',h1,h⟩:=iL h;cases o with
 |none=>exact .inl ⟨σ',h1,LF h⟩
 |some v=>
  obtain⟨it1,σ1,h2,h⟩:=iL (show (jz (mi v σ')).bind _=some r from h);obtain⟨l',σ2,h3,h⟩:=iL (show (jz (bV it1 (g v) f1 0 l σ1)).bind _=some r from h);exact .inr ⟨v,σ',it1,σ1,l',σ2,h1,h2,h3,h⟩
theorem Ef(h:dX it mi g f1 (m+1) i l σ=some (.ok lf,σf)):(bF it i σ=some (.ok none,σf)/\l=lf) \/
  ∃ v σ' it1 σ1 l' σ2,bF it i σ=some (.ok (some v),σ')/\mi v σ'=some (.ok it1,σ1)/\bV it1 (g v) f1 0 l σ1=some (.ok l',σ2)/\dX it mi g f1 m (i+1) l' σ2=some (.ok lf,σf):=
 (tX h).imp (λz=>z.elim λτ z=>by cases z.2;exact⟨z.1,rfl⟩) id
theorem EU{e:V}:dX it mi g f1 m i l σ≠some (.error e,σ'):=by
 revert i l σ
 induction m with
 |zero=>exact λh=>nomatch h
 |succ f ih=>exact λh=>(tX h).elim (λz=>z.elim λτ z=>nomatch z.2) λz=>z.elim λv z=>z.elim λτ z=>z.elim λq z=>z.elim λυ z=>z.elim λl z=>z.elim λυ z=>ih z.2.2.2
theorem Dn(h:bF it i σ=some (.ok none,σ')):dX it mi g f1 (m+1) i l σ=some (.ok l,σ'):=fV h
theorem Cp(h:bF it i σ=some (.ok (some v),σ'))(h2:mi v σ'=some (.ok it1,σ1))(h3:bV it1 (g v) f1 0 l σ1=some (.ok l',σ2)):dX it mi g f1 (m+1) i l σ=dX it mi g f1 m (i+1) l' σ2:=((fV h).trans (fV h2)).trans (fV h3)
end
section
variable{prog:Program}{w:World}{base:Heap}{n:Nat}{env:Env}{le keep:List (Str×V)}{K:Frag}{mg mb:Str->Option Value}{α β γ δ:Type}{A:Around}{σ σ':ai}{ρ ρ':List Addr}{s:Shared}{h h' h0a:Heap}{it:It}{i:Nat}{a b acc:Addr}{X Y:List Addr}{l:List V}
theorem xj{elt t0 iter0 t1 iter1:Expr}{ifs1:List Expr}{scope:Scope}{pos:Pos}{it acc:Value}{env:Env} :
  compTurn (.ListComp elt [⟨t0,iter0,[],0⟩,⟨t1,iter1,ifs1,0⟩] scope pos) 0 it acc env=(standAt iter0.pos>>=λu=>pyNext it>>=λr=>match r with
   |none=>pure (.done .next)
   |some v=>letOwnedTupleGo t0 it v>>=λu=>assign t0 env v>>=λu=>
     eval iter1 env>>=λx=>standAt iter1.pos>>=λu=>foldedSetIterable iter1 env x>>=λx=>holding [x] (pyIter x)>>=λi=>
      runOwn (.compStart (.ListComp elt [⟨t0,iter0,[],0⟩,⟨t1,iter1,ifs1,0⟩] scope pos) 1 i acc env) env>>=λu=>again (.compLoop (.ListComp elt [⟨t0,iter0,[],0⟩,⟨t1,iter1,ifs1,0⟩] scope pos) 0 it acc env)):=rfl
theorem Er{R:Result->Shared->Prop}{elt t0 iter0 t1 iter1:Expr}{ifs1:List Expr}{scope:Scope}{pos:Pos}{x accv:Value}(hs1:∀ x,foldedSetIterable iter1 env x=pure x)(I:Nat->Shared->Prop)
 (turn:∀ n s,I n s->wpAny (model prog w) A (pyNext x) (λr s₁=>match r with
   |none=>R (.ok .next) s₁
   |some v=>wpAny (model prog w) A (letOwnedTupleGo t0 x v) (λu s1'=>wpAny (model prog w) A (assign t0 env v) (λu s2=>
     wpAny (model prog w) A (eval iter1 env) (λy s3=>wpAny (model prog w) A (pyIter y) (λi s4=>
      codeAny (model prog w) A (.compStart (.ListComp elt [⟨t0,iter0,[],0⟩,⟨t1,iter1,ifs1,0⟩] scope pos) 1 i accv env) (λr s'=>match r with
       |.ok _=>∃ m,m<n/\I m s'
       |.error e=>cameBackBy (model prog w) A env (notedBy (model prog w) A env λe s'=>R (.error e) s') e s') s4) (notedBy (model prog w) A env λe s'=>R (.error e) s') s3) (notedBy (model prog w) A env λe s'=>R (.error e) s') s2) (notedBy (model prog w) A env λe s'=>R (.error e) s') s1') (notedBy (model prog w) A env λe s'=>R (.error e) s') s₁) (notedBy (model prog w) A env λe s'=>R (.error e) s') s)
 (n:Nat)(h:I n s):codeAny (model prog w) A (.compLoop (.ListComp elt [⟨t0,iter0,[],0⟩,⟨t1,iter1,ifs1,0⟩] scope pos) 0 x accv env) R s:=by
 revert hs1 turn h;revert x accv I n;revert prog w env A s R elt t0 iter0 t1 iter1 ifs1 scope pos;apply b9;generalize cM=zt;generalize zt.1.1.1=prog,zt.1.1.2.1=w,zt.1.1.2.2=env,zt.1.2.1.1=A,zt.1.2.1.2=s,zt.1.2.2.1=R,zt.1.2.2.2=elt,zt.2.1.1=t0,zt.2.1.2.1=iter0,zt.2.1.2.2=t1,zt.2.2.1.1=iter1,zt.2.2.1.2=ifs1,zt.2.2.2.1=scope,zt.2.2.2.2=pos;intros x accv I n;intro hs1 turn h;refine codeAny_loop rfl I ?_ n h;intros n s;intro hI;show wpAny _ A ((PySem.compTurn (.ListComp elt [⟨t0,iter0,[],0⟩,⟨t1,iter1,ifs1,0⟩] scope pos) 0 x accv env).onRaise (λx=>do noteFrame x env;theTreesLotGoes x)) _ _ s;refine wpAny_noted ?_;rw[xj];refine LB (LX (LB (LY (turn n s hI) ?_ λu u h'=>h')));intros r s₁;intro h1a;cases r with
 |none=>exact LC h1a
 |some v=>
  revert v;intros v;intro h1a;refine LB (LY h1a ?_ λu u h'=>h');intros u1 s1';intro h1a;refine LB (LY h1a ?_ λu u h'=>h');apply uU;generalize nj Unit=u2,oO Shared=s2;intro h2a;refine LB (LY h2a ?_ λu u h'=>h');intros y s3;intro h3a;refine LB (LX (LB (wpAny_of_eq (hs1 y) (LB (LU (LY h3a ?_ λu u h'=>h'))))));intros i s4;intro h4a;refine LB (wpAny_runOwn (codeAny_mono h4a ?_));intros r s';intro hr;cases r with
  |ok f=>
   revert f;intros f;intro hr;exact LC ⟨rfl,hr⟩
  |error e=>
   revert e;intros e;intro hr;exact hr
theorem Es{R:Result->Shared->Prop}{elt t iter:Expr}{ifs:List Expr}{gens:List Comprehension}{dep:Nat}{scope:Scope}{pos:Pos}{it accv:Value}(hg:gens[dep]?=some ⟨t,iter,ifs,0⟩)
 (h0:codeAny (model prog w) A (.compLoop (.ListComp elt gens scope pos) dep it accv env) R s)
 (h:wpAny (model prog w) A (pyIter it) (λit' s'=>codeAny (model prog w) A (.compLoop (.ListComp elt gens scope pos) dep it' accv env) R s') (notedBy (model prog w) A env λx s'=>R (.error x) s') s) :
  codeAny (model prog w) A (.compStart (.ListComp elt gens scope pos) dep it accv env) R s:=by
 refine codeAny_of_tree ?_;show wpAny _ _ ((compStart (.ListComp elt gens scope pos) dep it accv env).onRaise (λx=>do noteFrame x env;standAt theWindowsPlace)) _ _ s;refine wpAny_notedAt ?_;unfold compStart;have e:((clausesOf (.ListComp elt gens scope pos))[dep]?)=some ⟨t,iter,ifs,0⟩:=hg;simp only[e];show wpAny _ _ (ask>>=_) _ _ s;refine LB (wpAny_askSetting (wpAny_ite ?_));split
 ·first
   |exact LB (LC (LC (And.intro rfl h0)))
   |exact LC (And.intro rfl h0)
 ·first
   |exact LB (wpAny_rule (LB (LX (LB (LY h (λit' s' h'=>LC (And.intro rfl h')) λu u x=>x)))))
   |(refine LB (wpAny_rule ?_);show wpAny _ _ (standAt iter.pos>>=_) _ _ s;exact LB (LX (LB (LY h (λit' s' h'=>LC (And.intro rfl h')) λu u x=>x))))
theorem Ca[Nonempty γ]{elt iter0 t1 iter1:Expr}{ifs1:List Expr}{x0:Str}{p0:Pos}{scope:Scope}{pos:Pos}{pat:V->Option γ}{ext:γ->List (Str×V)}{mi1:V->M It}{mt:V->γ->M Bool}{me:V->γ->M V}{s₀:Shared}{ρ0:List Addr}{lf:List V}{σf:ai}{Rz:Result->Shared->Prop}{f1:Nat}
 (ht0:eE prog w base n env [env.locals] (.Name x0 p0) cA (λv=>[(x0,v)]))(hi1:∀ v,mR prog w base n env ((x0,v)::le) iter1 (mi1 v))(hok1:∀ v σ it σ',mi1 v σ=some (.ok it,σ')->iB it t1)(hs1:∀ x,foldedSetIterable iter1 env x=pure x)
 (ht1:eE prog w base n env [env.locals] t1 pat ext)(hts1:∀ v p,bI prog w base n env (ext p++((x0,v)::le)) (iQ ifs1 env) (mt v p) kc)(he1:∀ v p,aC prog w base n env (ext p++((x0,v)::le)) elt (me v p))
 (hw1:∀ v p y u,((x0,v)::le).lookup y=some u->(ext p++((x0,v)::le)).lookup y=some u)(hw0:∀ v y u,le.lookup y=some u->((x0,v)::le).lookup y=some u)
 (htk:iB it (.Name x0 p0))(S0:fj base A ρ0 s₀.heap)(R0:c7 n A)(hbC:base.get? env.locals=none)(hba:base.get? acc=none)
 (k:∀ ρ' h'' h' tk,Goes (frs A) (env.locals::acc::hidden it a b) ρ0 ρ' s₀.heap h''->(∀ c o,c∉hidden it a b->h''.get? c=some o->h'.get? c=some o)->Rep w base ρ' σf h'->br env le ρ' h'->fu base acc lf ρ' h'->Rz (.ok .next) {s₀ with heap:=h',toks:=tk}){fuel i:Nat}{σ:ai}{ρ:List Addr}{s:Shared}{l:List V}
 (T:qa w base env le A s₀ ρ0 it a b acc i l σ ρ s)(hr:dX it mi1 (λv u=>bR pat u (eg (mt v) (me v))) f1 fuel i l σ=some (.ok lf,σf))(hn1:1<=n:=by lia) :
  codeAny (model prog w) A (.compLoop (.ListComp elt [⟨.Name x0 p0,iter0,[],0⟩,⟨t1,iter1,ifs1,0⟩] scope pos) 0 (.ref a) (.ref acc) env) Rz s:=by
 revert ht0 hi1 hok1 hs1 ht1 hts1 he1 hw1 hw0 htk S0 R0 hbC hba k T hr hn1;revert σf Rz f1 fuel i σ ρ s l;revert prog w base n env le A it a b acc elt iter0 t1 iter1 ifs1 x0 p0 scope pos pat ext mi1 mt me s₀ ρ0 lf;revert γ;apply Ia;generalize PT _=cT;apply zD;generalize fH=zt;generalize zt.1.1.1.1=prog,zt.1.1.1.2.1=w,zt.1.1.1.2.2=base,zt.1.1.2.1.1=n,zt.1.1.2.1.2=env,zt.1.1.2.2.1=le,zt.1.1.2.2.2=A,zt.1.2.1.1=it,zt.1.2.1.2.1=a,zt.1.2.1.2.2=b,zt.1.2.2.1.1=acc,zt.1.2.2.1.2=elt,zt.1.2.2.2.1=iter0,zt.1.2.2.2.2=t1,zt.2.1.1.1=iter1,zt.2.1.1.2.1=ifs1,zt.2.1.1.2.2=x0,zt.2.1.2.1.1=p0,zt.2.1.2.1.2=scope,zt.2.1.2.2.1=pos,zt.2.1.2.2.2=pat,zt.2.2.1.1=ext,zt.2.2.1.2.1=mi1,zt.2.2.1.2.2=mt,zt.2.2.2.1.1=me,zt.2.2.2.1.2=s₀,zt.2.2.2.2.1=ρ0,zt.2.2.2.2.2=lf;intros σf Rz f1 fuel;intros i σ ρ s;intros l;intro ht0 hi1 hok1 hs1 ht1 hts1 he1 hw1 hw0 htk S0 R0 hbC hba k T hr hn1;refine Er hs1 (λm s'=>∃ i l σ ρ,dX it mi1 (λv u=>bR pat u (eg (mt v) (me v))) f1 m i l σ=some (.ok lf,σf)/\qa w base env le A s₀ ρ0 it a b acc i l σ ρ s') ?_ fuel ⟨i,l,σ,ρ,hr,T⟩;clear hr T;intros m s';intro hI;injection hI with hI i l σ ρ hz;obtain⟨hr,T⟩:=hz
 obtain⟨m',rfl⟩:∃ m',m=m'+1:=by
  cases m
  ·exact nomatch hr
  ·exact⟨_,rfl⟩
 have hr:=Ef hr;have S:=S0.step T.G;have hM:=Dg hbC;injection T.at_ with x0 h1a tk1 es
 revert m';intros m';intro _ hr;rcases hr with hr|hr
 ·obtain⟨hx,el⟩:=hr;refine(gi (prog:=prog) (X:=[env.locals,acc]) T.D R0 T.I htk hx).2 _ _ ?_;intros h' tk;intro D' hk;have:=k ρ s'.heap h' tk T.G hk ((gi (prog:=prog) (X:=[env.locals,acc]) T.D R0 T.I htk hx).1▸D') (T.Y.hid T.I.1 hk) (el▸T.tZ hk);rw[es];exact this
 injection hr with hr v σ' it1 σ3 hz;injection hz with hz l' σ5 hz;obtain⟨hx,hmi,hin,hr⟩:=hz
 have e1:=(gi (prog:=prog) (X:=[env.locals,acc]) T.D R0 T.I htk hx).1;rw[e1] at hmi;refine(gi (prog:=prog) (X:=[env.locals,acc]) T.D R0 T.I htk hx).2 _ (λx s2=>wpAny (model prog w) A (assign (.Name x0 p0) env x) (λj s2=>_) _ s2) _ (λx s₁ q=>q) ?_;clear hx e1;intros h' tk x;intro G' D' hk rx I';have G':Goes (frs A) (env.locals::acc::hidden it a b) ρ ρ s'.heap h':=G';have P':Pre w base n A env le σ ρ h':=⟨D',S.step G',R0,T.Y.hid T.I.1 hk⟩
 have L':=T.tZ hk;refine(ht0 le A σ ρ {s' with heap:=h',toks:=tk} v x v P' hM rx rfl) _ _ ?_;intros ρ2 h2a tk2 u1;intro G2a D2a Y2;have P2:Pre w base n A env ((x0,v)::le) σ ρ2 h2a:=P'.jq G2a D2a Y2;have sL:ja [env.locals] h':=λc hc=>mL P'.Y c (hM.sub c hc);have L2a:=L'.step P'.D P'.S sL (L'.CY sL) G2a;have I2a:=I'.step P'.S (λc hc q=>(I'.1 c hc).lD P'.Y (hM.sub c q)) G2a;have G02:=(T.G.trans G').trans (G2a.wide (λj q=>AX q) (nB P'.Y L' I'));clear G' L' I' sL hk D' T;refine(Runs.vn (hi1 v A σ ρ2 {s' with heap:=h2a,toks:=tk2} P2).1).ok hmi _ _ ?_;have hio:=(hi1 v A σ ρ2 {s' with heap:=h2a,toks:=tk2} P2).2 it1 σ3 hmi;intros ρ3 h3a tk3 y;intro G3a D3a src;replace src:=src.2;have P3:=P2.step G3a D3a;have L3a:=L2a.step P2.D P2.S ja.nil (λq=>nomatch q) G3a;have hnone:∀ c,h3a.get? c=none->h2a.get? c=none:=λc e=>by
  cases q:h2a.get? c with
  |none=>rfl
  |some o=>
   obtain⟨o',e'⟩:=G3a.there D3a q;rw[e] at e';cases e'
 refine qt (s:={s' with heap:=h3a,toks:=tk3}) D3a hnone src hio ?_;intros h4a tk4 a1 b1;intro hk4 D4a J4a hn;have G4a:Goes (frs A) [] ρ3 ρ3 h3a h4a:=Goes.keeps hk4;have P4:=P3.step G4a D4a;have L4:=L3a.step P3.D P3.S ja.nil (λq=>nomatch q) G4a;have Gin:Goes (frs A) (env.locals::acc::hidden it1 a1 b1) ρ2 ρ3 h2a h4a:=(G3a.trans G4a).mono (λj j j q=>q) (λj j j q=>nomatch q) λc o e q=>.inr (by
  rcases Lx q with rfl|q
  ·exact P2.Y.offL
  ·rcases Lx q with rfl|q
   ·exact L2a.1
   ·exact λj=>by rw[hn c q] at e;cases e)
 have main:codeAny (model prog w) A (.compLoop (.ListComp elt [⟨.Name x0 p0,iter0,[],0⟩,⟨t1,iter1,ifs1,0⟩] scope pos) 1 (.ref a1) (.ref acc) env) (λr s''=>match r with
   |.ok _=>
    ∃ m,m<m'+1/\∃ i l σ ρ,dX it mi1 (λv u=>bR pat u (eg (mt v) (me v))) f1 m i l σ=some (.ok lf,σf)/\qa w base env le A s₀ ρ0 it a b acc i l σ ρ s''
   |.error e=>
    cameBackBy (model prog w) A env (notedBy (model prog w) A env λe s'=>Rz (.error e) s') e s'') {s' with heap:=h4a,toks:=tk4}:=by
  refine vY (s₀:={s' with heap:=h2a,toks:=tk2}) (ρ0:=ρ2) (t:=t1) (iter:=iter1) (ifs:=ifs1) rfl rfl ht1 (hts1 v) (he1 v) (hw1 v) (hok1 v σ it1 σ3 hmi) P2.S P2.R hbC hba (λρ' h'' h5 tk5 G0a hk0a D Y L=>?_) ⟨⟨h4a,tk4,rfl⟩,Gin,D4a,P4.Y,J4a,L4⟩ hin;have Gd:Goes (frs A) [env.locals,acc] ρ2 ρ' h2a h5:=Goes.done (X:=[env.locals,acc]) (Y:=hidden it1 a1 b1) G0a hn hk0a;have sub:∀ c∈[env.locals,acc],c∈env.locals::acc::hidden it a b:=λc q=>(Lx q).elim (λz=>z▸.head _) λq=>Lz q▸.tail _ (.head _);have I5a:=I2a.step P2.S (λc hc q=>by
   rcases Lx q with rfl|q
   ·exact(I2a.1 _ hc).lD P2.Y (.head _)
   ·simp at q;subst q;exact L2a.zV I2a.1 hc) Gd
  exact⟨m',Nat.lt_succ_self m',i+1,l',σ5,ρ',hr,⟨h5,tk5,by rw[es]⟩,G02.trans (Gd.wide sub (nB P2.Y L2a I2a)),D,Y.weak (hw0 v),I5a,L⟩
 exact Es (t:=t1) (iter:=iter1) (ifs:=ifs1) rfl main (vC (s:={s' with heap:=h4a,toks:=tk4}) J4a main)
theorem GG[Nonempty γ]{elt iter0 t1 iter1:Expr}{ifs1:List Expr}{x0:Str}{p0:Pos}{scope:Scope}{pos:Pos}{pat:V->Option γ}{ext:γ->List (Str×V)}{mi:M It}{mi1:V->M It}{mt:V->γ->M Bool}{me:V->γ->M V}{fuel f1:Nat}{lec:List (Str×V)}
 (C:jf env scope le lec)(hi:mR prog w base n env le iter0 mi)(ht0:∀ L,eE prog w base n (compEnvC scope (bx env scope.names []) L env) [L] (.Name x0 p0) cA (λv=>[(x0,v)]))
 (hi1:∀ L v,mR prog w base n (compEnvC scope (bx env scope.names []) L env) ((x0,v)::lec) iter1 (mi1 v))(hok1:∀ v σ it σ',mi1 v σ=some (.ok it,σ')->iB it t1)(hs1:∀ L x,foldedSetIterable iter1 (compEnvC scope (bx env scope.names []) L env) x=pure x)
 (ht1:∀ L,eE prog w base n (compEnvC scope (bx env scope.names []) L env) [L] t1 pat ext)(hts1:∀ L v p,bI prog w base n (compEnvC scope (bx env scope.names []) L env) (ext p++((x0,v)::lec)) (iQ ifs1 (compEnvC scope (bx env scope.names []) L env)) (mt v p) kc)
 (he1:∀ L v p,aC prog w base n (compEnvC scope (bx env scope.names []) L env) (ext p++((x0,v)::lec)) elt (me v p))(hw1:∀ v p y u,((x0,v)::lec).lookup y=some u->(ext p++((x0,v)::lec)).lookup y=some u)(hw0:∀ v y u,lec.lookup y=some u->((x0,v)::lec).lookup y=some u)
 (hs:∀ x,foldedSetIterable iter0 env x=pure x)(htk:∀ σ it σ',mi σ=some (.ok it,σ')->iB it (.Name x0 p0))(hn1:1<=n:=by omega) :
  aC prog w base n env le (.ListComp elt [⟨.Name x0 p0,iter0,[],0⟩,⟨t1,iter1,ifs1,0⟩] scope pos) (jd (do let it<-mi;dX it mi1 (λv u=>bR pat u (eg (mt v) (me v))) f1 fuel 0 [])):=by
 intro A σ ρ s P;unfold jd;have em:(mi>>=λit=>dX it mi1 (λv u=>bR pat u (eg (mt v) (me v))) f1 fuel 0 []) σ=M.after (mi σ) λit=>dX it mi1 (λv u=>bR pat u (eg (mt v) (me v))) f1 fuel 0 []:=rfl;rw[em];cases hm:mi σ with
 |none=>trivial
 |some r=>
  obtain⟨r,σ1⟩:=r;cases r with
  |error=>trivial
  |ok it=>
   show Runs _ _ _ _ _ _ _ _ (sC (dX it mi1 (λv u=>bR pat u (eg (mt v) (me v))) f1 fuel 0 [] σ1)) _;cases hr:dX it mi1 (λv u=>bR pat u (eg (mt v) (me v))) f1 fuel 0 [] σ1 with
   |none=>trivial
   |some r=>
    obtain⟨r,σf⟩:=r;cases r with
    |error=>exact LW hr EU
    |ok lf=>
     intro Q E k;refine yd (use:=none) (gs:=[⟨t1,iter1,ifs1,0⟩]) C hi hs P hm λL acc a b ρ1 h4a tk2 Gall D4a Yc I4a acc4 hLb hAb hAlow neAL hnC=>?_;refine Ca (s₀:=s) (ht0 L) (hi1 L) hok1 (hs1 L) (ht1 L) (hts1 L) (he1 L) hw1 hw0 (htk σ it σ1 hm) P.S P.R hLb hAb (λρ' h'' h' tk G0a hk0a D Y L'=>?_) ⟨⟨h4a,tk2,rfl⟩,Gall,D4a,Yc,I4a,acc4⟩ hr;have G:Goes (frs A) [] ρ ρ' s.heap h':=Goes.done (X:=[]) G0a hnC λc o q e=>hk0a c o (λz=>q (.tail _ (.tail _ z))) e;obtain⟨n1,vs,kk,e,rl⟩:=L';obtain⟨mm,hmm,_⟩:=Y.ns;have hLρ':=Y.offL;have D':=D.adopt (o:=.list lf) n1 hAb hAlow ⟨vs,kk,e,rl.mono iU λj j j q=>q⟩;have nL:L∉ρ'++[acc]:=λq=>by
      rcases Ly q with q|q
      ·exact hLρ' q
      ·exact neAL (Lz q).symm
     refine⟨mm,hmm,λh5 hsb=>?_⟩;obtain⟨G',D'',vr⟩:=rj D' hmm nL hLb (hnC _ (.head _)) (G.adopt (hnC _ (.tail _ (.head _)))) hsb;exact k (ρ'++[acc]) h5 tk (.ref acc) G' D'' (vr (.obj (jS D.len)))
end
abbrev aA(m m':M V):M V:=do let a<-m;let i<-m';gR a i
abbrev bA(op:CmpOp)(ml mr:M V):M Bool:=do let a<-ml;let b<-mr;kX op a b
abbrev fU(op:CmpOp)(ml mr:M V):M V:=do let a<-ml;let b<-mr;let q<-kX op a b;pure (.bool q)
abbrev m8(m:M Bool):M Bool:=do let r<-m;pure (!r)
abbrev lT(m m':M Bool):M Bool:=do if<-m then m' else pure false
abbrev kF(m m':M Bool):M Bool:=do if<-m then pure true else m'
abbrev jF(m:M V):M Bool:=do let v<-m;pM v
abbrev Bm(m m':M V):M V:=do let v<-m;if<-pM v then m' else pure v
abbrev n9(mc:M Bool)(m m':M V):M V:=do if<-mc then m else m'
abbrev bM(op:Operator)(ml mr:M V):M V:=do let a<-ml;let b<-mr;sE op a b
abbrev dK(c:Addr)(m:M V)(name:Str):M V:=do let v<-m;ve c v name
abbrev Fc(c:Addr)(m:M V)(name:Str):M V:=do let v<-m;zx c v name
abbrev pe(m:M V):M V:=do let a<-m;q7 a
abbrev Kg(m:M V):M V:=do let a<-m;xo a
abbrev af(m:M V)(ms:M (List V)):M (List V):=do let v<-m;let l<-ms;pure (v::l)
abbrev aV(ms:M (List V)):M V:=do let l<-ms;if l.length<=1000 then pure (.tup l) else M.fail
abbrev cG(ms:M (List V)):M V:=do let l<-ms;mV l
abbrev aG(mf:M V)(vf:V)(ml:M (List V))(g:List V->M V):M V:=do let f<-mf;if f=vf then (do let l<-ml;g l) else M.fail
abbrev bZ(c:Addr)(name:Str)(mo:M V)(ml:M (List V))(g:List V->M V):M V:=do let v<-mo;vq c name v;let l<-ml;g (v::l)
abbrev fE(T:String)(mo:M V)(ml:M (List V))(g:List V->M V):M V:=do let v<-mo;r7 T v;let l<-ml;g (v::l)
abbrev Lf(ml:M (List V))(g:List V->M V):M V:=do let l<-ml;g l
abbrev fR(mi:M It){γ:Type}(pat:V->Option γ)(mt:γ->M Bool)(me:γ->M V):M V:=jd (do let it<-mi;bV it (λv=>bR pat v (eg mt me)) 1000 0 [])
abbrev EP(mi:M It)(mi1:V->M It)(mt:V->V->M Bool)(me:V->V->M V):M V:=jd (do let it<-mi;dX it mi1 (λv u=>bR cA u (eg (mt v) (me v))) 1000 1000 0 [])
abbrev i9(m:M V):M It:=do let v<-m;pR v
abbrev gv(ml:M (List V)):M It:=do let l<-ml;rO l
abbrev HX(ml:M (List V)):M It:=do let l<-ml;sX l
abbrev HZ(ks:List Str)(m:M (List V)):M V:=do let l<-m;vm ks l
abbrev bz(m:M V):M ay:=do let v<-m;pure (.ret v)
abbrev eH(mc:M Bool)(m m':M ay):M ay:=do if<-mc then m else m'
abbrev cQ(m:M V)(f:V->M ay):M ay:=do let v<-m;f v
abbrev lK{γ:Type}(m:M V)(pat:V->Option γ)(f:γ->M ay):M ay:=do let v<-m;bR pat v f
abbrev d7(m:M V)(f:M ay):M ay:=do (do let v<-m;zH v);f
abbrev jY(c:Addr)(m mo:M V)(name:Str)(f:M ay):M ay:=do (do let v<-m;let b<-mo;nO c b name v);f
abbrev H8(c:Addr)(m mo:M V)(name:Str)(f:M ay):M ay:=do (do let v<-m;let b<-mo;pP c b name v);f
abbrev KA(c:Addr)(m mo:M V)(name:Str)(f:M ay):M ay:=do (do let v<-m;let b<-mo;m9 c b name v);f
abbrev vp(m mo mi:M V)(f:M ay):M ay:=do (do let v<-m;let b<-mo;let k<-mi;eT b k v);f
abbrev Ic(m mo mi:M V)(f:M ay):M ay:=do (do let v<-m;let b<-mo;let k<-mi;gG b k v);f
abbrev oE{γ:Type}(mi:M It)(pat:V->Option γ)(g:γ->M ay)(f:M ay):M ay:=do match<-(do let it<-mi;iN it (λv=>bR pat v g) 1000 0) with|.next=>f|.ret v=>pure (.ret v)
abbrev I0(Pa C:Addr)(q:Str)(hd:V->M ay)(ps:List (Pos×M V))(f:M ay):M ay:=do match<-Bd Pa C q hd ps with|.next=>f|.ret v=>pure (.ret v)
abbrev Bb(mt:M Bool)(g f:M ay):M ay:=do match<-je mt g 1000 with|.next=>f|.ret v=>pure (.ret v)
abbrev K4(m:M V):M ay:=do let v<-(do let v<-m;(do sQ v;pure v));(do let r<-jH v;pure (.ret r))
noncomputable abbrev mq:V:=.tup [.str "slice",.str "map",.str "func"]
noncomputable abbrev gT:V:=.tup [.str "named",.str "runtime.Error"]
noncomputable abbrev vJ:V:=.int 1048576
noncomputable def m0(f:M ay)(_:List V):M ay:=f
def m1(f:V->M ay)(l:List V):M ay:=match l with
 |[a]=>f a
 |_=>M.fail
def m2(f:V->V->M ay)(l:List V):M ay:=match l with
 |[a,b]=>f a b
 |_=>M.fail
def m3(f:V->V->V->M ay)(l:List V):M ay:=match l with
 |[a,b,c]=>f a b c
 |_=>M.fail
abbrev fn(k:Nat)(m:List V->M ay):List V->M V:=λl=>if l.length=k then fin (m l) else M.fail
theorem len0{l:List V}(h:l.length=0):l=[]:=List.length_eq_zero_iff.mp h
theorem jG{l:List V}(h:l.length=1):∃ a,l=[a]:=List.length_eq_one_iff.mp h
theorem dg{l:List V}(h:l.length=2):∃ a b,l=[a,b]:=by
 match l,h with
 |[a,b],_=>exact⟨a,b,rfl⟩
theorem wK{l:List V}(h:l.length=3):∃ a b c,l=[a,b,c]:=by
 match l,h with
 |[a,b,c],_=>exact⟨a,b,c,rfl⟩
theorem DF{α:Type}{l:List α}(h:l.length=1):∃ a,l=[a]:=List.length_eq_one_iff.mp h
theorem HV{α:Type}{l:List α}(h:l.length=2):∃ a b,l=[a,b]:=by
 match l,h with
 |[a,b],_=>exact⟨a,b,rfl⟩
theorem aR{a:List Expr}{b:Nat}{c:Pos}{es:List Expr}{env:Env}:starEach (.Tuple a b c::es) env=(false,eval (.Tuple a b c) env)::starEach es env:=rfl
theorem ao{a:Const}{b:Nat}{c:Pos}{es:List Expr}{env:Env}:starEach (.Constant a b c::es) env=(false,eval (.Constant a b c) env)::starEach es env:=rfl
theorem az{a:Str}{c:Pos}{es:List Expr}{env:Env}:starEach (.Name a c::es) env=(false,eval (.Name a c) env)::starEach es env:=rfl
theorem pD{a:List Expr}{c:Pos}{es:List Expr}{env:Env}:starEach (.List a c::es) env=(false,eval (.List a c) env)::starEach es env:=rfl
theorem aK{a b:Expr}{c:Pos}{es:List Expr}{env:Env}:starEach (.Subscript a b c::es) env=(false,eval (.Subscript a b c) env)::starEach es env:=rfl
theorem cZ{a:Expr}{b:List Expr}{k:List Keyword}{c:Pos}{es:List Expr}{env:Env}:starEach (.Call a b k c::es) env=(false,eval (.Call a b k c) env)::starEach es env:=rfl
theorem pT{a b:Expr}{o:Operator}{c:Pos}{es:List Expr}{env:Env}:starEach (.BinOp a o b c::es) env=(false,eval (.BinOp a o b c) env)::starEach es env:=rfl
theorem ko{a:Expr}{b:Str}{c:Pos}{es:List Expr}{env:Env}:starEach (.Attribute a b c::es) env=(false,eval (.Attribute a b c) env)::starEach es env:=rfl
theorem Ao{a b c:Expr}{p:Pos}{es:List Expr}{env:Env}:starEach (.IfExp a b c p::es) env=(false,eval (.IfExp a b c p) env)::starEach es env:=rfl
theorem Dk{a:Expr}{o:List CmpOp}{b:List Expr}{p:Pos}{es:List Expr}{env:Env}:starEach (.Compare a o b p::es) env=(false,eval (.Compare a o b p) env)::starEach es env:=rfl
theorem Jq{a:List (Option Expr)}{b:List Expr}{p:Pos}{es:List Expr}{env:Env}:starEach (.Dict a b p::es) env=(false,eval (.Dict a b p) env)::starEach es env:=rfl
theorem CD{a:Expr}{b:List Comprehension}{s:Scope}{p:Pos}{es:List Expr}{env:Env}:starEach (.ListComp a b s p::es) env=(false,eval (.ListComp a b s p) env)::starEach es env:=rfl
abbrev uB(lec le:List (Str×V)):Prop:=∀ x v,lec.lookup x=some v->le.lookup x=some v
theorem bG{le:List (Str×V)}:uB le le:=λu u e=>e
theorem bW{le:List (Str×V)}:uB [] le:=λu u e=>nomatch e
theorem aM{le lec:List (Str×V)}{x:Str}{v:V}(h:lec.lookup x=none)(r:uB lec le):uB lec ((x,v)::le):=λy u e=>by
 rw[List.lookup_cons];by_cases q:(y==x)=true
 ·rw[eq_of_beq q,h] at e;cases e
 ·rw[Bool.not_eq_true] at q;rw[q];exact r y u e
theorem cX{le lec:List (Str×V)}{x:Str}{v:V}(h:le.lookup x=some v)(r:uB lec le):uB ((x,v)::lec) le:=λy u e=>by
 rw[List.lookup_cons] at e;by_cases q:(y==x)=true
 ·rw[q] at e;rw[eq_of_beq q,h];exact e
 ·rw[Bool.not_eq_true] at q;rw[q] at e;exact r y u e
noncomputable def u0(names:List (Str×NameKind)):List (Str×V)->Bool
 |[]=>true
 |p::r=>names.lookup p.1==some .free&&u0 names r
theorem xX{names:List (Str×NameKind)}:∀ {lec:List (Str×V)},u0 names lec=true->∀ p∈lec,names.lookup p.1=some .free
 |[],_,p,hp=>nomatch hp
 |q::r,h,p,hp=>by
  simp only[u0,Bool.and_eq_true] at h;cases hp with
  |head=>exact eq_of_beq h.1
  |tail _ hp=>exact xX h.2 p hp
theorem dc{env:Env}{scope:Scope}{le lec:List (Str×V)}(h1:(scope.names.all λp=>!(p.2==.free)||(env.kindOf p.1==some .cell||env.kindOf p.1==some .free))=true)
 (h2:(scope.names.all λp=>!(p.2==.cell))=true)(h3:(scope.names.map (·.1)).Nodup)(h4:(scope.names.all λp=>!(p.2==.local)||scope.names.lookup p.1==some .local)=true)
 (h5:u0 scope.names lec=true)(h6:uB lec le)(h7:scope.kind=.function):jf env scope le lec where
 free p hp e:=by
  have:=List.all_eq_true.mp h1 p hp;rw[e] at this;simpa using this
 nocell p hp e:=by
  have:=List.all_eq_true.mp h2 p hp;rw[e] at this;simp at this
 nd:=h3
 loc p hp e:=by
  have:=List.all_eq_true.mp h4 p hp;rw[e] at this;simpa using this
 caps:=xX h5
 weak:=h6
 kind:=h7
section
variable{prog:Program}{w:World}{base:Heap}{n:Nat}{env:Env}{le keep:List (Str×V)}{K:Frag}{mg mb:Str->Option Value}
theorem cC{st:List Stmt}{m m':M ay}(h:aJ prog w base n env le keep st m)(e:m=m'):aJ prog w base n env le keep st m':=e▸h
theorem Je{st:List Stmt}:aJ prog w base n env le keep st M.fail:=λu u u u u u=>trivial
theorem gH:bI prog w base n env le (iQ [] env) (pure true) kc:=λu u u u P=>Runs.pure P.D rfl
theorem qU{c:Expr}{m:M Bool}(h:kD prog w base n env le c m):bI prog w base n env le (iQ [c] env) m kc:=by
 have e:iQ [c] env=isTrue c env (eval c env):=by
  show (forIn [c] true _:Sem Bool)=_;simp[List.forIn_cons,List.forIn_nil]
 rw[e];exact h
theorem j5{m:M V}{t:Expr}(σ:ai)(it:It)(σ':ai)(e:(i9 m) σ=some (.ok it,σ')):iB it t:=by
 obtain⟨v,τ,_,e⟩:=M.inv e;obtain⟨j,_,⟨l,hj,hr⟩|⟨l,ep,hj,hl,hr⟩⟩:=qZ e<;>cases hr<;>exact λj e=>nomatch e
theorem kN{m:M (List V)}{t:Expr}(σ:ai)(it:It)(σ':ai)(e:(gv m) σ=some (.ok it,σ')):iB it t:=by
 obtain⟨v,τ,_,e⟩:=M.inv e;obtain⟨n,_,_,hr⟩:=pS e;cases hr;exact λj e=>nomatch e
theorem AE{mi:M It}{ts:List Expr}{k:Nat}{p:Pos}:∀ (σ:ai) (it:It) (σ':ai),mi σ=some (.ok it,σ')->iB it (.Tuple ts k p):=by
 exact λσ it σ' u j e=>⟨_,_,_,rfl⟩
end
def nu(base:Heap)(sc:Addr)(zs:List Int):Prop:=zs.length<=63/\∃ vs:List Value,base.IsList sc vs.toArray/\IntsAre vs zs
noncomputable def V.sN(v:V):Option Addr:=V.casesOn v Option.none (λu=>Option.none) (λu=>Option.none) (λu=>Option.none) (λu=>Option.none) (λu=>Option.none) (λu=>Option.none) some (λu=>Option.none) (λu=>Option.none)
theorem V.gV{v:V}{a:Addr}:v.sN=some a->v=.ref a:=V.casesOn (motive_1:=λv=>v.sN=some a->v=.ref a) v au (λu=>au) (λu=>au) (λu=>au) (λu=>au) (λu=>au) (λu=>au) (λu h=>LH V.ref (LF h)) (λu=>au) (λu=>au)
def uX(sc:Addr)(zs:List Int)(l:List V):M V:=λσ=>((one l).bind V.sN).elim (c8 l σ) λa=>if a=sc then some (.ok (.int zs.length),σ) else none
noncomputable def zE(sc:Addr)(zs:List Int)(σ:ai)(p:Addr×Int):Option (Except V V×ai):=if p.1=sc/\p.2=0 then zs.head?.bind λz=>some (.ok (.int z),σ) else none
def qX(sc:Addr)(zs:List Int)(a i:V):M V:=λσ=>(a.sN.bind λa=>i.eX.map λk=>(a,k)).elim (gR a i σ) (zE sc zs σ)
abbrev zS(sc:Addr)(zs:List Int)(m m':M V):M V:=do let a<-m;let i<-m';qX sc zs a i
theorem AL{vs:List Value}{zs:List Int}(h:IntsAre vs zs):vs.length=zs.length:=by
 induction h with
 |nil=>rfl
 |cons _ _ _ ih=>exact LH (·+1) ih
section
variable{prog:Program}{w:World}{base:Heap}{n:Nat}{env:Env}{le keep:List (Str×V)}{A:Around}{X:List Addr}{σ:ai}{ρ:List Addr}{s:Shared}{sc:Addr}{zs:List Int}
theorem xY(hS:nu base sc zs):bC prog w base 0 (.builtin "len") (uX sc zs):=by
 intro A σ ρ s l xs D S R r;cases e:(one l).bind V.sN with
 |none=>
  have q:uX sc zs l σ=c8 l σ:=LH (λo:Option Addr=>o.elim (c8 l σ) λa=>if a=sc then some (.ok (.int zs.length),σ) else none) e;rw[q];exact dW A σ ρ s _ _ D S R r
 |some a=>
  have q:uX sc zs l σ=if a=sc then some (.ok (.int zs.length),σ) else none:=LH (λo:Option Addr=>o.elim (c8 l σ) λa=>if a=sc then some (.ok (.int zs.length),σ) else none) e;rw[q];refine Runs.inv λres σ' ev=>?_;obtain⟨ha,hr⟩:=aE ev;cases hr;obtain⟨v,h1,h2⟩:=Lv e;rw[pC h1,V.gV h2,ha] at r;obtain⟨x,rfl,rx⟩:=gV r;cases (show x=.ref sc from rx.inv);obtain⟨hl,vs,il,ia⟩:=hS;intro Q E q;refine PySem.Calls.call_len_list (il.at λo e=>D.sub _ _ e) (by simp[AL ia];lia) ?_;simp only[List.size_toArray,AL ia];exact q ρ s.heap _ _ .refl D (.int _ _)
theorem Fg{value slice:Expr}{a i:V}{x y:Value}(hS:nu base sc zs)(D:Rep w base ρ σ s.heap)(ra:VR ρ s.heap a x)(ri:VR ρ s.heap i y)
 (hs:∃ ops,subscripted slice false x y=operate ops (getItem x y)):Runs prog w base A X (subscriptTail value slice x y) s ρ (qX sc zs a i σ) VR:=by
 revert hS D ra ri hs;revert x y;revert prog w base A X σ ρ s sc zs value slice a i;apply b9;generalize cM=zt;generalize zt.1.1.1=prog,zt.1.1.2.1=w,zt.1.1.2.2=base,zt.1.2.1.1=A,zt.1.2.1.2=X,zt.1.2.2.1=σ,zt.1.2.2.2=ρ,zt.2.1.1=s,zt.2.1.2.1=sc,zt.2.1.2.2=zs,zt.2.2.1.1=value,zt.2.2.1.2=slice,zt.2.2.2.1=a,zt.2.2.2.2=i;intros x y;intro hS D ra ri hs;cases e:a.sN.bind λa=>i.eX.map λk=>(a,k) with
 |none=>
  have q:qX sc zs a i σ=gR a i σ:=LH (λo:Option (Addr×Int)=>o.elim (gR a i σ) (zE sc zs σ)) e;rw[q];exact zX D ra ri hs
 |some p=>
  have q:qX sc zs a i σ=zE sc zs σ p:=LH (λo:Option (Addr×Int)=>o.elim (gR a i σ) (zE sc zs σ)) e;rw[q];refine Runs.inv ?_;intros res σ';intro ev;obtain⟨hp,hr⟩:=aE ev;obtain⟨b,h1,h2⟩:=Lv e;obtain⟨k,h3,h4⟩:=Lw h2;rw[V.gV h1,show b=sc from (congrArg Prod.fst h4).trans hp.1] at ra;rw[V.f9 h3,show k=0 from (congrArg Prod.snd h4).trans hp.2] at ri;cases (show x=.ref sc from ra.inv);injection ri.inv with x0 u hz;obtain rfl:=hz
  obtain⟨hl,hz⟩:=hS;injection hz with hz vs hz;obtain⟨il,ia⟩:=hz
  injection hs with hs ops hs
  cases ia with
  |nil=>exact nomatch (show none=some (res,σ') from hr)
  |@cons z t vs zs ia=>
   cases (show some (Except.ok (V.int z),σ)=some (res,σ') from hr);exact λQ E kk=>tail_any (T:="list") (il.at λo e=>D.sub _ _ e:s.heap.IsList sc (Value.int z t::vs).toArray).typeIs slot_list_getitem.lookup (wpAny_getItem_list (il.at λo e=>D.sub _ _ e) (Int.le_refl _) (by decide) rfl (kk ρ s.heap s.toks _ .refl D (.int _ _))) hs
theorem A7{value slice:Expr}{pos:Pos}{m m':M V}(hS:nu base sc zs)(h:aC prog w base n env le value m)(h':aC prog w base n env le slice m')
 (he:eval (.Subscript value slice pos) env=(do let o<-eval value env;let i<-holding [o] (eval slice env);standAt pos;subscriptTail value slice o i))
 (hs:∀ x y,∃ ops,subscripted slice false x y=operate ops (getItem x y)):aC prog w base n env le (.Subscript value slice pos) (zS sc zs m m'):=by
 unfold aC;rw[he];refine bI.bind h λv x A σ ρ s P r=>?_;refine Runs.bind (m:=m') (g:=λi=>qX sc zs v i) (Runs.holding (h' A σ ρ s P)) λi σ' u ρ' h' tk y G D ri=>?_;exact Runs.aY (Fg hS D (P.vr G r) ri (hs _ _))
end
abbrev KK(w:World):Frag:=pre.heap_1 w.params
section
variable{prog:Program}{w:World}{base:Heap}{n:Nat}{env:Env}{le keep:List (Str×V)}{mg mb:Str->Option Value}
theorem fQ(G:Gd (KK w) mg mb base){pos:Pos}(h:env.kindOf "len"=some .globalImplicit):aC prog w base n env le (.Name "len" pos) (pure (.bi "len")):=
 dU G h rfl (val:=.builtin "len") (by first|boot_by_name|rfl|kernel_rfl) (by decide) rfl λu u=>.bi _
theorem lR(G:Gd (KK w) mg mb base){pos:Pos}(h:env.kindOf "isinstance"=some .globalImplicit):aC prog w base n env le (.Name "isinstance" pos) (pure (.bi "isinstance")):=
 dU G h rfl (val:=.builtin "isinstance") (by first|boot_by_name|rfl|kernel_rfl) (by decide) rfl λu u=>.bi _
theorem FP(G:Gd (KK w) mg mb base){pos:Pos}(h:env.kindOf "sorted"=some .globalImplicit):aC prog w base n env le (.Name "sorted" pos) (pure (.bi "sorted")):=
 dU G h rfl (val:=.builtin "sorted") (by first|boot_by_name|rfl|kernel_rfl) (by decide) rfl λu u=>.bi _
theorem FN(G:Gd (KK w) mg mb base){pos:Pos}(h:env.kindOf "int"=some .globalImplicit):aC prog w base n env le (.Name "int" pos) (pure (.ty "int")):=
 dU G h rfl (val:=.type "int") (by first|boot_by_name|rfl|kernel_rfl) (by decide) rfl λu u=>.ty _
theorem Iv(G:Gd (KK w) mg mb base){pos:Pos}(h:env.kindOf "list"=some .globalImplicit):aC prog w base n env le (.Name "list" pos) (pure (.ty "list")):=
 dU G h rfl (val:=.type "list") (by first|boot_by_name|rfl|kernel_rfl) (by decide) rfl λu u=>.ty _
theorem HF(G:Gd (KK w) mg mb base){pos:Pos}(h:env.kindOf "tuple"=some .globalImplicit):aC prog w base n env le (.Name "tuple" pos) (pure (.ty "tuple")):=
 dU G h rfl (val:=.type "tuple") (by first|boot_by_name|rfl|kernel_rfl) (by decide) rfl λu u=>.ty _
theorem Jt(G:Gd (KK w) mg mb base){pos:Pos}(h:env.kindOf "bool"=some .globalImplicit):aC prog w base n env le (.Name "bool" pos) (pure (.ty "bool")):=
 dU G h rfl (val:=.type "bool") (by first|boot_by_name|rfl|kernel_rfl) (by decide) rfl λu u=>.ty _
theorem HG(G:Gd (KK w) mg mb base){pos:Pos}(h:env.kindOf "bytes"=some .globalImplicit):aC prog w base n env le (.Name "bytes" pos) (pure (.ty "bytes")):=
 dU G h rfl (val:=.type "bytes") (by first|boot_by_name|rfl|kernel_rfl) (by decide) rfl λu u=>.ty _
theorem kZ(G:Gd (KK w) mg mb base){pos:Pos}(h:env.kindOf "range"=some .globalImplicit):aC prog w base n env le (.Name "range" pos) (pure (.ty "range")):=
 dU G h rfl (val:=.type "range") (by first|boot_by_name|rfl|kernel_rfl) (by decide) rfl λu u=>.ty _
theorem r4(G:Gd (KK w) mg mb base){pos:Pos}(h:env.kindOf "enumerate"=some .globalImplicit):aC prog w base n env le (.Name "enumerate" pos) (pure (.ty "enumerate")):=
 dU G h rfl (val:=.type "enumerate") (by first|boot_by_name|rfl|kernel_rfl) (by decide) rfl λu u=>.ty _
theorem AN(G:Gd (KK w) mg mb base){pos:Pos}(h:env.kindOf "Exception"=some .globalImplicit):aC prog w base n env le (.Name "Exception" pos) (pure (.ty "Exception")):=
 dU G h rfl (val:=.type "Exception") (by first|boot_by_name|rfl|kernel_rfl) (by decide) rfl λu u=>.ty _
theorem uc(G:Gd (KK w) mg mb base){pos:Pos}(h:env.kindOf "runtime_panic"=some .globalImplicit):aC prog w base n env le (.Name "runtime_panic" pos) (pure (.ref 74)):=
 bK G h rfl rfl
theorem Cv(G:Gd (KK w) mg mb base){pos:Pos}(h:env.kindOf "need_few"=some .globalImplicit):aC prog w base n env le (.Name "need_few" pos) (pure (.ref 82)):=
 bK G h rfl rfl
theorem BO(G:Gd (KK w) mg mb base){pos:Pos}(h:env.kindOf "value_tag"=some .globalImplicit):aC prog w base n env le (.Name "value_tag" pos) (pure (.ref 89)):=
 bK G h rfl rfl
theorem AM(G:Gd (KK w) mg mb base){pos:Pos}(h:env.kindOf "value_key"=some .globalImplicit):aC prog w base n env le (.Name "value_key" pos) (pure (.ref 97)):=
 bK G h rfl rfl
theorem v7(G:Gd (KK w) mg mb base){pos:Pos}(h:env.kindOf "entry_number"=some .globalImplicit):aC prog w base n env le (.Name "entry_number" pos) (pure (.ref 167)):=
 bK G h rfl rfl
theorem Cd(G:Gd (KK w) mg mb base){pos:Pos}(h:env.kindOf "_law_reel"=some .globalImplicit):aC prog w base n env le (.Name "_law_reel" pos) (pure (.ref 236)):=
 bK G h rfl rfl
theorem dP(G:Gd (KK w) mg mb base){pos:Pos}(h:env.kindOf "_law_wound"=some .globalImplicit):aC prog w base n env le (.Name "_law_wound" pos) (pure (.ref 243)):=
 bK G h rfl rfl
theorem qd(G:Gd (KK w) mg mb base){pos:Pos}(h:env.kindOf "_law_may"=some .globalImplicit):aC prog w base n env le (.Name "_law_may" pos) (pure (.ref 250)):=
 bK G h rfl rfl
theorem Cx(G:Gd (KK w) mg mb base){pos:Pos}(h:env.kindOf "_law_keys"=some .globalImplicit):aC prog w base n env le (.Name "_law_keys" pos) (pure (.ref 257)):=
 bK G h rfl rfl
theorem AY(G:Gd (KK w) mg mb base){pos:Pos}(h:env.kindOf "_law_wrong"=some .globalImplicit):aC prog w base n env le (.Name "_law_wrong" pos) (pure (.ref 264)):=
 bK G h rfl rfl
theorem kr(G:Gd (KK w) mg mb base){pos:Pos}(h:env.kindOf "_law_standing"=some .globalImplicit):aC prog w base n env le (.Name "_law_standing" pos) (pure (.ref 271)):=
 bK G h rfl rfl
theorem oQ(G:Gd (KK w) mg mb base){pos:Pos}(h:env.kindOf "_law_left"=some .globalImplicit):aC prog w base n env le (.Name "_law_left" pos) (pure (.ref 276)):=
 bK G h rfl rfl
theorem pG(G:Gd (KK w) mg mb base){pos:Pos}(h:env.kindOf "_law_stepped"=some .globalImplicit):aC prog w base n env le (.Name "_law_stepped" pos) (pure (.ref 283)):=
 bK G h rfl rfl
theorem yz(G:Gd (KK w) mg mb base){pos:Pos}(h:env.kindOf "_law_stands"=some .globalImplicit):aC prog w base n env le (.Name "_law_stands" pos) (pure (.ref 288)):=
 bK G h rfl rfl
theorem gg(G:Gd (KK w) mg mb base){pos:Pos}(h:env.kindOf "_law_found_right"=some .globalImplicit):aC prog w base n env le (.Name "_law_found_right" pos) (pure (.ref 295)):=
 bK G h rfl rfl
theorem xw(G:Gd (KK w) mg mb base){pos:Pos}(h:env.kindOf "_law_refused"=some .globalImplicit):aC prog w base n env le (.Name "_law_refused" pos) (pure (.ref 302)):=
 bK G h rfl rfl
theorem CN(G:Gd (KK w) mg mb base){pos:Pos}(h:env.kindOf "_law_deed"=some .globalImplicit):aC prog w base n env le (.Name "_law_deed" pos) (pure (.ref 309)):=
 bK G h rfl rfl
theorem rT(G:Gd (KK w) mg mb base){pos:Pos}(h:env.kindOf "_law_fixed_right"=some .globalImplicit):aC prog w base n env le (.Name "_law_fixed_right" pos) (pure (.ref 314)):=
 bK G h rfl rfl
theorem ug(G:Gd (KK w) mg mb base){pos:Pos}(h:env.kindOf "Table"=some .globalImplicit):aC prog w base n env le (.Name "Table" pos) (pure (.ref 156)):=
 bK G h rfl rfl
theorem nE(G:Gd (KK w) mg mb base){pos:Pos}(h:env.kindOf "TableWalk"=some .globalImplicit):aC prog w base n env le (.Name "TableWalk" pos) (pure (.ref 197)):=
 bK G h rfl rfl
theorem uR(G:Gd (KK w) mg mb base){pos:Pos}(h:env.kindOf "Choices"=some .globalImplicit):aC prog w base n env le (.Name "Choices" pos) (pure (.ref 225)):=
 bK G h rfl rfl
theorem DK(G:Gd (KK w) mg mb base){pos:Pos}(h:env.kindOf "GoPanic"=some .globalImplicit):aC prog w base n env le (.Name "GoPanic" pos) (pure (.ref 64)):=
 bK G h rfl rfl
theorem z9(G:Gd (KK w) mg mb base){pos:Pos}(h:env.kindOf "ChanError"=some .globalImplicit):aC prog w base n env le (.Name "ChanError" pos) (pure (.ref 32)):=
 bK G h rfl rfl
theorem yL(G:Gd (KK w) mg mb base){pos:Pos}(h:env.kindOf "LOOSE_TAGS"=some .globalImplicit):aC prog w base n env le (.Name "LOOSE_TAGS" pos) (pure mq):=
 qx G h (val:=.ref 75) rfl rfl (Ii (K:=KK w) rfl λu u u=>.cons (.str _ _) (.cons (.str _ _) (.cons (.str _ _) .nil)))
theorem t7(G:Gd (KK w) mg mb base){pos:Pos}(h:env.kindOf "RUNTIME_ERROR"=some .globalImplicit):aC prog w base n env le (.Name "RUNTIME_ERROR" pos) (pure gT):=
 qx G h (val:=.ref 67) rfl rfl (Ii (K:=KK w) rfl λu u u=>.cons (.str _ _) (.cons (.str _ _) .nil))
theorem yP(G:Gd (KK w) mg mb base){pos:Pos}(h:env.kindOf "MOST_PARTS"=some .globalImplicit):aC prog w base n env le (.Name "MOST_PARTS" pos) (pure vJ):=
 qx G h rfl rfl λu u u=>.int _ _
theorem K9:keepIn (KK w) (.ref 29)=true:=rfl
theorem La:keepIn (KK w) (.ref 74)=true:=rfl
theorem KH:keepIn (KK w) (.ref 82)=true:=rfl
theorem KY:keepIn (KK w) (.ref 89)=true:=rfl
theorem Lb:keepIn (KK w) (.ref 97)=true:=rfl
theorem BE:keepIn (KK w) (.ref 118)=true:=rfl
theorem Kv:keepIn (KK w) (.ref 125)=true:=rfl
theorem FI:keepIn (KK w) (.ref 132)=true:=rfl
theorem vG:keepIn (KK w) (.ref 139)=true:=rfl
theorem FL:keepIn (KK w) (.ref 146)=true:=rfl
theorem BF:keepIn (KK w) (.ref 153)=true:=rfl
theorem FT:keepIn (KK w) (.ref 187)=true:=rfl
theorem rE:keepIn (KK w) (.ref 194)=true:=rfl
theorem JF:keepIn (KK w) (.ref 222)=true:=rfl
theorem Kc:keepIn (KK w) (.ref 236)=true:=rfl
theorem kg:keepIn (KK w) (.ref 243)=true:=rfl
theorem JM:keepIn (KK w) (.ref 250)=true:=rfl
theorem JK:keepIn (KK w) (.ref 257)=true:=rfl
theorem JI:keepIn (KK w) (.ref 264)=true:=rfl
theorem AH:keepIn (KK w) (.ref 271)=true:=rfl
theorem AD:keepIn (KK w) (.ref 276)=true:=rfl
theorem Fv:keepIn (KK w) (.ref 283)=true:=rfl
theorem JU:keepIn (KK w) (.ref 288)=true:=rfl
theorem vN:keepIn (KK w) (.ref 295)=true:=rfl
theorem JS:keepIn (KK w) (.ref 302)=true:=rfl
theorem Kq:keepIn (KK w) (.ref 309)=true:=rfl
theorem JR:keepIn (KK w) (.ref 314)=true:=rfl
theorem AV:keepIn (KK w) (.ref 156)=true:=rfl
theorem z4:keepIn (KK w) (.ref 197)=true:=rfl
theorem Gb:keepIn (KK w) (.ref 225)=true:=rfl
theorem KJ:keepIn (KK w) (.ref 64)=true:=rfl
theorem se:attrOk (KK w) 156 "may_compare"=true:=rfl
theorem rM:storeOk (KK w) 156 "may_compare"=true:=rfl
theorem eV:attrOk (KK w) 156 "entries"=true:=rfl
theorem w4:storeOk (KK w) 156 "entries"=true:=rfl
theorem lO:attrOk (KK w) 156 "coming"=true:=rfl
theorem qF:storeOk (KK w) 156 "coming"=true:=rfl
theorem qT:attrOk (KK w) 197 "table"=true:=rfl
theorem Ax:storeOk (KK w) 197 "table"=true:=rfl
theorem yT:storeOk (KK w) 197 "number"=true:=rfl
theorem Eb:attrOk (KK w) 197 "end"=true:=rfl
theorem Ei:storeOk (KK w) 197 "end"=true:=rfl
theorem tU:attrOk (KK w) 197 "told"=true:=rfl
theorem BZ:storeOk (KK w) 197 "told"=true:=rfl
theorem vE:attrOk (KK w) 225 "row"=true:=rfl
theorem Ej:storeOk (KK w) 225 "row"=true:=rfl
theorem mU:attrOk (KK w) 225 "taken"=true:=rfl
theorem rJ:storeOk (KK w) 225 "taken"=true:=rfl
theorem B0:sG (KK w) 64 "value"=true:=rfl
theorem B5:gQ (KK w) 64 "value"=true:=rfl
theorem yW:gQ (KK w) 64 "message"=true:=rfl
theorem Em:gQ (KK w) 64 "spot"=true:=rfl
theorem jw:gW (KK w) 156 "mark_of" 118=true:=rfl
theorem ze:gW (KK w) 156 "size" 125=true:=rfl
theorem j6:gW (KK w) 156 "put" 139=true:=rfl
theorem nP:gW (KK w) 156 "remove" 146=true:=rfl
theorem lS:gW (KK w) 156 "rows" 153=true:=rfl
theorem jh:gW (KK w) 197 "left_rows" 187=true:=rfl
theorem dF:gW (KK w) 197 "next_row" 194=true:=rfl
theorem vH:gW (KK w) 225 "pick" 222=true:=rfl
theorem rZ:gW (KK w) 156 "get" 132=true:=rfl
theorem DC:Aq (KK w) "Exception" "__init__" "Exception.__init__":=rfl
theorem Il:xR (KK w) 32 (.type "type") "__init__" 29:=⟨rfl,rfl,rfl⟩
theorem G7:vX (KK w) 64=true:=rfl
theorem J4:subIn (KK w) (.ref 64) (.type "Exception")=some true:=rfl
theorem KO:∃ oc od cd os,(KK w).lookup 64=some ⟨oc,od,.cls cd,os⟩:=⟨_,_,_,_,rfl⟩
theorem Ga(G:Gd (KK w) mg mb base):v9 prog w base 167:=
 Cb G (f:=167) rfl rfl rfl (λv=>rfl) rfl rfl rfl rfl rfl (by decide)
theorem Hi(G:Gd (KK w) mg mb base):CodeHd base 301 297:=
 ⟨_,_,_,_,_,_,_,_,_,G.X 301 _ rfl,rfl,rfl,rfl,rfl,rfl,rfl,rfl,rfl,by decide⟩
end
abbrev rR(x_self:V):M ay:=
 H8 64 (pure (.int 0)) (pure x_self) "spot" (pure .next)
abbrev qS(x_self:V)(x_message:V):M ay:=
 KA 64 (pure x_message) (pure x_self) "message" (rR x_self)
def gJ(x_self:V)(x_message:V):M ay:=
 d7 (Lf (af (pure x_self) (af (pure x_message) (pure []))) (uK 64)) (qS x_self x_message)
abbrev jt:List V->M V:=fn 2 (m2 gJ)
abbrev uL(x_self:V)(x_value:V):M ay:=
 H8 64 (pure x_value) (pure x_self) "value" (pure .next)
def iZ(x_self:V)(x_value:V):M ay:=
 d7 (Lf (af (pure x_self) (af (pure (.str "panic")) (pure []))) jt) (uL x_self x_value)
abbrev kO:List V->M V:=fn 2 (m2 iZ)
abbrev rI:List V->M V:=Eh 64 kO
def iA(x_text:V):M ay:=
 bz (aG (pure (.ref 64)) (.ref 64) (af (aV (af (pure (.str "face")) (af (pure gT) (af (fE "str" (pure x_text) (af (pure (.str "ascii")) (pure [])) xC) (pure []))))) (pure [])) rI)
abbrev fq:List V->M V:=fn 1 (m1 iA)
def l7(x_many:V)(x_most:V):M ay:=
 eH (bA .Gt (pure x_many) (n9 (bA .Is (pure x_most) (pure .none)) (pure vJ) (pure x_most))) M.fail (pure .next)
abbrev l8:List V->M V:=fn 2 (m2 l7)
abbrev yF(x_value:V):M ay:=
 bz (n9 (jF (aG (pure (.bi "isinstance")) (.bi "isinstance") (af (pure x_value) (af (pure (.ty "bytes")) (pure []))) Ag)) (pure (.str "text")) (aA (pure x_value) (pure (.int 0))))
abbrev zl(x_value:V):M ay:=
 eH (jF (aG (pure (.bi "isinstance")) (.bi "isinstance") (af (pure x_value) (af (pure (.ty "int")) (pure []))) Ag)) (bz (pure (.str "int"))) (yF x_value)
abbrev yV(x_value:V):M ay:=
 eH (jF (aG (pure (.bi "isinstance")) (.bi "isinstance") (af (pure x_value) (af (pure (.ty "bool")) (pure []))) Ag)) (bz (pure (.str "bool"))) (zl x_value)
def k8(x_value:V):M ay:=
 eH (bA .Is (pure x_value) (pure .none)) (bz (pure (.str "nil"))) (yV x_value)
abbrev k7:List V->M V:=fn 1 (m1 k8)
def nR(x_told:V):M ay:=
 bz (fU .NotEq (aA (pure x_told) (pure (.int 0))) (pure (.str "func")))
abbrev nM:List V->M V:=fn 1 (m1 nR)
abbrev zc:M ay:=
 rK 64 (aG (pure (.ref 74)) (.ref 74) (af (pure (.str "hash of unhashable type")) (pure [])) fq)
abbrev zd(v1:V×V)(v2:V):M ay:=
 d7 (fE "list" (pure v1.2) (af (aA (pure v2) (pure (.int 2))) (pure [])) cB) (pure .next)
abbrev yG(v1:V×V)(v2:V)(v3:V):M ay:=
 d7 (fE "list" (pure v1.1) (af (aV (af (pure v3) (af (aA (pure v2) (pure (.int 1))) (pure [])))) (pure [])) cB) (zd v1 v2)
abbrev yx(v1:V×V)(v2:V):M ay:=
 d7 (fE "list" (pure v1.2) (af (Kg (aG (pure (.ty "list")) (.ty "list") (af (aA (pure v2) (pure (.int 1))) (pure [])) sM)) (pure [])) sP) (pure .next)
abbrev yX(v1:V×V)(v2:V)(v3:V):M ay:=
 d7 (fE "list" (pure v1.1) (af (aV (af (pure v3) (af (aG (pure (.bi "len")) (.bi "len") (af (aA (pure v2) (pure (.int 1))) (pure [])) c8) (pure [])))) (pure [])) cB) (yx v1 v2)
abbrev yU(v1:V×V)(v2:V)(v3:V):M ay:=
 d7 (fE "list" (pure v1.1) (af (aV (af (pure v3) (af (pure v2) (pure [])))) (pure [])) cB) (pure .next)
abbrev y9(v1:V×V)(v2:V)(v3:V):M ay:=
 eH (bA .In (pure v3) (aV (af (pure (.str "struct")) (af (pure (.str "array")) (pure []))))) (yX v1 v2 v3) (yU v1 v2 v3)
abbrev yO(v1:V×V)(v2:V)(v3:V):M ay:=
 eH (bA .Eq (pure v3) (pure (.str "face"))) (yG v1 v2 v3) (y9 v1 v2 v3)
abbrev yR(x_may_compare:V)(v1:V×V)(v2:V)(v3:V):M ay:=
 eH (kF (bA .In (pure v3) (pure mq)) (kF (lT (bA .Eq (pure v3) (pure (.str "face"))) (lT (m8 (jF (aG (pure x_may_compare) (.ref 250) (af (aA (pure v2) (pure (.int 1))) (pure [])) nM))) (pure true))) (pure false))) zc (yO v1 v2 v3)
abbrev w5(x_may_compare:V)(v1:V×V)(v2:V):M ay:=
 cQ (aG (pure (.ref 89)) (.ref 89) (af (pure v2) (pure [])) k7) (λv3=>yR x_may_compare v1 v2 v3)
abbrev wO(x_may_compare:V)(v1:V×V)(v2:V):M ay:=
 d7 (aG (pure (.ref 82)) (.ref 82) (af (bM .Add (aG (pure (.bi "len")) (.bi "len") (af (pure v1.1) (pure [])) c8) (pure (.int 1))) (af (pure (.none)) (pure []))) l8) (w5 x_may_compare v1 v2)
abbrev wU(x_may_compare:V)(v1:V×V):M ay:=
 cQ (fE "list" (pure v1.2) (pure []) DH) (λv2=>wO x_may_compare v1 v2)
abbrev wG(v1:V×V):M ay:=
 bz (aG (pure (.ty "tuple")) (.ty "tuple") (af (pure v1.1) (pure [])) vZ)
abbrev wF(x_may_compare:V)(v1:V×V):M ay:=
 Bb (bA .NotEq (pure v1.2) (cG (pure []))) (wU x_may_compare v1) (wG v1)
def lA(x_value:V)(x_may_compare:V):M ay:=
 lK (aV (af (cG (pure [])) (af (cG (af (pure x_value) (pure []))) (pure [])))) lP (λv1=>wF x_may_compare v1)
abbrev oZ:List V->M V:=fn 2 (m2 lA)
abbrev wW(x_self:V):M ay:=
 jY 156 (pure (.int 0)) (pure x_self) "coming" (pure .next)
abbrev wR(x_self:V):M ay:=
 jY 156 (qp (.td [])) (pure x_self) "entries" (wW x_self)
def jV(x_self:V)(x_may_compare:V):M ay:=
 jY 156 (pure x_may_compare) (pure x_self) "may_compare" (wR x_self)
abbrev ru:List V->M V:=fn 2 (m2 jV)
abbrev kH:List V->M V:=tg 156 ru
def iD(x_self:V)(x_key:V):M ay:=
 bz (aG (pure (.ref 97)) (.ref 97) (af (pure x_key) (af (dK 156 (pure x_self) "may_compare") (pure []))) oZ)
abbrev dY:List V->M V:=fn 2 (m2 iD)
def jZ(x_self:V):M ay:=
 bz (aG (pure (.bi "len")) (.bi "len") (af (dK 156 (pure x_self) "entries") (pure [])) c8)
abbrev jW:List V->M V:=fn 1 (m1 jZ)
abbrev yI(v1:V):M ay:=
 bz (n9 (bA .Is (pure v1) (pure .none)) (aV (af (pure .none) (af (pure (.bool false)) (pure [])))) (aV (af (aA (pure v1) (pure (.int 2))) (af (pure (.bool true)) (pure [])))))
def ir(x_self:V)(x_key:V):M ay:=
 cQ (fE "dict" (dK 156 (pure x_self) "entries") (af (bZ 156 "mark_of" (pure x_self) (af (pure x_key) (pure [])) dY) (pure [])) s9) (λv1=>yI v1)
abbrev fK:List V->M V:=fn 2 (m2 ir)
abbrev yN(x_self:V):M ay:=
 jY 156 (bM .Add (dK 156 (pure x_self) "coming") (pure (.int 1))) (pure x_self) "coming" (pure .next)
abbrev yZ(x_self:V)(x_key:V)(x_value:V)(v1:V):M ay:=
 Ic (aV (af (dK 156 (pure x_self) "coming") (af (pure x_key) (af (pure x_value) (pure []))))) (dK 156 (pure x_self) "entries") (pure v1) (yN x_self)
abbrev zf(x_self:V)(x_value:V)(v1:V)(v2:V):M ay:=
 Ic (aV (af (aA (pure v2) (pure (.int 0))) (af (aA (pure v2) (pure (.int 1))) (af (pure x_value) (pure []))))) (dK 156 (pure x_self) "entries") (pure v1) (pure .next)
abbrev zj(x_self:V)(x_key:V)(x_value:V)(v1:V)(v2:V):M ay:=
 eH (bA .Is (pure v2) (pure .none)) (yZ x_self x_key x_value v1) (zf x_self x_value v1 v2)
abbrev yK(x_self:V)(x_key:V)(x_value:V)(v1:V):M ay:=
 cQ (fE "dict" (dK 156 (pure x_self) "entries") (af (pure v1) (pure [])) s9) (λv2=>zj x_self x_key x_value v1 v2)
def ic(x_self:V)(x_key:V)(x_value:V):M ay:=
 cQ (bZ 156 "mark_of" (pure x_self) (af (pure x_key) (pure [])) dY) (λv1=>yK x_self x_key x_value v1)
abbrev cY:List V->M V:=fn 3 (m3 ic)
def gy(x_self:V)(x_key:V):M ay:=
 d7 (fE "dict" (dK 156 (pure x_self) "entries") (af (bZ 156 "mark_of" (pure x_self) (af (pure x_key) (pure [])) dY) (af (pure .none) (pure []))) AS) (pure .next)
abbrev dI:List V->M V:=fn 2 (m2 gy)
def jU(x_self:V):M ay:=
 K4 (dK 156 (pure x_self) "entries")
abbrev gz:List V->M V:=fn 1 (m1 jU)
abbrev rQ(x_self:V):M ay:=
 jY 197 (qp (.idd [] 0)) (pure x_self) "told" (pure .next)
abbrev rY(x_self:V)(x_table:V):M ay:=
 jY 197 (n9 (bA .Is (pure x_table) (pure .none)) (pure (.int 0)) (dK 156 (pure x_table) "coming")) (pure x_self) "end" (rQ x_self)
abbrev rB(x_self:V)(x_table:V):M ay:=
 jY 197 (pure (.none)) (pure x_self) "number" (rY x_self x_table)
def gP(x_self:V)(x_table:V):M ay:=
 jY 197 (pure x_table) (pure x_self) "table" (rB x_self x_table)
abbrev mQ:List V->M V:=fn 2 (m2 gP)
abbrev gk:List V->M V:=tg 197 mQ
abbrev uI(x_self:V):M ay:=
 jY 225 (pure (.int 0)) (pure x_self) "taken" (pure .next)
def iX(x_self:V)(x_row:V):M ay:=
 jY 225 (pure x_row) (pure x_self) "row" (uI x_self)
abbrev pL:List V->M V:=fn 2 (m2 iX)
abbrev lH:List V->M V:=tg 225 pL
abbrev uC(x_self:V)(x_many:V)(v1:V):M ay:=
 bz (n9 (bA .Lt (pure v1) (aG (pure (.bi "len")) (.bi "len") (af (dK 225 (pure x_self) "row") (pure [])) c8)) (bM .Mod (aA (dK 225 (pure x_self) "row") (pure v1)) (pure x_many)) (pure (.int 0)))
abbrev uz(x_self:V)(x_many:V)(v1:V):M ay:=
 jY 225 (bM .Add (pure v1) (pure (.int 1))) (pure x_self) "taken" (uC x_self x_many v1)
abbrev uv(x_self:V)(x_many:V):M ay:=
 cQ (dK 225 (pure x_self) "taken") (λv1=>uz x_self x_many v1)
def gF(x_self:V)(x_many:V):M ay:=
 eH (bA .LtE (pure x_many) (pure (.int 1))) (bz (pure (.int 0))) (uv x_self x_many)
abbrev gB:List V->M V:=fn 2 (m2 gF)
abbrev nH(x_self:V):M ay:=
 bz (fR (i9 (bZ 156 "rows" (dK 197 (pure x_self) "table") (pure []) gz)) cA (λp=>lT (bA .Lt (aA (pure p) (pure (.int 0))) (dK 197 (pure x_self) "end")) (lT (bA .NotIn (aA (pure p) (pure (.int 0))) (dK 197 (pure x_self) "told")) (pure true))) (λp=>pure p))
def fz(x_self:V):M ay:=
 eH (bA .Is (dK 197 (pure x_self) "table") (pure .none)) (bz (cG (pure []))) (nH x_self)
abbrev dG:List V->M V:=fn 1 (m1 fz)
abbrev oX(v2:V×V×V):M ay:=
 bz (aV (af (pure v2.2.1) (af (pure v2.2.2) (pure []))))
abbrev oY(x_self:V)(v2:V×V×V):M ay:=
 vp (pure (.bool true)) (dK 197 (pure x_self) "told") (pure v2.1) (oX v2)
abbrev ou(x_self:V)(x_choices:V)(v1:V):M ay:=
 lK (aA (pure v1) (bZ 225 "pick" (pure x_choices) (af (aG (pure (.bi "len")) (.bi "len") (af (pure v1) (pure [])) c8) (pure [])) gB)) jE (λv2=>oY x_self v2)
abbrev ow(x_self:V)(x_choices:V)(v1:V):M ay:=
 eH (bA .Eq (pure v1) (cG (pure []))) (bz (pure .none)) (ou x_self x_choices v1)
def dO(x_self:V)(x_choices:V):M ay:=
 cQ (bZ 197 "left_rows" (pure x_self) (pure []) dG) (λv1=>ow x_self x_choices v1)
abbrev bJ:List V->M V:=fn 2 (m2 dO)
abbrev z7(v1:V)(v2:V):M ay:=
 bz (cG (af (n9 (bA .GtE (pure v2) (bM .Pow (pure (.int 10)) (pure (.int 16)))) (pure v2) (pure (.int 0))) (af (bM .Mod (bM .Add (bM .Add (bM .Mult (bM .Mod (pure v2) (pure (.int 999727))) (pure (.int 4))) (aG (pure (.ty "int")) (.ty "int") (af (fU .Lt (pure v1) (pure (.int 0))) (pure [])) DZ)) (pure (.int 33))) (pure (.int 65497))) (pure []))))
abbrev A6(v1:V):M ay:=
 cQ (n9 (bA .GtE (pure v1) (pure (.int 0))) (pure v1) (bM .Sub (pure (.int 19)) (bM .Mult (pure (.int 2)) (pure v1)))) (λv2=>z7 v1 v2)
def lX(sc:Addr)(zs:List Int)(x_script:V):M ay:=
 cQ (n9 (bA .Gt (aG (pure (.bi "len")) (.bi "len") (af (pure x_script) (pure [])) (uX sc zs)) (pure (.int 0))) (zS sc zs (pure x_script) (pure (.int 0))) (pure (.int 0))) (λv1=>A6 v1)
abbrev qv(sc:Addr)(zs:List Int):List V->M V:=fn 1 (m1 (lX sc zs))
abbrev zg(x_reel:V)(x_many:V)(v1:V):M ay:=
 vp (bM .FloorDiv (aA (pure x_reel) (pure (.int 0))) (pure x_many)) (pure x_reel) (pure (.int 0)) (bz (pure v1))
abbrev yy(x_reel:V)(x_many:V):M ay:=
 cQ (bM .Mod (aA (pure x_reel) (pure (.int 0))) (pure x_many)) (λv1=>zg x_reel x_many v1)
abbrev yH(x_reel:V)(x_many:V):M ay:=
 bz (bM .Mod (bM .FloorDiv (aA (pure x_reel) (pure (.int 1))) (pure (.int 8))) (pure x_many))
abbrev yC(x_reel:V)(x_many:V):M ay:=
 vp (bM .Mod (bM .Add (bM .Mult (aA (pure x_reel) (pure (.int 1))) (pure (.int 205))) (pure (.int 9973))) (pure (.int 65497))) (pure x_reel) (pure (.int 1)) (yH x_reel x_many)
def lB(x_reel:V)(x_many:V):M ay:=
 eH (bA .Gt (aA (pure x_reel) (pure (.int 0))) (pure (.int 0))) (yy x_reel x_many) (yC x_reel x_many)
abbrev cD:List V->M V:=fn 2 (m2 lB)
abbrev BY(v3:V):M ay:=
 bz (bM .Add (pure v3) (cG (af (aV (af (pure (.str "face")) (af (aV (af (pure (.str "named")) (af (pure (.str "main.T")) (pure [])))) (af (aV (af (pure (.str "struct")) (af (aV (af (pure (.int 0)) (af (pure (.bytes #[97])) (pure [])))) (pure [])))) (pure []))))) (pure []))))
abbrev Bl(v2:V):M ay:=
 cQ (bM .Add (pure v2) (cG (af (aV (af (pure (.str "struct")) (af (aV (af (aV (af (pure (.str "array")) (af (aV (af (pure (.int 1)) (af (pure (.int 2)) (pure [])))) (pure [])))) (af (pure (.int 3)) (pure [])))) (pure [])))) (af (aV (af (pure (.str "struct")) (af (aV (af (aV (af (pure (.str "array")) (af (aV (af (pure (.int 1)) (pure []))) (pure [])))) (af (pure (.int 2)) (af (pure (.int 3)) (pure []))))) (pure [])))) (pure []))))) (λv3=>BY v3)
abbrev Bt(v1:V):M ay:=
 cQ (bM .Add (pure v1) (cG (af (aV (af (pure (.str "ptr")) (af (pure (.int 3)) (af (aV (af (pure (.int 1)) (pure []))) (pure []))))) (af (aV (af (pure (.str "ptr")) (af (pure (.int 3)) (af (aV (pure [])) (pure []))))) (af (aV (af (pure (.str "struct")) (af (aV (af (pure (.int 1)) (af (pure (.bool true)) (pure [])))) (pure [])))) (af (aV (af (pure (.str "struct")) (af (aV (af (pure (.int 1)) (af (pure (.int 1)) (pure [])))) (pure [])))) (af (aV (af (pure (.str "array")) (af (aV (af (pure (.int 1)) (af (pure (.bool true)) (pure [])))) (pure [])))) (pure [])))))))) (λv2=>Bl v2)
def lV:M ay:=
 cQ (cG (af (aV (af (pure (.str "face")) (af (aV (af (pure (.str "int")) (af (pure (.str "int")) (pure [])))) (af (pure (.int 1)) (pure []))))) (af (aV (af (pure (.str "face")) (af (aV (af (pure (.str "int")) (af (pure (.str "int8")) (pure [])))) (af (pure (.int 1)) (pure []))))) (af (aV (af (pure (.str "face")) (af (aV (af (pure (.str "bool")) (pure []))) (af (pure (.bool true)) (pure []))))) (af (pure (.bytes #[97])) (af (pure (.bytes #[])) (af (pure .none) (pure [])))))))) (λv1=>Bt v1)
abbrev j3:List V->M V:=fn 0 (m0 lV)
def k9:M ay:=
 bz (cG (af (aV (af (pure (.str "struct")) (af (aV (af (pure (.int 1)) (af (aV (af (pure (.str "slice")) (af (pure (.int 4)) (af (pure (.int 0)) (af (pure (.int 1)) (af (pure (.int 1)) (pure []))))))) (pure [])))) (pure [])))) (af (aV (af (pure (.str "face")) (af (aV (af (pure (.str "func")) (af (aV (pure [])) (af (aV (pure [])) (af (pure (.bool false)) (pure [])))))) (af (pure .none) (pure []))))) (af (aV (af (pure (.str "map")) (af (pure (.int 2)) (pure [])))) (pure [])))))
abbrev oH:List V->M V:=fn 0 (m0 k9)
abbrev uw(v1:V)(v2:V×V×V×V×V):M ay:=
 vp (aV (af (n9 (bA .In (pure v2.2.2.1) (pure v1)) (aA (aA (pure v1) (pure v2.2.2.1)) (pure (.int 0))) (pure v2.1)) (af (pure v2.2.2.2.1) (pure [])))) (pure v1) (pure v2.2.2.1) (pure .next)
abbrev uh(v1:V)(v2:V×V×V×V×V):M ay:=
 d7 (fE "dict" (pure v1) (af (pure v2.2.2.1) (af (pure .none) (pure []))) Dt) (pure .next)
abbrev uO(x_n:V)(v1:V)(v2:V×V×V×V×V):M ay:=
 eH (bA .Eq (pure v2.2.1) (pure x_n)) (uh v1 v2) (pure .next)
abbrev ud(x_n:V)(v1:V)(v2:V×V×V×V×V):M ay:=
 eH (lT (bA .Eq (pure v2.2.1) (pure x_n)) (lT (jF (pure v2.2.2.2.2)) (pure true))) (uw v1 v2) (uO x_n v1 v2)
abbrev uN(x_log:V)(x_n:V)(v1:V):M ay:=
 oE (HX (af (pure x_log) (pure []))) zA (λv2=>ud x_n v1 v2) (bz (pure v1))
def iV(x_log:V)(x_n:V):M ay:=
 cQ (qp (.idd [] 0)) (λv1=>uN x_log x_n v1)
abbrev fL:List V->M V:=fn 2 (m2 iV)
abbrev z6(x_walk:V)(v2:V):M ay:=
 bz (fR (i9 (pure v2)) cA (λp=>lT (bA .Lt (aA (pure p) (pure (.int 2))) (aA (pure x_walk) (pure (.int 2)))) (lT (bA .NotIn (aA (pure p) (pure (.int 2))) (aA (pure x_walk) (pure (.int 3)))) (pure true))) (λp=>pure p))
abbrev A8(x_walk:V)(v1:V):M ay:=
 cQ (fR (i9 (pure v1)) cA (λp=>pure true) (λp=>aV (af (pure p) (af (aA (aA (pure v1) (pure p)) (pure (.int 1))) (af (aA (aA (pure v1) (pure p)) (pure (.int 0))) (pure [])))))) (λv2=>z6 x_walk v2)
def mj(x_walk:V)(x_log:V):M ay:=
 cQ (aG (pure (.ref 271)) (.ref 271) (af (pure x_log) (af (aA (pure x_walk) (pure (.int 1))) (pure []))) fL) (λv1=>A8 x_walk v1)
abbrev gb:List V->M V:=fn 2 (m2 mj)
abbrev wo(x_book:V)(v3:V)(v4:V×V×V):M ay:=
 bz (Bm (fU .Eq (pure v3) (aV (af (aA (aA (pure x_book) (pure (.str "keys"))) (pure v4.1)) (af (pure v4.2.1) (pure []))))) (fU .Eq (dK 225 (aA (pure x_book) (pure (.str "choices"))) "taken") (aA (pure x_book) (pure (.str "at")))))
abbrev vK(x_book:V)(x_walk:V)(v3:V)(v4:V×V×V):M ay:=
 d7 (fE "list" (aA (pure x_walk) (pure (.int 3))) (af (pure v4.2.2) (pure [])) cB) (wo x_book v3 v4)
abbrev vW(x_book:V)(x_walk:V)(v1:V×V)(v2:V)(v3:V):M ay:=
 lK (aA (pure v1.1) (pure v2)) jE (λv4=>vK x_book x_walk v3 v4)
abbrev vS(x_book:V)(x_walk:V)(v1:V×V)(v2:V)(v3:V):M ay:=
 eH (bA .Eq (pure v1.1) (cG (pure []))) (bz (fU .Is (pure v3) (pure .none))) (vW x_book x_walk v1 v2 v3)
abbrev uS(x_book:V)(x_walk:V)(v1:V×V)(v2:V):M ay:=
 cQ (bZ 197 "next_row" (aA (pure x_walk) (pure (.int 0))) (af (aA (pure x_book) (pure (.str "choices"))) (pure [])) bJ) (λv3=>vS x_book x_walk v1 v2 v3)
abbrev vz(x_book:V)(x_walk:V)(v1:V×V)(v2:V):M ay:=
 vp (bM .Add (aA (pure x_book) (pure (.str "at"))) (pure (.int 1))) (pure x_book) (pure (.str "at")) (uS x_book x_walk v1 v2)
abbrev vo(x_book:V)(x_walk:V)(v1:V×V):M ay:=
 cQ (bM .Mod (n9 (bA .Lt (aA (pure x_book) (pure (.str "at"))) (aG (pure (.bi "len")) (.bi "len") (af (aA (pure x_book) (pure (.str "row"))) (pure [])) c8)) (aA (aA (pure x_book) (pure (.str "row"))) (aA (pure x_book) (pure (.str "at")))) (pure (.int 0))) (aG (pure (.bi "len")) (.bi "len") (af (pure v1.1) (pure [])) c8)) (λv2=>vz x_book x_walk v1 v2)
abbrev vQ(x_book:V)(v5:V)(v6:V×V×V):M ay:=
 bz (Bm (fU .Eq (pure v5) (aV (af (aA (aA (pure x_book) (pure (.str "keys"))) (pure v6.1)) (af (pure v6.2.1) (pure []))))) (fU .Eq (dK 225 (aA (pure x_book) (pure (.str "choices"))) "taken") (aA (pure x_book) (pure (.str "at")))))
abbrev vL(x_book:V)(x_walk:V)(v5:V)(v6:V×V×V):M ay:=
 d7 (fE "list" (aA (pure x_walk) (pure (.int 3))) (af (pure v6.2.2) (pure [])) cB) (vQ x_book v5 v6)
abbrev uo(x_book:V)(x_walk:V)(v1:V×V)(v5:V):M ay:=
 lK (aA (pure v1.1) (pure v1.2)) jE (λv6=>vL x_book x_walk v5 v6)
abbrev uG(x_book:V)(x_walk:V)(v1:V×V)(v5:V):M ay:=
 eH (bA .Eq (pure v1.1) (cG (pure []))) (bz (fU .Is (pure v5) (pure .none))) (uo x_book x_walk v1 v5)
abbrev uy(x_book:V)(x_walk:V)(v1:V×V):M ay:=
 cQ (bZ 197 "next_row" (aA (pure x_walk) (pure (.int 0))) (af (aA (pure x_book) (pure (.str "choices"))) (pure [])) bJ) (λv5=>uG x_book x_walk v1 v5)
abbrev t8(x_book:V)(x_walk:V)(v1:V×V):M ay:=
 eH (bA .Gt (aG (pure (.bi "len")) (.bi "len") (af (pure v1.1) (pure [])) c8) (pure (.int 1))) (vo x_book x_walk v1) (uy x_book x_walk v1)
def jl(x_book:V)(x_walk:V):M ay:=
 lK (aV (af (aG (pure (.ref 276)) (.ref 276) (af (pure x_walk) (af (aA (pure x_book) (pure (.str "log"))) (pure []))) gb) (af (pure (.int 0)) (pure [])))) lP (λv1=>t8 x_book x_walk v1)
abbrev fZ:List V->M V:=fn 2 (m2 jl)
abbrev w6(v1:V)(v2:V×V)(v3:V):M ay:=
 eH (kF (bA .NotEq (bZ 156 "size" (pure v2.2) (pure []) jW) (aG (pure (.bi "len")) (.bi "len") (af (pure v3) (pure [])) c8)) (kF (bA .NotEq (fR (i9 (bZ 156 "rows" (pure v2.2) (pure []) gz)) cA (λp=>pure true) (λp=>pe (pure p))) (fR (i9 (pure v3)) cA (λp=>pure true) (λp=>aV (af (aA (pure v1) (pure p)) (af (aA (aA (pure v3) (pure p)) (pure (.int 1))) (pure [])))))) (pure false))) (bz (pure (.bool false))) (pure .next)
abbrev xm(x_book:V)(v1:V)(v2:V×V):M ay:=
 cQ (aG (pure (.ref 271)) (.ref 271) (af (aA (pure x_book) (pure (.str "log"))) (af (pure v2.1) (pure []))) fL) (λv3=>w6 v1 v2 v3)
abbrev wZ(v4:V)(v5:V):M ay:=
 eH (bA .NotEq (fR (i9 (bZ 197 "left_rows" (aA (pure v4) (pure (.int 0))) (pure []) dG)) cA (λp=>pure true) (λp=>pe (pure p))) (pure v5)) (bz (pure (.bool false))) (pure .next)
abbrev wL(x_book:V)(v1:V)(v4:V):M ay:=
 cQ (fR (i9 (aG (pure (.ref 276)) (.ref 276) (af (pure v4) (af (aA (pure x_book) (pure (.str "log"))) (pure []))) gb)) jE (λp=>pure true) (λp=>aV (af (aA (pure v1) (pure p.1)) (af (pure p.2.1) (pure []))))) (λv5=>wZ v4 v5)
abbrev xh(x_book:V)(v1:V):M ay:=
 oE (i9 (aA (pure x_book) (pure (.str "walks")))) cA (λv4=>wL x_book v1 v4) (bz (pure (.bool true)))
abbrev w7(x_book:V)(v1:V):M ay:=
 oE (HX (af (aA (pure x_book) (pure (.str "tables"))) (pure []))) lP (λv2=>xm x_book v1 v2) (xh x_book v1)
def j8(x_book:V):M ay:=
 cQ (aA (pure x_book) (pure (.str "keys"))) (λv1=>w7 x_book v1)
abbrev kq:List V->M V:=fn 1 (m1 j8)
abbrev qO(x_book:V)(x_n:V)(x_place:V)(v2:V):M ay:=
 bz (fU .Eq (bZ 156 "get" (aA (aA (pure x_book) (pure (.str "tables"))) (pure x_n)) (af (aA (aA (pure x_book) (pure (.str "keys"))) (pure x_place)) (pure [])) fK) (pure v2))
abbrev qL(x_book:V)(x_n:V)(x_place:V)(v1:V):M ay:=
 cQ (n9 (bA .In (pure x_place) (pure v1)) (aV (af (aA (aA (pure v1) (pure x_place)) (pure (.int 1))) (af (pure (.bool true)) (pure [])))) (aV (af (pure .none) (af (pure (.bool false)) (pure []))))) (λv2=>qO x_book x_n x_place v2)
def gr(x_book:V)(x_n:V)(x_place:V):M ay:=
 cQ (aG (pure (.ref 271)) (.ref 271) (af (aA (pure x_book) (pure (.str "log"))) (af (pure x_n) (pure []))) fL) (λv1=>qL x_book x_n x_place v1)
abbrev bQ:List V->M V:=fn 3 (m3 gr)
abbrev wA(v1:V):M ay:=
 bz (fU .Eq (pure v1) (bM .Mult (cG (af (pure (.bytes #[104,97,115,104,32,111,102,32,117,110,104,97,115,104,97,98,108,101,32,116,121,112,101])) (pure []))) (pure (.int 3))))
abbrev vj(x_table:V)(x_key:V)(v1:V):M ay:=
 I0 297 64 "_law_refused.<locals>.<lambda>" (λv=>d7 (fE "list" (pure v1) (af (aA (Fc 64 (pure v) "value") (pure (.int 2))) (pure [])) cB) (pure .next)) [(⟨178,0,178,22⟩,bZ 156 "get" (pure x_table) (af (pure x_key) (pure [])) fK),(⟨179,0,179,25⟩,bZ 156 "put" (pure x_table) (af (pure x_key) (af (pure (.int 1)) (pure []))) cY),(⟨180,0,180,25⟩,bZ 156 "remove" (pure x_table) (af (pure x_key) (pure [])) dI)] (wA v1)
def jm(x_table:V)(x_key:V):M ay:=
 cQ (cG (pure [])) (λv1=>vj x_table x_key v1)
abbrev lN:List V->M V:=fn 2 (m2 jm)
abbrev BC(x_book:V)(v1:V×V×V):M ay:=
 bz (aG (pure (.ref 295)) (.ref 295) (af (pure x_book) (af (pure v1.1) (af (pure v1.2.2) (pure [])))) bQ)
abbrev AG(x_book:V)(v1:V×V×V)(v3:V):M ay:=
 d7 (fE "list" (aA (pure x_book) (pure (.str "log"))) (af (aV (af (pure v1.1) (af (pure v1.2.2) (af (pure v3) (af (pure (.bool true)) (pure [])))))) (pure [])) cB) (BC x_book v1)
abbrev Bc(x_book:V)(v1:V×V×V)(v2:V×V)(v3:V):M ay:=
 d7 (bZ 156 "put" (pure v2.1) (af (pure v2.2) (af (pure v3) (pure []))) cY) (AG x_book v1 v3)
abbrev Ar(x_reel:V)(x_book:V)(x_turn:V)(v1:V×V×V)(v2:V×V):M ay:=
 cQ (n9 (bA .Eq (aG (pure (.ref 243)) (.ref 243) (af (pure x_reel) (af (pure (.int 5)) (pure []))) cD) (pure (.int 0))) (pure .none) (pure x_turn)) (λv3=>Bc x_book v1 v2 v3)
abbrev BX(x_book:V)(v1:V×V×V):M ay:=
 bz (aG (pure (.ref 295)) (.ref 295) (af (pure x_book) (af (pure v1.1) (af (pure v1.2.2) (pure [])))) bQ)
abbrev Bu(x_book:V)(v1:V×V×V):M ay:=
 d7 (fE "list" (aA (pure x_book) (pure (.str "log"))) (af (aV (af (pure v1.1) (af (pure v1.2.2) (af (pure .none) (af (pure (.bool false)) (pure [])))))) (pure [])) cB) (BX x_book v1)
abbrev Bp(x_book:V)(v1:V×V×V)(v2:V×V):M ay:=
 d7 (bZ 156 "remove" (pure v2.1) (af (pure v2.2) (pure [])) dI) (Bu x_book v1)
abbrev AI(v1:V×V×V)(v2:V×V):M ay:=
 bz (aG (pure (.ref 302)) (.ref 302) (af (pure v2.1) (af (aA (aG (pure (.ref 264)) (.ref 264) (pure []) oH) (bM .Mod (pure v1.2.2) (pure (.int 3)))) (pure []))) lN)
abbrev By(x_book:V)(v1:V×V×V):M ay:=
 bz (aG (pure (.ref 295)) (.ref 295) (af (pure x_book) (af (pure v1.1) (af (pure v1.2.2) (pure [])))) bQ)
abbrev yJ(x_book:V)(v1:V×V×V)(v2:V×V):M ay:=
 d7 (fE "list" (aA (pure x_book) (pure (.str "walks"))) (af (cG (af (aG (pure (.ref 197)) (.ref 197) (af (pure v2.1) (pure [])) gk) (af (pure v1.1) (af (aG (pure (.bi "len")) (.bi "len") (af (aA (pure x_book) (pure (.str "log"))) (pure [])) c8) (af (cG (pure [])) (pure [])))))) (pure [])) cB) (By x_book v1)
abbrev yE(x_reel:V)(x_book:V):M ay:=
 bz (aG (pure (.ref 283)) (.ref 283) (af (pure x_book) (af (aA (aA (pure x_book) (pure (.str "walks"))) (aG (pure (.ref 243)) (.ref 243) (af (pure x_reel) (af (aG (pure (.bi "len")) (.bi "len") (af (aA (pure x_book) (pure (.str "walks"))) (pure [])) c8) (pure []))) cD)) (pure []))) fZ)
abbrev za(x_reel:V)(x_book:V)(v1:V×V×V)(v2:V×V):M ay:=
 eH (kF (bA .Eq (aA (pure x_book) (pure (.str "walks"))) (cG (pure []))) (kF (lT (bA .Eq (pure v1.2.1) (pure (.int 6))) (lT (bA .Lt (aG (pure (.bi "len")) (.bi "len") (af (aA (pure x_book) (pure (.str "walks"))) (pure [])) c8) (pure (.int 3))) (pure true))) (pure false))) (yJ x_book v1 v2) (yE x_reel x_book)
abbrev yM(x_reel:V)(x_book:V)(v1:V×V×V)(v2:V×V):M ay:=
 eH (bA .Eq (pure v1.2.1) (pure (.int 5))) (AI v1 v2) (za x_reel x_book v1 v2)
abbrev zo(x_reel:V)(x_book:V)(v1:V×V×V)(v2:V×V):M ay:=
 eH (bA .Eq (pure v1.2.1) (pure (.int 4))) (Bp x_book v1 v2) (yM x_reel x_book v1 v2)
abbrev zm(x_reel:V)(x_book:V)(x_turn:V)(v1:V×V×V)(v2:V×V):M ay:=
 eH (bA .Lt (pure v1.2.1) (pure (.int 4))) (Ar x_reel x_book x_turn v1 v2) (zo x_reel x_book v1 v2)
abbrev yw(x_reel:V)(x_book:V)(x_turn:V)(v1:V×V×V):M ay:=
 lK (aV (af (aA (aA (pure x_book) (pure (.str "tables"))) (pure v1.1)) (af (aA (aA (pure x_book) (pure (.str "keys"))) (pure v1.2.2)) (pure [])))) lP (λv2=>zm x_reel x_book x_turn v1 v2)
def l6(x_reel:V)(x_book:V)(x_turn:V):M ay:=
 lK (aV (af (aG (pure (.ref 243)) (.ref 243) (af (pure x_reel) (af (pure (.int 2)) (pure []))) cD) (af (aG (pure (.ref 243)) (.ref 243) (af (pure x_reel) (af (pure (.int 9)) (pure []))) cD) (af (aG (pure (.ref 243)) (.ref 243) (af (pure x_reel) (af (pure (.int 5)) (pure []))) cD) (pure []))))) jE (λv1=>yw x_reel x_book x_turn v1)
abbrev l5:List V->M V:=fn 3 (m3 l6)
abbrev qK(v1:V×V):M ay:=
 bz (Bm (fU .Is (bZ 197 "next_row" (aG (pure (.ref 197)) (.ref 197) (af (pure .none) (pure [])) gk) (af (pure v1.2) (pure [])) bJ) (pure .none)) (fU .Eq (fR (i9 (bZ 156 "rows" (pure v1.1) (pure []) gz)) cA (λp=>pure true) (λp=>pe (pure p))) (cG (af (aV (af (pure (.bytes #[97])) (af (pure (.int 1)) (pure [])))) (af (aV (af (pure (.bytes #[98])) (af (pure (.int 2)) (pure [])))) (pure []))))))
abbrev qP(v1:V×V)(v2:V):M ay:=
 eH (kF (bA .NotEq (bZ 197 "next_row" (pure v2) (af (pure v1.2) (pure [])) bJ) (aV (af (pure (.bytes #[97])) (af (pure (.int 1)) (pure []))))) (kF (bA .IsNot (bZ 197 "next_row" (pure v2) (af (pure v1.2) (pure [])) bJ) (pure .none)) (pure false))) (bz (pure (.bool false))) (qK v1)
abbrev qM(v1:V×V)(v2:V):M ay:=
 d7 (bZ 156 "put" (pure v1.1) (af (pure (.bytes #[98])) (af (pure (.int 2)) (pure []))) cY) (qP v1 v2)
abbrev qQ(v1:V×V):M ay:=
 cQ (aG (pure (.ref 197)) (.ref 197) (af (pure v1.1) (pure [])) gk) (λv2=>qM v1 v2)
abbrev qN(v1:V×V):M ay:=
 d7 (bZ 156 "put" (pure v1.1) (af (pure (.bytes #[97])) (af (pure (.int 1)) (pure []))) cY) (qQ v1)
def jb:M ay:=
 lK (aV (af (aG (pure (.ref 156)) (.ref 156) (af (pure (.ref 250)) (pure [])) kH) (af (aG (pure (.ref 225)) (.ref 225) (af (cG (pure [])) (pure [])) lH) (pure [])))) lP (λv1=>qN v1)
abbrev gq:List V->M V:=fn 0 (m0 jb)
abbrev Jc(v1:V)(v3:V)(v4:V):M ay:=
 eH (kF (m8 (jF (aG (pure (.ref 309)) (.ref 309) (af (pure v1) (af (pure v3) (af (pure v4) (pure [])))) l5))) (kF (m8 (jF (aG (pure (.ref 288)) (.ref 288) (af (pure v3) (pure [])) kq))) (pure false))) (bz (pure (.bool false))) (pure .next)
abbrev IP(v3:V)(v5:V):M ay:=
 eH (m8 (jF (aG (pure (.ref 283)) (.ref 283) (af (pure v3) (af (pure v5) (pure []))) fZ))) (bz (pure (.bool false))) (pure .next)
abbrev Ip(v3:V)(v5:V):M ay:=
 oE (gv (af (bM .Add (aG (pure (.bi "len")) (.bi "len") (af (aG (pure (.ref 276)) (.ref 276) (af (pure v5) (af (aA (pure v3) (pure (.str "log"))) (pure []))) gb) (pure [])) c8) (pure (.int 2))) (pure []))) cA (λv6=>IP v3 v5) (pure .next)
abbrev Ja(v3:V):M ay:=
 bz (fU .Eq (EP (gv (af (pure (.int 2)) (pure []))) (λu=>gv (af (pure (.int 5)) (pure []))) (λu p=>m8 (jF (aG (pure (.ref 295)) (.ref 295) (af (pure v3) (af (pure u) (af (pure p) (pure [])))) bQ))) (λu p=>pure (.int 1))) (cG (pure [])))
abbrev IA(v3:V):M ay:=
 oE (i9 (aA (pure v3) (pure (.str "walks")))) cA (λv5=>Ip v3 v5) (Ja v3)
abbrev IK(v1:V)(v3:V):M ay:=
 oE (gv (af (bM .Add (pure (.int 5)) (aG (pure (.ref 243)) (.ref 243) (af (pure v1) (af (pure (.int 7)) (pure []))) cD)) (pure []))) cA (λv4=>Jc v1 v3 v4) (IA v3)
abbrev Jh(v1:V)(v3:V):M ay:=
 d7 (fE "dict" (pure v3) (af (HZ ["tables","log","walks","at"] (af (cG (af (aG (pure (.ref 156)) (.ref 156) (af (pure (.ref 250)) (pure [])) kH) (af (aG (pure (.ref 156)) (.ref 156) (af (pure (.ref 250)) (pure [])) kH) (pure [])))) (af (cG (pure [])) (af (cG (pure [])) (af (pure (.int 0)) (pure [])))))) (pure [])) sI) (IK v1 v3)
abbrev IQ(v1:V)(v2:V×V):M ay:=
 cQ (HZ ["keys","row","choices"] (af (fR (gv (af (pure (.int 5)) (pure []))) cA (λp=>pure true) (λp=>aA (aG (pure (.ref 257)) (.ref 257) (pure []) j3) (bM .Mod (bM .Add (pure v2.1) (bM .Mult (pure (.int 3)) (pure p))) (pure (.int 14))))) (af (pure v2.2) (af (aG (pure (.ref 225)) (.ref 225) (af (pure v2.2) (pure [])) lH) (pure []))))) (λv3=>Jh v1 v3)
abbrev IG(v1:V):M ay:=
 lK (aV (af (aG (pure (.ref 243)) (.ref 243) (af (pure v1) (af (pure (.int 14)) (pure []))) cD) (af (fR (gv (af (aG (pure (.ref 243)) (.ref 243) (af (pure v1) (af (pure (.int 6)) (pure []))) cD) (pure []))) cA (λp=>pure true) (λp=>aG (pure (.ref 243)) (.ref 243) (af (pure v1) (af (pure (.int 6)) (pure []))) cD)) (pure [])))) lP (λv2=>IQ v1 v2)
abbrev Gu(sc:Addr)(zs:List Int)(x_script:V):M ay:=
 cQ (aG (pure (.ref 236)) (.ref 236) (af (pure x_script) (pure [])) (qv sc zs)) (λv1=>IG v1)
abbrev Gp(sc:Addr)(zs:List Int)(x_script:V):M ay:=
 eH (kF (bA .Eq (aG (pure (.bi "len")) (.bi "len") (af (pure x_script) (pure [])) (uX sc zs)) (pure (.int 0))) (kF (bA .Eq (zS sc zs (pure x_script) (pure (.int 0))) (pure (.int 0))) (pure false))) (bz (pure (.bool true))) (Gu sc zs x_script)
def zF(sc:Addr)(zs:List Int)(x_script:V):M ay:=
 eH (m8 (jF (aG (pure (.ref 314)) (.ref 314) (pure []) gq))) (bz (pure (.bool false))) (Gp sc zs x_script)
abbrev zB(sc:Addr)(zs:List Int):List V->M V:=fn 1 (m1 (zF sc zs))
section
variable{prog:Program}{w:World}{base:Heap}{n:Nat}{env:Env}{le keep:List (Str×V)}{mg mb:Str->Option Value}
theorem uD(G:Gd (KK w) mg mb base):gO prog w base 2 (.ref 29) jt:=by
 refine' jT G (n:=1) (names:=["self","message","spot"]) (k:=2) (defs:=[.int 0]) (m:=m2 gJ) (ho:=rfl) (hcd:=rfl) (hbind:=?hb) (hloc:=(by decide)) (hb:=?body) rfl rfl rfl (by decide) (by decide)
 case hb=>
  intro ρ s l xs X r hl;obtain⟨a,b,rfl⟩:=dg hl;refine r.bf λx1 xs1 q0 r=>?_;refine r.bf λx2 xs2 q1 r=>?_;cases r;exact⟨_,kp_binds X (λS=>rfl),.cons q0 (.cons q1 (.cons (.int 0 _) .nil))⟩
 case body=>
  intro l L hl;obtain⟨x_self,x_message,rfl⟩:=dg hl;show aJ _ _ _ _ _ _ _ _ (gJ x_self x_message);refine' cC ?hh ?he
  case hh=>
   refine' bH ?g1 ?g2 rfl rfl
   case g1=>refine' CJ G (T:="Exception") (id:="Exception.__init__") (m:=0) rfl rfl (DC (w:=w)) rfl (AN G rfl) (aa az (ah rfl rfl rfl) (aa az (ah rfl rfl rfl) aj)) (Bx G J4 KO) (LI _) rfl rfl
   case g2=>
    refine' vM G (c:=64) (yW (w:=w)) (ah rfl rfl rfl) (ah rfl rfl rfl) ?g11 rfl rfl
    case g11=>refine' o9 G (c:=64) (Em (w:=w)) (ah rfl rfl rfl) (ah rfl rfl rfl) (bT bW) rfl rfl
  case he=>exact rfl
theorem xy(G:Gd (KK w) mg mb base):gO prog w base 3 (.ref 61) kO:=by
 refine' jT G (n:=2) (names:=["self","value"]) (k:=2) (defs:=[]) (m:=m2 iZ) (ho:=rfl) (hcd:=rfl) (hbind:=?hb) (hloc:=(by decide)) (hb:=?body) rfl rfl rfl (by decide) (by decide)
 case hb=>
  intro ρ s l xs X r hl;obtain⟨a,b,rfl⟩:=dg hl;refine⟨xs,LR ?_,by simpa using r⟩;refine r.bf λx3 xs3 q0 r=>?_;refine r.bf λx4 xs4 q1 r=>?_;cases r;rfl
 case body=>
  intro l L hl;obtain⟨x_self,x_value,rfl⟩:=dg hl;show aJ _ _ _ _ _ _ _ _ (iZ x_self x_value);refine' cC ?hh ?he
  case hh=>
   refine' bH ?g1 ?g2 rfl rfl
   case g1=>refine' DV G (c:=32) (f:=29) (mc:=.type "type") (Il (w:=w)) (K9 (w:=w)) (z9 G rfl) (aa az (ah rfl rfl rfl) (aa ao av aj)) (uD G).f (by lia) rfl rfl
   case g2=>refine' o9 G (c:=64) (B5 (w:=w)) (ah rfl rfl rfl) (ah rfl rfl rfl) (bT bW) rfl rfl
  case he=>exact rfl
theorem Fx(G:Gd (KK w) mg mb base):bC prog w base 4 (.ref 64) rI:=
 (AK G (K:=KK w) (fI:=61) ⟨_,_,_,_,rfl,rfl,rfl,rfl,rfl,rfl,rfl,rfl,rfl,rfl,rfl⟩ rfl rfl (xy G)).f
theorem vg(G:Gd (KK w) mg mb base):bC prog w base 5 (.ref 74) fq:=by
 refine' cg G (n:=4) (names:=["text"]) (k:=1) (defs:=[]) (m:=m1 iA) (ho:=rfl) (hcd:=rfl) (hbind:=?hb) (hloc:=(by decide)) (hb:=?body) rfl rfl rfl (by decide) (by decide)
 case hb=>
  intro ρ s l xs X r hl;obtain⟨a,rfl⟩:=jG hl;refine⟨xs,LR ?_,by simpa using r⟩;refine r.bf λx5 xs5 q0 r=>?_;cases r;rfl
 case body=>
  intro l L hl;obtain⟨x_text,rfl⟩:=jG hl;show aJ _ _ _ _ _ _ _ _ (iA x_text);refine' cC ?hh ?he
  case hh=>
   refine' aF ?g1
   case g1=>
    refine' aI G (vf:=.ref 64) (DK G rfl) ?g3 (Fx G) (by lia) (KJ (w:=w)) rfl rfl rfl
    case g3=>
     refine' aa aR ?g4 aj
     case g4=>
      refine' aH ?g6 (LD rfl)
      case g6=>refine' aa ao av (aa az (t7 G rfl) (aa cZ (cN G (T:="str") (id:="str.encode") (m:=0) PySem.F.plainAttrs_str PySem.F.slot_str_encode rfl (ah rfl rfl rfl) (aa ao av aj) Cg (LI _) rfl rfl) aj))
  case he=>exact rfl
theorem D5(G:Gd (KK w) mg mb base):bC prog w base 2 (.ref 82) l8:=by
 refine' cg G (n:=1) (names:=["many","most"]) (k:=2) (defs:=[]) (m:=m2 l7) (ho:=rfl) (hcd:=rfl) (hbind:=?hb) (hloc:=(by decide)) (hb:=?body) rfl rfl rfl (by decide) (by decide)
 case hb=>
  intro ρ s l xs X r hl;obtain⟨a,b,rfl⟩:=dg hl;refine⟨xs,LR ?_,by simpa using r⟩;refine r.bf λx6 xs6 q0 r=>?_;refine r.bf λx7 xs7 q1 r=>?_;cases r;rfl
 case body=>
  intro l L hl;obtain⟨x_many,x_most,rfl⟩:=dg hl;show aJ _ _ _ _ _ _ _ _ (l7 x_many x_most);refine' cC ?hh ?he
  case hh=>refine' bD (aQ (ah rfl rfl rfl) (fX (aQ (ah rfl rfl rfl) bg rfl) (yP G rfl) (ah rfl rfl rfl)) rfl) Je (bT bW)
  case he=>exact rfl
theorem Co(G:Gd (KK w) mg mb base):bC prog w base 2 (.ref 89) k7:=by
 refine' cg G (n:=1) (names:=["value"]) (k:=1) (defs:=[]) (m:=m1 k8) (ho:=rfl) (hcd:=rfl) (hbind:=?hb) (hloc:=(by decide)) (hb:=?body) rfl rfl rfl (by decide) (by decide)
 case hb=>
  intro ρ s l xs X r hl;obtain⟨a,rfl⟩:=jG hl;refine⟨xs,LR ?_,by simpa using r⟩;refine r.bf λx8 xs8 q0 r=>?_;cases r;rfl
 case body=>
  intro l L hl;obtain⟨x_value,rfl⟩:=jG hl;show aJ _ _ _ _ _ _ _ _ (k8 x_value);refine' cC ?hh ?he
  case hh=>
   refine' bD (aQ (ah rfl rfl rfl) bg rfl) ?g2 ?g3
   case g2=>refine' aF av
   case g3=>
    refine' bD (gj (aI G (vf:=.bi "isinstance") (m:=0) (lR G rfl) (aa az (ah rfl rfl rfl) (aa az (Jt G rfl) aj)) ur (LI _) rfl rfl rfl rfl) rfl) ?g8 ?g9
    case g8=>refine' aF av
    case g9=>
     refine' bD (gj (aI G (vf:=.bi "isinstance") (m:=0) (lR G rfl) (aa az (ah rfl rfl rfl) (aa az (FN G rfl) aj)) ur (LI _) rfl rfl rfl rfl) rfl) ?g19 ?g20
     case g19=>refine' aF av
     case g20=>
      refine' aF ?g29
      case g29=>refine' fX (gj (aI G (vf:=.bi "isinstance") (m:=0) (lR G rfl) (aa az (ah rfl rfl rfl) (aa az (HG G rfl) aj)) ur (LI _) rfl rfl rfl rfl) rfl) av (aB (ah rfl rfl rfl) ak rfl (λu u=>⟨_,rfl⟩))
  case he=>exact rfl
theorem FG(G:Gd (KK w) mg mb base):bC prog w base 2 (.ref 250) nM:=by
 refine' cg G (n:=1) (names:=["told"]) (k:=1) (defs:=[]) (m:=m1 nR) (ho:=rfl) (hcd:=rfl) (hbind:=?hb) (hloc:=(by decide)) (hb:=?body) rfl rfl rfl (by decide) (by decide)
 case hb=>
  intro ρ s l xs X r hl;obtain⟨a,rfl⟩:=jG hl;refine⟨xs,LR ?_,by simpa using r⟩;refine r.bf λx9 xs9 q0 r=>?_;cases r;rfl
 case body=>
  intro l L hl;obtain⟨x_told,rfl⟩:=jG hl;show aJ _ _ _ _ _ _ _ _ (nR x_told);refine' cC ?hh ?he
  case hh=>refine' aF (eO (aB (ah rfl rfl rfl) ak rfl (λu u=>⟨_,rfl⟩)) av rfl)
  case he=>exact rfl
theorem Cs(G:Gd (KK w) mg mb base):bC prog w base 6 (.ref 97) oZ:=by
 refine' cg G (n:=5) (names:=["value","may_compare","most"]) (k:=2) (defs:=[.none]) (m:=m2 lA) (ho:=rfl) (hcd:=rfl) (hbind:=?hb) (hloc:=(by decide)) (hb:=?body) rfl rfl rfl (by decide) (by decide)
 case hb=>
  intro ρ s l xs X r hl;obtain⟨a,b,rfl⟩:=dg hl;refine r.bf λx10 xs10 q0 r=>?_;refine r.bf λx11 xs11 q1 r=>?_;cases r;exact⟨_,kp_binds X (λS=>rfl),.cons q0 (.cons q1 (.cons .none .nil))⟩
 case body=>
  intro l L hl;obtain⟨x_value,x_may_compare,rfl⟩:=dg hl;show aJ _ _ _ _ _ _ _ _ (lA x_value x_may_compare);refine' cC ?hh ?he
  case hh=>
   refine' lz rfl rfl (aH (aa pD (ck aj) (aa pD (ck (aa az (ah rfl rfl rfl) aj)) aj)) (LD rfl)) ?g2 rfl rfl
   case g2=>
    intro v1;refine' CQ (fuel:=1000) (aQ (ah rfl rfl rfl) (ck aj) rfl) ?g13 ?g14
    case g13=>
     refine' aT (.inl rfl) (cN G (T:="list") (id:="list.pop") (m:=0) PySem.F.plainAttrs_list PySem.F.slot_list_pop rfl (ah rfl rfl rfl) aj HB (LI _) rfl rfl) ?g19 rfl
     case g19=>
      intro v2;refine' bH ?g22 ?g23 rfl rfl
      case g22=>refine' aI G (vf:=.ref 82) (Cv G rfl) (aa pT (bw (aI G (vf:=.bi "len") (m:=0) (fQ G rfl) (aa az (ah rfl rfl rfl) aj) dW (LI _) rfl rfl rfl rfl) ak) (aa az (ah rfl rfl rfl) aj)) (D5 G) (by omega) (KH (w:=w)) rfl rfl rfl
      case g23=>
       refine' aT (.inl rfl) (aI G (vf:=.ref 89) (BO G rfl) (aa az (ah rfl rfl rfl) aj) (Co G) (by omega) (KY (w:=w)) rfl rfl rfl) ?g37 rfl
       case g37=>
        intro v3;refine' bD ?g42 ?g43 ?g44
        case g42=>
         refine' fk ?g45
         case g45=>
          refine' d9 (aQ (ah rfl rfl rfl) (yL G rfl) rfl) ?g47
          case g47=>
           refine' d9 ?g50 fY
           case g50=>
            refine' fk ?g52
            case g52=>refine' eW (aQ (ah rfl rfl rfl) av rfl) (eW (kQ (gj (aI G (vf:=.ref 250) (ah rfl rfl rfl) (aa aK (aB (ah rfl rfl rfl) ak rfl (λu u=>⟨_,rfl⟩)) aj) (FG G) (by omega) (JM (w:=w)) rfl rfl rfl) rfl)) gD)
        case g43=>refine' B4 G (C:=64) (G7 (w:=w)) (aI G (vf:=.ref 74) (uc G rfl) (aa ao av aj) (vg G) (by omega) (La (w:=w)) rfl rfl rfl)
        case g44=>
         refine' bD (aQ (ah rfl rfl rfl) av rfl) ?g73 ?g74
         case g73=>
          refine' bH ?g77 ?g78 rfl rfl
          case g77=>refine' cN G (T:="list") (id:="list.append") (m:=0) PySem.F.plainAttrs_list PySem.F.slot_list_append rfl (ah rfl rfl rfl) (aa aR (aH (aa az (ah rfl rfl rfl) (aa aK (aB (ah rfl rfl rfl) ak rfl (λu u=>⟨_,rfl⟩)) aj)) (LD rfl)) aj) dN (LI _) rfl rfl
          case g78=>refine' bH (cN G (T:="list") (id:="list.append") (m:=0) PySem.F.plainAttrs_list PySem.F.slot_list_append rfl (ah rfl rfl rfl) (aa aK (aB (ah rfl rfl rfl) ak rfl (λu u=>⟨_,rfl⟩)) aj) dN (LI _) rfl rfl) (bT (aM rfl (aM rfl bG))) rfl rfl
         case g74=>
          refine' bD (aQ (ah rfl rfl rfl) (aH (aa ao av (aa ao av aj)) (LD rfl)) rfl) ?g99 ?g100
          case g99=>
           refine' bH ?g108 ?g109 rfl rfl
           case g108=>
            refine' cN G (T:="list") (id:="list.append") (m:=0) PySem.F.plainAttrs_list PySem.F.slot_list_append rfl (ah rfl rfl rfl) ?g111 dN (LI _) rfl rfl
            case g111=>
             refine' aa aR ?g112 aj
             case g112=>refine' aH (aa az (ah rfl rfl rfl) (aa cZ (aI G (vf:=.bi "len") (m:=0) (fQ G rfl) (aa aK (aB (ah rfl rfl rfl) ak rfl (λu u=>⟨_,rfl⟩)) aj) dW (LI _) rfl rfl rfl rfl) aj)) (LD rfl)
           case g109=>
            refine' bH ?g125 (bT (aM rfl (aM rfl bG))) rfl rfl
            case g125=>refine' cN G (T:="list") (id:="list.extend") (m:=0) PySem.F.plainAttrs_list PySem.F.slot_list_extend rfl (ah rfl rfl rfl) (aa aK (JX (aI G (vf:=.ty "list") (m:=0) (Iv G rfl) (aa aK (aB (ah rfl rfl rfl) ak rfl (λu u=>⟨_,rfl⟩)) aj) Cm (LI _) rfl rfl rfl rfl)) aj) Cu (LI _) rfl rfl
          case g100=>
           refine' bH ?g138 (bT (aM rfl (aM rfl bG))) rfl rfl
           case g138=>refine' cN G (T:="list") (id:="list.append") (m:=0) PySem.F.plainAttrs_list PySem.F.slot_list_append rfl (ah rfl rfl rfl) (aa aR (aH (aa az (ah rfl rfl rfl) (aa az (ah rfl rfl rfl) aj)) (LD rfl)) aj) dN (LI _) rfl rfl
    case g14=>refine' aF (aI G (vf:=.ty "tuple") (m:=0) (HF G rfl) (aa az (ah rfl rfl rfl) aj) EE (LI _) rfl rfl rfl rfl)
  case he=>exact rfl
end
section
variable{prog:Program}{w:World}{base:Heap}{n:Nat}{env:Env}{le keep:List (Str×V)}{mg mb:Str->Option Value}
theorem Ac(G:Gd (KK w) mg mb base):gO prog w base 2 (.ref 111) ru:=by
 refine' jT G (n:=1) (names:=["self","may_compare"]) (k:=2) (defs:=[]) (m:=m2 jV) (ho:=rfl) (hcd:=rfl) (hbind:=?hb) (hloc:=(by decide)) (hb:=?body) rfl rfl rfl (by decide) (by decide)
 case hb=>
  intro ρ s l xs X r hl;obtain⟨a,b,rfl⟩:=dg hl;refine⟨xs,LR ?_,by simpa using r⟩;refine r.bf λx1 xs1 q0 r=>?_;refine r.bf λx2 xs2 q1 r=>?_;cases r;rfl
 case body=>
  intro l L hl;obtain⟨x_self,x_may_compare,rfl⟩:=dg hl;show aJ _ _ _ _ _ _ _ _ (jV x_self x_may_compare);refine' cC ?hh ?he
  case hh=>
   refine' cJ G (c:=156) (rM (w:=w)) (ah rfl rfl rfl) (ah rfl rfl rfl) ?g3 rfl rfl
   case g3=>
    refine' cJ G (c:=156) (w4 (w:=w)) Eu (ah rfl rfl rfl) ?g6 rfl rfl
    case g6=>refine' cJ G (c:=156) (qF (w:=w)) ak (ah rfl rfl rfl) (bT bW) rfl rfl
  case he=>exact rfl
theorem xD(G:Gd (KK w) mg mb base):bC prog w base 3 (.ref 156) kH:=
 (oR G (K:=KK w) (fI:=111) rfl rfl rfl (Ac G)).f
theorem kE(G:Gd (KK w) mg mb base):bC prog w base 7 (.ref 118) dY:=by
 refine' cg G (n:=6) (names:=["self","key"]) (k:=2) (defs:=[]) (m:=m2 iD) (ho:=rfl) (hcd:=rfl) (hbind:=?hb) (hloc:=(by decide)) (hb:=?body) rfl rfl rfl (by decide) (by decide)
 case hb=>
  intro ρ s l xs X r hl;obtain⟨a,b,rfl⟩:=dg hl;refine⟨xs,LR ?_,by simpa using r⟩;refine r.bf λx3 xs3 q0 r=>?_;refine r.bf λx4 xs4 q1 r=>?_;cases r;rfl
 case body=>
  intro l L hl;obtain⟨x_self,x_key,rfl⟩:=dg hl;show aJ _ _ _ _ _ _ _ _ (iD x_self x_key);refine' cC ?hh ?he
  case hh=>refine' aF (aI G (vf:=.ref 97) (AM G rfl) (aa az (ah rfl rfl rfl) (aa ko (cL G (c:=156) (se (w:=w)) (ah rfl rfl rfl) rfl) aj)) (Cs G) (by lia) (Lb (w:=w)) rfl rfl rfl)
  case he=>exact rfl
theorem BG(G:Gd (KK w) mg mb base):bC prog w base 2 (.ref 125) jW:=by
 refine' cg G (n:=1) (names:=["self"]) (k:=1) (defs:=[]) (m:=m1 jZ) (ho:=rfl) (hcd:=rfl) (hbind:=?hb) (hloc:=(by decide)) (hb:=?body) rfl rfl rfl (by decide) (by decide)
 case hb=>
  intro ρ s l xs X r hl;obtain⟨a,rfl⟩:=jG hl;refine⟨xs,LR ?_,by simpa using r⟩;refine r.bf λx5 xs5 q0 r=>?_;cases r;rfl
 case body=>
  intro l L hl;obtain⟨x_self,rfl⟩:=jG hl;show aJ _ _ _ _ _ _ _ _ (jZ x_self);refine' cC ?hh ?he
  case hh=>refine' aF (aI G (vf:=.bi "len") (m:=0) (fQ G rfl) (aa ko (cL G (c:=156) (eV (w:=w)) (ah rfl rfl rfl) rfl) aj) dW (LI _) rfl rfl rfl rfl)
  case he=>exact rfl
theorem tM(G:Gd (KK w) mg mb base):bC prog w base 8 (.ref 132) fK:=by
 refine' cg G (n:=7) (names:=["self","key"]) (k:=2) (defs:=[]) (m:=m2 ir) (ho:=rfl) (hcd:=rfl) (hbind:=?hb) (hloc:=(by decide)) (hb:=?body) rfl rfl rfl (by decide) (by decide)
 case hb=>
  intro ρ s l xs X r hl;obtain⟨a,b,rfl⟩:=dg hl;refine⟨xs,LR ?_,by simpa using r⟩;refine r.bf λx6 xs6 q0 r=>?_;refine r.bf λx7 xs7 q1 r=>?_;cases r;rfl
 case body=>
  intro l L hl;obtain⟨x_self,x_key,rfl⟩:=dg hl;show aJ _ _ _ _ _ _ _ _ (ir x_self x_key);refine' cC ?hh ?he
  case hh=>
   refine' aT (.inl rfl) ?g1 ?g2 rfl
   case g1=>refine' cN G (T:="dict") (id:="dict.get") (m:=0) PySem.F.plainAttrs_dict PySem.F.slot_dict_get rfl (cL G (c:=156) (eV (w:=w)) (ah rfl rfl rfl) rfl) (aa cZ (cz G (c:=156) (f:=118) (jw (w:=w)) (BE (w:=w)) (ah rfl rfl rfl) (aa az (ah rfl rfl rfl) aj) (kE G) (by lia) rfl rfl) aj) yu (LI _) rfl rfl
   case g2=>
    intro v1;refine' aF ?g12
    case g12=>refine' fX (aQ (ah rfl rfl rfl) bg rfl) (aH (aa ao bg (aa ao bu aj)) (LD rfl)) (aH (aa aK (aB (ah rfl rfl rfl) ak rfl (λu u=>⟨_,rfl⟩)) (aa ao bu aj)) (LD rfl))
  case he=>exact rfl
theorem k6(G:Gd (KK w) mg mb base):bC prog w base 8 (.ref 139) cY:=by
 refine' cg G (n:=7) (names:=["self","key","value"]) (k:=3) (defs:=[]) (m:=m3 ic) (ho:=rfl) (hcd:=rfl) (hbind:=?hb) (hloc:=(by decide)) (hb:=?body) rfl rfl rfl (by decide) (by decide)
 case hb=>
  intro ρ s l xs X r hl;obtain⟨a,b,c,rfl⟩:=wK hl;refine⟨xs,LR ?_,by simpa using r⟩;refine r.bf λx8 xs8 q0 r=>?_;refine r.bf λx9 xs9 q1 r=>?_;refine r.bf λx10 xs10 q2 r=>?_;cases r;rfl
 case body=>
  intro l L hl;obtain⟨x_self,x_key,x_value,rfl⟩:=wK hl;show aJ _ _ _ _ _ _ _ _ (ic x_self x_key x_value);refine' cC ?hh ?he
  case hh=>
   refine' aT (.inl rfl) (cz G (c:=156) (f:=118) (jw (w:=w)) (BE (w:=w)) (ah rfl rfl rfl) (aa az (ah rfl rfl rfl) aj) (kE G) (by lia) rfl rfl) ?g2 rfl
   case g2=>
    intro v1;refine' aT (.inl rfl) (cN G (T:="dict") (id:="dict.get") (m:=0) PySem.F.plainAttrs_dict PySem.F.slot_dict_get rfl (cL G (c:=156) (eV (w:=w)) (ah rfl rfl rfl) rfl) (aa az (ah rfl rfl rfl) aj) yu (LI _) rfl rfl) ?g8 rfl
    case g8=>
     intro v2;refine' bD (aQ (ah rfl rfl rfl) bg rfl) ?g15 ?g16
     case g15=>
      refine' pI (aH (aa ko (cL G (c:=156) (lO (w:=w)) (ah rfl rfl rfl) rfl) (aa az (ah rfl rfl rfl) (aa az (ah rfl rfl rfl) aj))) (LD rfl)) (cL G (c:=156) (eV (w:=w)) (ah rfl rfl rfl) rfl) (ah rfl rfl rfl) ?g22 rfl rfl
      case g22=>refine' cJ G (c:=156) (qF (w:=w)) (bw (cL G (c:=156) (lO (w:=w)) (ah rfl rfl rfl) rfl) ak) (ah rfl rfl rfl) (bT bW) rfl rfl
     case g16=>refine' pI (aH (aa aK (aB (ah rfl rfl rfl) ak rfl (λu u=>⟨_,rfl⟩)) (aa aK (aB (ah rfl rfl rfl) ak rfl (λu u=>⟨_,rfl⟩)) (aa az (ah rfl rfl rfl) aj))) (LD rfl)) (cL G (c:=156) (eV (w:=w)) (ah rfl rfl rfl) rfl) (ah rfl rfl rfl) (bT bW) rfl rfl
  case he=>exact rfl
theorem pg(G:Gd (KK w) mg mb base):bC prog w base 8 (.ref 146) dI:=by
 refine' cg G (n:=7) (names:=["self","key"]) (k:=2) (defs:=[]) (m:=m2 gy) (ho:=rfl) (hcd:=rfl) (hbind:=?hb) (hloc:=(by decide)) (hb:=?body) rfl rfl rfl (by decide) (by decide)
 case hb=>
  intro ρ s l xs X r hl;obtain⟨a,b,rfl⟩:=dg hl;refine⟨xs,LR ?_,by simpa using r⟩;refine r.bf λx11 xs11 q0 r=>?_;refine r.bf λx12 xs12 q1 r=>?_;cases r;rfl
 case body=>
  intro l L hl;obtain⟨x_self,x_key,rfl⟩:=dg hl;show aJ _ _ _ _ _ _ _ _ (gy x_self x_key);refine' cC ?hh ?he
  case hh=>
   refine' bH ?g1 (bT bW) rfl rfl
   case g1=>refine' cN G (T:="dict") (id:="dict.pop") (m:=0) PySem.F.plainAttrs_dict PySem.F.slot_dict_pop rfl (cL G (c:=156) (eV (w:=w)) (ah rfl rfl rfl) rfl) (aa cZ (cz G (c:=156) (f:=118) (jw (w:=w)) (BE (w:=w)) (ah rfl rfl rfl) (aa az (ah rfl rfl rfl) aj) (kE G) (by lia) rfl rfl) (aa ao bg aj)) Ec (LI _) rfl rfl
  case he=>exact rfl
theorem mZ(G:Gd (KK w) mg mb base):bC prog w base 2 (.ref 153) gz:=by
 refine' cg G (n:=1) (names:=["self"]) (k:=1) (defs:=[]) (m:=m1 jU) (ho:=rfl) (hcd:=rfl) (hbind:=?hb) (hloc:=(by decide)) (hb:=?body) rfl rfl rfl (by decide) (by decide)
 case hb=>
  intro ρ s l xs X r hl;obtain⟨a,rfl⟩:=jG hl;refine⟨xs,LR ?_,by simpa using r⟩;refine r.bf λx13 xs13 q0 r=>?_;cases r;rfl
 case body=>
  intro l L hl;obtain⟨x_self,rfl⟩:=jG hl;show aJ _ _ _ _ _ _ _ _ (jU x_self);refine' cC ?hh ?he
  case hh=>
   refine' rP G (f:=167) (Ga G) (FP G rfl) ?g3 (v7 G rfl) rfl rfl rfl rfl (by lia)
   case g3=>exact Jf G (by
                        refine' cL G (c:=156) (eV (w:=w)) ?g1 rfl
                        case g1=>exact ah rfl rfl rfl) rfl
  case he=>exact rfl
theorem uH(G:Gd (KK w) mg mb base):gO prog w base 2 (.ref 182) mQ:=by
 refine' jT G (n:=1) (names:=["self","table","number"]) (k:=2) (defs:=[.none]) (m:=m2 gP) (ho:=rfl) (hcd:=rfl) (hbind:=?hb) (hloc:=(by decide)) (hb:=?body) rfl rfl rfl (by decide) (by decide)
 case hb=>
  intro ρ s l xs X r hl;obtain⟨a,b,rfl⟩:=dg hl;refine r.bf λx14 xs14 q0 r=>?_;refine r.bf λx15 xs15 q1 r=>?_;cases r;exact⟨_,kp_binds X (λS=>rfl),.cons q0 (.cons q1 (.cons .none .nil))⟩
 case body=>
  intro l L hl;obtain⟨x_self,x_table,rfl⟩:=dg hl;show aJ _ _ _ _ _ _ _ _ (gP x_self x_table);refine' cC ?hh ?he
  case hh=>
   refine' cJ G (c:=197) (Ax (w:=w)) (ah rfl rfl rfl) (ah rfl rfl rfl) ?g3 rfl rfl
   case g3=>
    refine' cJ G (c:=197) (yT (w:=w)) (ah rfl rfl rfl) (ah rfl rfl rfl) ?g6 rfl rfl
    case g6=>
     refine' cJ G (c:=197) (Ei (w:=w)) (fX (aQ (ah rfl rfl rfl) bg rfl) ak (cL G (c:=156) (lO (w:=w)) (ah rfl rfl rfl) rfl)) (ah rfl rfl rfl) ?g9 rfl rfl
     case g9=>refine' cJ G (c:=197) (BZ (w:=w)) tO (ah rfl rfl rfl) (bT bW) rfl rfl
  case he=>exact rfl
theorem oA(G:Gd (KK w) mg mb base):bC prog w base 3 (.ref 197) gk:=
 (oR G (K:=KK w) (fI:=182) rfl rfl rfl (uH G)).f
theorem wI(G:Gd (KK w) mg mb base):gO prog w base 2 (.ref 215) pL:=by
 refine' jT G (n:=1) (names:=["self","row"]) (k:=2) (defs:=[]) (m:=m2 iX) (ho:=rfl) (hcd:=rfl) (hbind:=?hb) (hloc:=(by decide)) (hb:=?body) rfl rfl rfl (by decide) (by decide)
 case hb=>
  intro ρ s l xs X r hl;obtain⟨a,b,rfl⟩:=dg hl;refine⟨xs,LR ?_,by simpa using r⟩;refine r.bf λx16 xs16 q0 r=>?_;refine r.bf λx17 xs17 q1 r=>?_;cases r;rfl
 case body=>
  intro l L hl;obtain⟨x_self,x_row,rfl⟩:=dg hl;show aJ _ _ _ _ _ _ _ _ (iX x_self x_row);refine' cC ?hh ?he
  case hh=>
   refine' cJ G (c:=225) (Ej (w:=w)) (ah rfl rfl rfl) (ah rfl rfl rfl) ?g3 rfl rfl
   case g3=>refine' cJ G (c:=225) (rJ (w:=w)) ak (ah rfl rfl rfl) (bT bW) rfl rfl
  case he=>exact rfl
theorem yb(G:Gd (KK w) mg mb base):bC prog w base 3 (.ref 225) lH:=
 (oR G (K:=KK w) (fI:=215) rfl rfl rfl (wI G)).f
theorem wH(G:Gd (KK w) mg mb base):bC prog w base 2 (.ref 222) gB:=by
 refine' cg G (n:=1) (names:=["self","many"]) (k:=2) (defs:=[]) (m:=m2 gF) (ho:=rfl) (hcd:=rfl) (hbind:=?hb) (hloc:=(by decide)) (hb:=?body) rfl rfl rfl (by decide) (by decide)
 case hb=>
  intro ρ s l xs X r hl;obtain⟨a,b,rfl⟩:=dg hl;refine⟨xs,LR ?_,by simpa using r⟩;refine r.bf λx18 xs18 q0 r=>?_;refine r.bf λx19 xs19 q1 r=>?_;cases r;rfl
 case body=>
  intro l L hl;obtain⟨x_self,x_many,rfl⟩:=dg hl;show aJ _ _ _ _ _ _ _ _ (gF x_self x_many);refine' cC ?hh ?he
  case hh=>
   refine' bD (aQ (ah rfl rfl rfl) ak rfl) ?g2 ?g3
   case g2=>refine' aF ak
   case g3=>
    refine' aT (.inl rfl) (cL G (c:=225) (mU (w:=w)) (ah rfl rfl rfl) rfl) ?g8 rfl
    case g8=>
     intro v1;refine' cJ G (c:=225) (rJ (w:=w)) (bw (ah rfl rfl rfl) ak) (ah rfl rfl rfl) ?g12 rfl rfl
     case g12=>
      refine' aF ?g15
      case g15=>refine' fX (aQ (ah rfl rfl rfl) (aI G (vf:=.bi "len") (m:=0) (fQ G rfl) (aa ko (cL G (c:=225) (vE (w:=w)) (ah rfl rfl rfl) rfl) aj) dW (LI _) rfl rfl rfl rfl) rfl) (bw (aB (cL G (c:=225) (vE (w:=w)) (ah rfl rfl rfl) rfl) (ah rfl rfl rfl) rfl (λu u=>⟨_,rfl⟩)) (ah rfl rfl rfl)) ak
  case he=>exact rfl
theorem jQ(G:Gd (KK w) mg mb base):bC prog w base 3 (.ref 187) dG:=by
 refine' oj G (n:=2) (names:=["self"]) (k:=1) (m:=m1 fz) (ho:=rfl) (hcd:=rfl) (hbind:=?hb) (hloc:=(by decide)) (hcn:=(by decide)) (hb:=?body) rfl rfl rfl (by decide)
 case hb=>
  intro xs hl;obtain⟨a,rfl⟩:=DF hl;rfl
 case body=>
  intro l L hl;obtain⟨x_self,rfl⟩:=jG hl;show aJ _ _ _ _ _ _ _ _ (fz x_self);refine' cC ?hh ?he
  case hh=>
   refine' bD (aQ (cL G (c:=197) (qT (w:=w)) (ah rfl rfl rfl) rfl) bg rfl) ?g2 ?g3
   case g2=>refine' aF (ck aj)
   case g3=>
    refine' aF ?g9
    case g9=>
     refine' jI (fuel:=1000) (lec:=[("self",x_self)]) (pat:=cA) (ext:=λv=>[("row",v)]) (dc rfl rfl (by decide) rfl rfl (cX rfl bW) rfl) (gh (cz G (c:=156) (f:=153) (lS (w:=w)) (BF (w:=w)) (cL G (c:=197) (qT (w:=w)) (ah rfl rfl rfl) rfl) aj (mZ G) (by lia) rfl rfl)) (λL=>bY (.inl rfl)) ?g13 (λL p=>ah rfl rfl rfl) (λp=>(aM rfl bG)) (λu=>rfl) j5
     case g13=>
      intro L p;refine' qU ?g21
      case g21=>
       refine' fk ?g22
       case g22=>refine' eW (aQ (aB (ah rfl rfl rfl) ak rfl (λu u=>⟨_,rfl⟩)) (cL G (c:=197) (Eb (w:=w)) (ah rfl rfl rfl) rfl) rfl) (eW (aQ (aB (ah rfl rfl rfl) ak rfl (λu u=>⟨_,rfl⟩)) (cL G (c:=197) (tU (w:=w)) (ah rfl rfl rfl) rfl) rfl) gD)
  case he=>exact rfl
theorem dS(G:Gd (KK w) mg mb base):bC prog w base 4 (.ref 194) bJ:=by
 refine' cg G (n:=3) (names:=["self","choices"]) (k:=2) (defs:=[]) (m:=m2 dO) (ho:=rfl) (hcd:=rfl) (hbind:=?hb) (hloc:=(by decide)) (hb:=?body) rfl rfl rfl (by decide) (by decide)
 case hb=>
  intro ρ s l xs X r hl;obtain⟨a,b,rfl⟩:=dg hl;refine⟨xs,LR ?_,by simpa using r⟩;refine r.bf λx20 xs20 q0 r=>?_;refine r.bf λx21 xs21 q1 r=>?_;cases r;rfl
 case body=>
  intro l L hl;obtain⟨x_self,x_choices,rfl⟩:=dg hl;show aJ _ _ _ _ _ _ _ _ (dO x_self x_choices);refine' cC ?hh ?he
  case hh=>
   refine' aT (.inl rfl) (cz G (c:=197) (f:=187) (jh (w:=w)) (FT (w:=w)) (ah rfl rfl rfl) aj (jQ G) (by omega) rfl rfl) ?g2 rfl
   case g2=>
    intro v1;refine' bD (aQ (ah rfl rfl rfl) (ck aj) rfl) ?g6 ?g7
    case g6=>refine' aF bg
    case g7=>
     refine' jn (pat:=jE) (ext:=λg=>[("value",g.2.2),("key",g.2.1),("number",g.1)]) (DS (.inl rfl) (.inl rfl) (.inl rfl)) ?g13 ?g14 rfl rfl rfl
     case g13=>
      refine' aB (ah rfl rfl rfl) ?g16 rfl (λu u=>⟨_,rfl⟩)
      case g16=>refine' cz G (c:=225) (f:=222) (vH (w:=w)) (JF (w:=w)) (ah rfl rfl rfl) (aa cZ (aI G (vf:=.bi "len") (m:=0) (fQ G rfl) (aa az (ah rfl rfl rfl) aj) dW (LI _) rfl rfl rfl rfl) aj) (wH G) (by omega) rfl rfl
     case g14=>
      intro v2;refine' gS bu (cL G (c:=197) (tU (w:=w)) (ah rfl rfl rfl) rfl) (ah rfl rfl rfl) ?g28 rfl rfl
      case g28=>refine' aF (aH (aa az (ah rfl rfl rfl) (aa az (ah rfl rfl rfl) aj)) (LD rfl))
  case he=>exact rfl
end
section
variable{prog:Program}{w:World}{base:Heap}{n:Nat}{env:Env}{le keep:List (Str×V)}{mg mb:Str->Option Value}
theorem Dm(G:Gd (KK w) mg mb base){sc:Addr}{zs:List Int}(hS:nu base sc zs):bC prog w base 2 (.ref 236) (qv sc zs):=by
 refine' cg G (n:=1) (names:=["script"]) (k:=1) (defs:=[]) (m:=m1 (lX sc zs)) (ho:=rfl) (hcd:=rfl) (hbind:=?hb) (hloc:=(by decide)) (hb:=?body) rfl rfl rfl (by decide) (by decide)
 case hb=>
  intro ρ s l xs X r hl;obtain⟨a,rfl⟩:=jG hl;refine⟨xs,LR ?_,by simpa using r⟩;refine r.bf λx1 xs1 q0 r=>?_;cases r;rfl
 case body=>
  intro l L hl;obtain⟨x_script,rfl⟩:=jG hl;show aJ _ _ _ _ _ _ _ _ (lX sc zs x_script);refine' cC ?hh ?he
  case hh=>
   refine' aT (.inl rfl) (fX (aQ (aI G (vf:=.bi "len") (m:=0) (fQ G rfl) (aa az (ah rfl rfl rfl) aj) (xY hS) (LI _) rfl rfl rfl rfl) ak rfl) (A7 hS (ah rfl rfl rfl) ak rfl (λu u=>⟨_,rfl⟩)) ak) ?g2 rfl
   case g2=>
    intro v1;refine' aT (.inl rfl) (fX (aQ (ah rfl rfl rfl) ak rfl) (ah rfl rfl rfl) (bw ak (bw ak (ah rfl rfl rfl)))) ?g15 rfl
    case g15=>
     intro v2;refine' aF ?g25
     case g25=>
      refine' ck ?g26
      case g26=>
       refine' aa Ao (fX (aQ (ah rfl rfl rfl) (bw ak ak) rfl) (ah rfl rfl rfl) ak) ?g28
       case g28=>
        refine' aa pT ?g36 aj
        case g36=>refine' bw (bw (bw (bw (bw (ah rfl rfl rfl) ak) ak) (aI G (vf:=.ty "int") (m:=0) (FN G rfl) (aa Dk (eO (ah rfl rfl rfl) ak rfl) aj) G0 (LI _) rfl rfl rfl rfl)) ak) ak
  case he=>exact rfl
theorem eZ(G:Gd (KK w) mg mb base):bC prog w base 2 (.ref 243) cD:=by
 refine' cg G (n:=1) (names:=["reel","many"]) (k:=2) (defs:=[]) (m:=m2 lB) (ho:=rfl) (hcd:=rfl) (hbind:=?hb) (hloc:=(by decide)) (hb:=?body) rfl rfl rfl (by decide) (by decide)
 case hb=>
  intro ρ s l xs X r hl;obtain⟨a,b,rfl⟩:=dg hl;refine⟨xs,LR ?_,by simpa using r⟩;refine r.bf λx2 xs2 q0 r=>?_;refine r.bf λx3 xs3 q1 r=>?_;cases r;rfl
 case body=>
  intro l L hl;obtain⟨x_reel,x_many,rfl⟩:=dg hl;show aJ _ _ _ _ _ _ _ _ (lB x_reel x_many);refine' cC ?hh ?he
  case hh=>
   refine' bD (aQ (aB (ah rfl rfl rfl) ak rfl (λu u=>⟨_,rfl⟩)) ak rfl) ?g2 ?g3
   case g2=>
    refine' aT (.inl rfl) (bw (aB (ah rfl rfl rfl) ak rfl (λu u=>⟨_,rfl⟩)) (ah rfl rfl rfl)) ?g9 rfl
    case g9=>
     intro v1;refine' gS (bw (aB (ah rfl rfl rfl) ak rfl (λu u=>⟨_,rfl⟩)) (ah rfl rfl rfl)) (ah rfl rfl rfl) ak ?g17 rfl rfl
     case g17=>refine' aF (ah rfl rfl rfl)
   case g3=>
    refine' gS (bw (bw (bw (aB (ah rfl rfl rfl) ak rfl (λu u=>⟨_,rfl⟩)) ak) ak) ak) (ah rfl rfl rfl) ak ?g26 rfl rfl
    case g26=>refine' aF (bw (bw (aB (ah rfl rfl rfl) ak rfl (λu u=>⟨_,rfl⟩)) ak) (ah rfl rfl rfl))
  case he=>exact rfl
theorem D8(G:Gd (KK w) mg mb base):bC prog w base 2 (.ref 257) j3:=by
 refine' cg G (n:=1) (names:=[]) (k:=0) (defs:=[]) (m:=m0 lV) (ho:=rfl) (hcd:=rfl) (hbind:=?hb) (hloc:=(by decide)) (hb:=?body) rfl rfl rfl (by decide) (by decide)
 case hb=>
  intro ρ s l xs X r hl;obtain rfl:=len0 hl;cases r;exact⟨[],LR rfl,.nil⟩
 case body=>
  intro l L hl;obtain rfl:=len0 hl;show aJ _ _ _ _ _ _ _ _ (lV);refine' cC ?hh ?he
  case hh=>
   refine' aT (.inl rfl) ?g1 ?g2 rfl
   case g1=>
    refine' ck ?g3
    case g3=>
     refine' aa aR (aH (aa ao av (aa aR (aH (aa ao av (aa ao av aj)) (LD rfl)) (aa ao ak aj))) (LD rfl)) ?g5
     case g5=>
      refine' aa aR (aH (aa ao av (aa aR (aH (aa ao av (aa ao av aj)) (LD rfl)) (aa ao ak aj))) (LD rfl)) ?g19
      case g19=>refine' aa aR (aH (aa ao av (aa aR (aH (aa ao av aj) (LD rfl)) (aa ao bu aj))) (LD rfl)) (aa ao c9 (aa ao c9 (aa ao bg aj)))
   case g2=>
    intro v1;refine' aT (.inl rfl) ?g50 ?g51 rfl
    case g50=>
     refine' bw (ah rfl rfl rfl) ?g53
     case g53=>
      refine' ck ?g54
      case g54=>
       refine' aa aR (aH (aa ao av (aa ao ak (aa aR (aH (aa ao ak aj) (LD rfl)) aj))) (LD rfl)) ?g56
       case g56=>
        refine' aa aR (aH (aa ao av (aa ao ak (aa aR (aH aj (LD rfl)) aj))) (LD rfl)) ?g68
        case g68=>
         refine' aa aR (aH (aa ao av (aa aR (aH (aa ao ak (aa ao bu aj)) (LD rfl)) aj)) (LD rfl)) ?g78
         case g78=>refine' aa aR (aH (aa ao av (aa aR (aH (aa ao ak (aa ao ak aj)) (LD rfl)) aj)) (LD rfl)) (aa aR (aH (aa ao av (aa aR (aH (aa ao ak (aa ao bu aj)) (LD rfl)) aj)) (LD rfl)) aj)
    case g51=>
     intro v2;refine' aT (.inl rfl) ?g113 ?g114 rfl
     case g113=>
      refine' bw (ah rfl rfl rfl) ?g116
      case g116=>
       refine' ck ?g117
       case g117=>
        refine' aa aR ?g118 ?g119
        case g118=>
         refine' aH ?g120 (LD rfl)
         case g120=>
          refine' aa ao av ?g122
          case g122=>
           refine' aa aR ?g123 aj
           case g123=>refine' aH (aa aR (aH (aa ao av (aa aR (aH (aa ao ak (aa ao ak aj)) (LD rfl)) aj)) (LD rfl)) (aa ao ak aj)) (LD rfl)
        case g119=>
         refine' aa aR ?g140 aj
         case g140=>
          refine' aH ?g142 (LD rfl)
          case g142=>
           refine' aa ao av ?g144
           case g144=>
            refine' aa aR ?g145 aj
            case g145=>refine' aH (aa aR (aH (aa ao av (aa aR (aH (aa ao ak aj) (LD rfl)) aj)) (LD rfl)) (aa ao ak (aa ao ak aj))) (LD rfl)
     case g114=>
      intro v3;refine' aF ?g162
      case g162=>
       refine' bw (ah rfl rfl rfl) ?g164
       case g164=>
        refine' ck ?g165
        case g165=>
         refine' aa aR ?g166 aj
         case g166=>
          refine' aH ?g168 (LD rfl)
          case g168=>
           refine' aa ao av ?g170
           case g170=>refine' aa aR (aH (aa ao av (aa ao av aj)) (LD rfl)) (aa aR (aH (aa ao av (aa aR (aH (aa ao ak (aa ao c9 aj)) (LD rfl)) aj)) (LD rfl)) aj)
  case he=>exact rfl
theorem Cr(G:Gd (KK w) mg mb base):bC prog w base 2 (.ref 264) oH:=by
 refine' cg G (n:=1) (names:=[]) (k:=0) (defs:=[]) (m:=m0 k9) (ho:=rfl) (hcd:=rfl) (hbind:=?hb) (hloc:=(by decide)) (hb:=?body) rfl rfl rfl (by decide) (by decide)
 case hb=>
  intro ρ s l xs X r hl;obtain rfl:=len0 hl;cases r;exact⟨[],LR rfl,.nil⟩
 case body=>
  intro l L hl;obtain rfl:=len0 hl;show aJ _ _ _ _ _ _ _ _ (k9);refine' cC ?hh ?he
  case hh=>
   refine' aF ?g1
   case g1=>
    refine' ck ?g2
    case g2=>
     refine' aa aR ?g3 ?g4
     case g3=>
      refine' aH ?g5 (LD rfl)
      case g5=>
       refine' aa ao av ?g7
       case g7=>
        refine' aa aR ?g8 aj
        case g8=>refine' aH (aa ao ak (aa aR (aH (aa ao av (aa ao ak (aa ao ak (aa ao ak (aa ao ak aj))))) (LD rfl)) aj)) (LD rfl)
     case g4=>
      refine' aa aR ?g26 (aa aR (aH (aa ao av (aa ao ak aj)) (LD rfl)) aj)
      case g26=>
       refine' aH ?g28 (LD rfl)
       case g28=>
        refine' aa ao av ?g30
        case g30=>refine' aa aR (aH (aa ao av (aa aR (aH aj (LD rfl)) (aa aR (aH aj (LD rfl)) (aa ao bu aj)))) (LD rfl)) (aa ao bg aj)
  case he=>exact rfl
theorem kY(G:Gd (KK w) mg mb base):bC prog w base 2 (.ref 271) fL:=by
 refine' cg G (n:=1) (names:=["log","n"]) (k:=2) (defs:=[]) (m:=m2 iV) (ho:=rfl) (hcd:=rfl) (hbind:=?hb) (hloc:=(by decide)) (hb:=?body) rfl rfl rfl (by decide) (by decide)
 case hb=>
  intro ρ s l xs X r hl;obtain⟨a,b,rfl⟩:=dg hl;refine⟨xs,LR ?_,by simpa using r⟩;refine r.bf λx4 xs4 q0 r=>?_;refine r.bf λx5 xs5 q1 r=>?_;cases r;rfl
 case body=>
  intro l L hl;obtain⟨x_log,x_n,rfl⟩:=dg hl;show aJ _ _ _ _ _ _ _ _ (iV x_log x_n);refine' cC ?hh ?he
  case hh=>
   refine' aT (.inl rfl) tO ?g2 rfl
   case g2=>
    intro v1;refine' jN (pat:=zA) (ext:=λg=>[("is_put",g.2.2.2.2),("value",g.2.2.2.1),("place",g.2.2.1),("table",g.2.1),("came",g.1)]) (fuel:=1000) (KG (.inl rfl) (.inl rfl) (.inl rfl) (.inl rfl) (.inl rfl)) (xS G (r4 G rfl) (aa az (ah rfl rfl rfl) aj) rfl rfl) ?g5 ?g6 (λu=>rfl) AE
    case g5=>
     intro v2;refine' bD (fk (eW (aQ (ah rfl rfl rfl) (ah rfl rfl rfl) rfl) (eW (gj (ah rfl rfl rfl) rfl) gD))) ?g12 ?g13
     case g12=>
      refine' gS ?g22 (ah rfl rfl rfl) (ah rfl rfl rfl) (bT (aM rfl (aM rfl (aM rfl (aM rfl (aM rfl bG)))))) rfl rfl
      case g22=>refine' aH (aa Ao (fX (aQ (ah rfl rfl rfl) (ah rfl rfl rfl) rfl) (aB (aB (ah rfl rfl rfl) (ah rfl rfl rfl) rfl (λu u=>⟨_,rfl⟩)) ak rfl (λu u=>⟨_,rfl⟩)) (ah rfl rfl rfl)) (aa az (ah rfl rfl rfl) aj)) (LD rfl)
     case g13=>
      refine' bD (aQ (ah rfl rfl rfl) (ah rfl rfl rfl) rfl) ?g41 (bT (aM rfl (aM rfl (aM rfl (aM rfl (aM rfl bG))))))
      case g41=>refine' bH (cN G (T:="dict") (id:="dict.pop") (m:=0) PySem.F.plainAttrs_dict PySem.F.slot_dict_pop rfl (ah rfl rfl rfl) (aa az (ah rfl rfl rfl) (aa ao bg aj)) F8 (LI _) rfl rfl) (bT (aM rfl (aM rfl (aM rfl (aM rfl (aM rfl bG)))))) rfl rfl
    case g6=>refine' aF (ah rfl rfl rfl)
  case he=>exact rfl
theorem p5(G:Gd (KK w) mg mb base):bC prog w base 3 (.ref 276) gb:=by
 refine' oj G (n:=2) (names:=["walk","log"]) (k:=2) (m:=m2 mj) (ho:=rfl) (hcd:=rfl) (hbind:=?hb) (hloc:=(by decide)) (hcn:=(by decide)) (hb:=?body) rfl rfl rfl (by decide)
 case hb=>
  intro xs hl;obtain⟨a,b,rfl⟩:=HV hl;rfl
 case body=>
  intro l L hl;obtain⟨x_walk,x_log,rfl⟩:=dg hl;show aJ _ _ _ _ _ _ _ _ (mj x_walk x_log);refine' cC ?hh ?he
  case hh=>
   refine' aT (.inr rfl) (aI G (vf:=.ref 271) (kr G rfl) (aa az (ah rfl rfl rfl) (aa aK (aB (ah rfl rfl rfl) ak rfl (λu u=>⟨_,rfl⟩)) aj)) (kY G) (by omega) (AH (w:=w)) rfl rfl rfl) ?g2 rfl
   case g2=>
    intro v1;refine' mX (fuel:=1000) (lec:=[("some",v1)]) (pat:=cA) (ext:=λv=>[("place",v)]) (.inl rfl) (dc rfl rfl (by decide) rfl rfl (cX rfl bW) rfl) (gh (ah rfl rfl rfl)) (λL=>bY (.inl rfl)) (λu u=>gH) ?g15 (λp=>(aM rfl bG)) (λu=>rfl) j5 ?g18 rfl
    case g15=>
     intro L p;refine' aH ?g20 (LD rfl)
     case g20=>
      refine' aa az (ah rfl rfl rfl) ?g22
      case g22=>refine' aa aK (aB (aB (ah rfl rfl rfl) (ah rfl rfl rfl) rfl (λu u=>⟨_,rfl⟩)) ak rfl (λu u=>⟨_,rfl⟩)) (aa aK (aB (aB (ah rfl rfl rfl) (ah rfl rfl rfl) rfl (λu u=>⟨_,rfl⟩)) ak rfl (λu u=>⟨_,rfl⟩)) aj)
    case g18=>
     intro v2;refine' aF ?g35
     case g35=>
      refine' jI (fuel:=1000) (lec:=[("walk",x_walk)]) (pat:=cA) (ext:=λv=>[("row",v)]) (dc rfl rfl (by decide) rfl rfl (cX rfl bW) rfl) (gh (ah rfl rfl rfl)) (λL=>bY (.inl rfl)) ?g39 (λL p=>ah rfl rfl rfl) (λp=>(aM rfl bG)) (λu=>rfl) j5
      case g39=>
       intro L p;refine' qU ?g44
       case g44=>
        refine' fk ?g45
        case g45=>refine' eW (aQ (aB (ah rfl rfl rfl) ak rfl (λu u=>⟨_,rfl⟩)) (aB (ah rfl rfl rfl) ak rfl (λu u=>⟨_,rfl⟩)) rfl) (eW (aQ (aB (ah rfl rfl rfl) ak rfl (λu u=>⟨_,rfl⟩)) (aB (ah rfl rfl rfl) ak rfl (λu u=>⟨_,rfl⟩)) rfl) gD)
  case he=>exact rfl
theorem qz(G:Gd (KK w) mg mb base):bC prog w base 5 (.ref 283) fZ:=by
 refine' cg G (n:=4) (names:=["book","walk"]) (k:=2) (defs:=[]) (m:=m2 jl) (ho:=rfl) (hcd:=rfl) (hbind:=?hb) (hloc:=(by decide)) (hb:=?body) rfl rfl rfl (by decide) (by decide)
 case hb=>
  intro ρ s l xs X r hl;obtain⟨a,b,rfl⟩:=dg hl;refine⟨xs,LR ?_,by simpa using r⟩;refine r.bf λx6 xs6 q0 r=>?_;refine r.bf λx7 xs7 q1 r=>?_;cases r;rfl
 case body=>
  intro l L hl;obtain⟨x_book,x_walk,rfl⟩:=dg hl;show aJ _ _ _ _ _ _ _ _ (jl x_book x_walk);refine' cC ?hh ?he
  case hh=>
   refine' lz rfl rfl ?g1 ?g2 rfl rfl
   case g1=>
    refine' aH ?g3 (LD rfl)
    case g3=>refine' aa cZ (aI G (vf:=.ref 276) (oQ G rfl) (aa az (ah rfl rfl rfl) (aa aK (aB (ah rfl rfl rfl) av rfl (λu u=>⟨_,rfl⟩)) aj)) (p5 G) (by lia) (AD (w:=w)) rfl rfl rfl) (aa ao ak aj)
   case g2=>
    intro v1;refine' bD (aQ (aI G (vf:=.bi "len") (m:=0) (fQ G rfl) (aa az (ah rfl rfl rfl) aj) dW (LI _) rfl rfl rfl rfl) ak rfl) ?g17 ?g18
    case g17=>
     refine' aT (.inl rfl) ?g25 ?g26 rfl
     case g25=>
      refine' bw ?g27 (aI G (vf:=.bi "len") (m:=0) (fQ G rfl) (aa az (ah rfl rfl rfl) aj) dW (LI _) rfl rfl rfl rfl)
      case g27=>refine' fX (aQ (aB (ah rfl rfl rfl) av rfl (λu u=>⟨_,rfl⟩)) (aI G (vf:=.bi "len") (m:=0) (fQ G rfl) (aa aK (aB (ah rfl rfl rfl) av rfl (λu u=>⟨_,rfl⟩)) aj) dW (LI _) rfl rfl rfl rfl) rfl) (aB (aB (ah rfl rfl rfl) av rfl (λu u=>⟨_,rfl⟩)) (aB (ah rfl rfl rfl) av rfl (λu u=>⟨_,rfl⟩)) rfl (λu u=>⟨_,rfl⟩)) ak
     case g26=>
      intro v2;refine' gS (bw (aB (ah rfl rfl rfl) av rfl (λu u=>⟨_,rfl⟩)) ak) (ah rfl rfl rfl) av ?g55 rfl rfl
      case g55=>
       refine' aT (.inl rfl) ?g60 ?g61 rfl
       case g60=>refine' cz G (c:=197) (f:=194) (dF (w:=w)) (rE (w:=w)) (aB (ah rfl rfl rfl) ak rfl (λu u=>⟨_,rfl⟩)) (aa aK (aB (ah rfl rfl rfl) av rfl (λu u=>⟨_,rfl⟩)) aj) (dS G) (by lia) rfl rfl
       case g61=>
        intro v3;refine' bD (aQ (ah rfl rfl rfl) (ck aj) rfl) ?g71 ?g72
        case g71=>refine' aF (eO (ah rfl rfl rfl) bg rfl)
        case g72=>
         refine' jn (pat:=jE) (ext:=λg=>[("came",g.2.2),("value",g.2.1),("place",g.1)]) (DS (.inl rfl) (.inl rfl) (.inl rfl)) (aB (ah rfl rfl rfl) (ah rfl rfl rfl) rfl (λu u=>⟨_,rfl⟩)) ?g81 rfl rfl rfl
         case g81=>
          intro v4;refine' bH (cN G (T:="list") (id:="list.append") (m:=0) PySem.F.plainAttrs_list PySem.F.slot_list_append rfl (aB (ah rfl rfl rfl) ak rfl (λu u=>⟨_,rfl⟩)) (aa az (ah rfl rfl rfl) aj) dN (LI _) rfl rfl) ?g85 rfl rfl
          case g85=>
           refine' aF ?g92
           case g92=>refine' sD (eO (ah rfl rfl rfl) (aH (aa aK (aB (aB (ah rfl rfl rfl) av rfl (λu u=>⟨_,rfl⟩)) (ah rfl rfl rfl) rfl (λu u=>⟨_,rfl⟩)) (aa az (ah rfl rfl rfl) aj)) (LD rfl)) rfl) (eO (cL G (c:=225) (mU (w:=w)) (aB (ah rfl rfl rfl) av rfl (λu u=>⟨_,rfl⟩)) rfl) (aB (ah rfl rfl rfl) av rfl (λu u=>⟨_,rfl⟩)) rfl)
    case g18=>
     refine' aT (.inl rfl) ?g113 ?g114 rfl
     case g113=>refine' cz G (c:=197) (f:=194) (dF (w:=w)) (rE (w:=w)) (aB (ah rfl rfl rfl) ak rfl (λu u=>⟨_,rfl⟩)) (aa aK (aB (ah rfl rfl rfl) av rfl (λu u=>⟨_,rfl⟩)) aj) (dS G) (by lia) rfl rfl
     case g114=>
      intro v5;refine' bD (aQ (ah rfl rfl rfl) (ck aj) rfl) ?g124 ?g125
      case g124=>refine' aF (eO (ah rfl rfl rfl) bg rfl)
      case g125=>
       refine' jn (pat:=jE) (ext:=λg=>[("came",g.2.2),("value",g.2.1),("place",g.1)]) (DS (.inl rfl) (.inl rfl) (.inl rfl)) (aB (ah rfl rfl rfl) (ah rfl rfl rfl) rfl (λu u=>⟨_,rfl⟩)) ?g134 rfl rfl rfl
       case g134=>
        intro v6;refine' bH (cN G (T:="list") (id:="list.append") (m:=0) PySem.F.plainAttrs_list PySem.F.slot_list_append rfl (aB (ah rfl rfl rfl) ak rfl (λu u=>⟨_,rfl⟩)) (aa az (ah rfl rfl rfl) aj) dN (LI _) rfl rfl) ?g138 rfl rfl
        case g138=>
         refine' aF ?g145
         case g145=>refine' sD (eO (ah rfl rfl rfl) (aH (aa aK (aB (aB (ah rfl rfl rfl) av rfl (λu u=>⟨_,rfl⟩)) (ah rfl rfl rfl) rfl (λu u=>⟨_,rfl⟩)) (aa az (ah rfl rfl rfl) aj)) (LD rfl)) rfl) (eO (cL G (c:=225) (mU (w:=w)) (aB (ah rfl rfl rfl) av rfl (λu u=>⟨_,rfl⟩)) rfl) (aB (ah rfl rfl rfl) av rfl (λu u=>⟨_,rfl⟩)) rfl)
  case he=>exact rfl
theorem zP(G:Gd (KK w) mg mb base):bC prog w base 4 (.ref 288) kq:=by
 refine' oj G (n:=3) (names:=["book"]) (k:=1) (m:=m1 j8) (ho:=rfl) (hcd:=rfl) (hbind:=?hb) (hloc:=(by decide)) (hcn:=(by decide)) (hb:=?body) rfl rfl rfl (by decide)
 case hb=>
  intro xs hl;obtain⟨a,rfl⟩:=DF hl;rfl
 case body=>
  intro l L hl;obtain⟨x_book,rfl⟩:=jG hl;show aJ _ _ _ _ _ _ _ _ (j8 x_book);refine' cC ?hh ?he
  case hh=>
   refine' aT (.inr rfl) (aB (ah rfl rfl rfl) av rfl (λu u=>⟨_,rfl⟩)) ?g2 rfl
   case g2=>
    intro v1;refine' jN (pat:=lP) (ext:=λg=>[("table",g.2),("n",g.1)]) (fuel:=1000) (Kh (.inl rfl) (.inl rfl)) (xS G (r4 G rfl) (aa aK (aB (ah rfl rfl rfl) av rfl (λu u=>⟨_,rfl⟩)) aj) rfl rfl) ?g7 ?g8 (λu=>rfl) AE
    case g7=>
     intro v2;refine' aT (.inr rfl) (aI G (vf:=.ref 271) (kr G rfl) (aa aK (aB (ah rfl rfl rfl) av rfl (λu u=>⟨_,rfl⟩)) (aa az (ah rfl rfl rfl) aj)) (kY G) (by lia) (AH (w:=w)) rfl rfl rfl) ?g16 rfl
     case g16=>
      intro v3;refine' bD ?g25 ?g26 (bT (aM rfl (aM rfl (aM rfl bG))))
      case g25=>
       refine' fk ?g28
       case g28=>
        refine' d9 ?g29 ?g30
        case g29=>refine' aQ (cz G (c:=156) (f:=125) (ze (w:=w)) (Kv (w:=w)) (ah rfl rfl rfl) aj (BG G) (by lia) rfl rfl) (aI G (vf:=.bi "len") (m:=0) (fQ G rfl) (aa az (ah rfl rfl rfl) aj) dW (LI _) rfl rfl rfl rfl) rfl
        case g30=>
         refine' d9 ?g39 fY
         case g39=>
          refine' aQ ?g41 ?g42 rfl
          case g41=>refine' jI (fuel:=1000) (lec:=[]) (pat:=cA) (ext:=λv=>[("row",v)]) (dc rfl rfl (by decide) rfl rfl bW rfl) (gh (cz G (c:=156) (f:=153) (lS (w:=w)) (BF (w:=w)) (ah rfl rfl rfl) aj (mZ G) (by lia) rfl rfl)) (λL=>bY (.inl rfl)) (λu u=>gH) (λL p=>uJ (ah rfl rfl rfl)) (λp=>(aM rfl bG)) (λu=>rfl) j5
          case g42=>
           refine' jI (fuel:=1000) (lec:=[("keys",v1),("some",v3)]) (pat:=cA) (ext:=λv=>[("k",v)]) (dc rfl rfl (by decide) rfl rfl (cX rfl (cX rfl bW)) rfl) (gh (ah rfl rfl rfl)) (λL=>bY (.inl rfl)) (λu u=>gH) ?g58 (λp=>(aM rfl bG)) (λu=>rfl) j5
           case g58=>
            intro L p;refine' aH (aa aK (aB (ah rfl rfl rfl) (ah rfl rfl rfl) rfl (λu u=>⟨_,rfl⟩)) (aa aK (aB (aB (ah rfl rfl rfl) (ah rfl rfl rfl) rfl (λu u=>⟨_,rfl⟩)) ak rfl (λu u=>⟨_,rfl⟩)) aj)) (LD rfl)
      case g26=>refine' aF bu
    case g8=>
     refine' jN (pat:=cA) (ext:=λv=>[("walk",v)]) (fuel:=1000) (bY (.inl rfl)) (gh (aB (ah rfl rfl rfl) av rfl (λu u=>⟨_,rfl⟩))) ?g76 ?g77 (λu=>rfl) j5
     case g76=>
      intro v4;refine' mX (fuel:=1000) (lec:=[("keys",v1)]) (pat:=jE) (ext:=λg=>[("came",g.2.2),("value",g.2.1),("place",g.1)]) (.inl rfl) (dc rfl rfl (by decide) rfl rfl (cX rfl bW) rfl) (gh (aI G (vf:=.ref 276) (oQ G rfl) (aa az (ah rfl rfl rfl) (aa aK (aB (ah rfl rfl rfl) av rfl (λu u=>⟨_,rfl⟩)) aj)) (p5 G) (by lia) (AD (w:=w)) rfl rfl rfl)) (λL=>DS (.inl rfl) (.inl rfl) (.inl rfl)) (λu u=>gH) (λL p=>aH (aa aK (aB (ah rfl rfl rfl) (ah rfl rfl rfl) rfl (λu u=>⟨_,rfl⟩)) (aa az (ah rfl rfl rfl) aj)) (LD rfl)) (λp=>(aM rfl (aM rfl (aM rfl bG)))) (λu=>rfl) AE ?g89 rfl
      case g89=>
       intro v5;refine' bD ?g106 ?g107 (bT (aM rfl (aM rfl bG)))
       case g106=>
        refine' aQ ?g109 (ah rfl rfl rfl) rfl
        case g109=>refine' jI (fuel:=1000) (lec:=[]) (pat:=cA) (ext:=λv=>[("row",v)]) (dc rfl rfl (by decide) rfl rfl bW rfl) (gh (cz G (c:=197) (f:=187) (jh (w:=w)) (FT (w:=w)) (aB (ah rfl rfl rfl) ak rfl (λu u=>⟨_,rfl⟩)) aj (jQ G) (by lia) rfl rfl)) (λL=>bY (.inl rfl)) (λu u=>gH) (λL p=>uJ (ah rfl rfl rfl)) (λp=>(aM rfl bG)) (λu=>rfl) j5
       case g107=>refine' aF bu
     case g77=>refine' aF bu
  case he=>exact rfl
theorem gn(G:Gd (KK w) mg mb base):bC prog w base 9 (.ref 295) bQ:=by
 refine' cg G (n:=8) (names:=["book","n","place"]) (k:=3) (defs:=[]) (m:=m3 gr) (ho:=rfl) (hcd:=rfl) (hbind:=?hb) (hloc:=(by decide)) (hb:=?body) rfl rfl rfl (by decide) (by decide)
 case hb=>
  intro ρ s l xs X r hl;obtain⟨a,b,c,rfl⟩:=wK hl;refine⟨xs,LR ?_,by simpa using r⟩;refine r.bf λx8 xs8 q0 r=>?_;refine r.bf λx9 xs9 q1 r=>?_;refine r.bf λx10 xs10 q2 r=>?_;cases r;rfl
 case body=>
  intro l L hl;obtain⟨x_book,x_n,x_place,rfl⟩:=wK hl;show aJ _ _ _ _ _ _ _ _ (gr x_book x_n x_place);refine' cC ?hh ?he
  case hh=>
   refine' aT (.inl rfl) (aI G (vf:=.ref 271) (kr G rfl) (aa aK (aB (ah rfl rfl rfl) av rfl (λu u=>⟨_,rfl⟩)) (aa az (ah rfl rfl rfl) aj)) (kY G) (by lia) (AH (w:=w)) rfl rfl rfl) ?g2 rfl
   case g2=>
    intro v1;refine' aT (.inl rfl) ?g11 ?g12 rfl
    case g11=>refine' fX (aQ (ah rfl rfl rfl) (ah rfl rfl rfl) rfl) (aH (aa aK (aB (aB (ah rfl rfl rfl) (ah rfl rfl rfl) rfl (λu u=>⟨_,rfl⟩)) ak rfl (λu u=>⟨_,rfl⟩)) (aa ao bu aj)) (LD rfl)) (aH (aa ao bg (aa ao bu aj)) (LD rfl))
    case g12=>
     intro v2;refine' aF ?g32
     case g32=>
      refine' eO ?g33 (ah rfl rfl rfl) rfl
      case g33=>refine' cz G (c:=156) (f:=132) (rZ (w:=w)) (FI (w:=w)) (aB (aB (ah rfl rfl rfl) av rfl (λu u=>⟨_,rfl⟩)) (ah rfl rfl rfl) rfl (λu u=>⟨_,rfl⟩)) (aa aK (aB (aB (ah rfl rfl rfl) av rfl (λu u=>⟨_,rfl⟩)) (ah rfl rfl rfl) rfl (λu u=>⟨_,rfl⟩)) aj) (tM G) (by lia) rfl rfl
  case he=>exact rfl
end
section
variable{prog:Program}{w:World}{base:Heap}{n:Nat}{env:Env}{le keep:List (Str×V)}{mg mb:Str->Option Value}
theorem zk(G:Gd (KK w) mg mb base):bC prog w base 10 (.ref 302) lN:=by
 refine' oj G (n:=9) (names:=["table","key"]) (k:=2) (m:=m2 jm) (ho:=rfl) (hcd:=rfl) (hbind:=?hb) (hloc:=(by decide)) (hcn:=(by decide)) (hb:=?body) rfl rfl rfl (by decide)
 case hb=>
  intro xs hl;obtain⟨a,b,rfl⟩:=HV hl;rfl
 case body=>
  intro l L hl;obtain⟨x_table,x_key,rfl⟩:=dg hl;show aJ _ _ _ _ _ _ _ _ (jm x_table x_key);refine' cC ?hh ?he
  case hh=>
   refine' aT (.inl rfl) (ck aj) ?g2 rfl
   case g2=>
    intro v1;refine' z8 (n:=8) (ds:=[⟨_,_,_,_,bZ 156 "get" (pure x_table) (af (pure x_key) (pure [])) fK⟩,⟨_,_,_,_,bZ 156 "put" (pure x_table) (af (pure x_key) (af (pure (.int 1)) (pure []))) cY⟩,⟨_,_,_,_,bZ 156 "remove" (pure x_table) (af (pure x_key) (pure [])) dI⟩]) (lec:=[("table",x_table),("key",x_key)]) G (Hi G) rfl rfl rfl rfl rfl rfl rfl rfl rfl (λy=>rfl) rfl ?g4 (λy y=>rfl) rfl rfl (LD rfl) (Lk ?g5 ?g6 ?g7) ?g8
    case g4=>
     intro u v;refine' bH ?g9 (bT bG) rfl rfl
     case g9=>refine' cN G (T:="list") (id:="list.append") (m:=0) PySem.F.plainAttrs_list PySem.F.slot_list_append rfl (ah rfl rfl rfl) (aa aK (aB (G9 G (c:=64) (B0 (w:=w)) (ah rfl rfl rfl) rfl) ak rfl (λy y=>⟨_,rfl⟩)) aj) dN (LI _) rfl rfl
    case g5=>
     refine'⟨λv=>dc rfl rfl (by dsimp only;decide) rfl rfl (cX rfl (cX rfl bW)) rfl,lY ?g18,rfl,λy y=>rfl,(λf L c=>cz G (c:=156) (f:=132) (rZ (w:=w)) (FI (w:=w)) (ah rfl rfl rfl) (aa az (ah rfl rfl rfl) aj) (tM G) (by lia) rfl rfl),rfl,rfl⟩
     case g18=>
      intro p hp e;rcases Lx hp with rfl|hp
      ·exact⟨_,rfl⟩
      ·rcases Lx hp with rfl|hp
       ·exact⟨_,rfl⟩
       ·exact nomatch hp
    case g6=>
     refine'⟨λv=>dc rfl rfl (by dsimp only;decide) rfl rfl (cX rfl (cX rfl bW)) rfl,lY ?g24,rfl,λy y=>rfl,(λf L c=>cz G (c:=156) (f:=139) (j6 (w:=w)) (vG (w:=w)) (ah rfl rfl rfl) (aa az (ah rfl rfl rfl) (aa ao ak aj)) (k6 G) (by lia) rfl rfl),rfl,rfl⟩
     case g24=>
      intro p hp e;rcases Lx hp with rfl|hp
      ·exact⟨_,rfl⟩
      ·rcases Lx hp with rfl|hp
       ·exact⟨_,rfl⟩
       ·exact nomatch hp
    case g7=>
     refine'⟨λv=>dc rfl rfl (by dsimp only;decide) rfl rfl (cX rfl (cX rfl bW)) rfl,lY ?g32,rfl,λy y=>rfl,(λf L c=>cz G (c:=156) (f:=146) (nP (w:=w)) (FL (w:=w)) (ah rfl rfl rfl) (aa az (ah rfl rfl rfl) aj) (pg G) (by lia) rfl rfl),rfl,rfl⟩
     case g32=>
      intro p hp e;rcases Lx hp with rfl|hp
      ·exact⟨_,rfl⟩
      ·rcases Lx hp with rfl|hp
       ·exact⟨_,rfl⟩
       ·exact nomatch hp
    case g8=>refine' aF (eO (ah rfl rfl rfl) (bw (ck (aa ao c9 aj)) ak) rfl)
  case he=>exact rfl
theorem DT(G:Gd (KK w) mg mb base):bC prog w base 11 (.ref 309) l5:=by
 refine' cg G (n:=10) (names:=["reel","book","turn"]) (k:=3) (defs:=[]) (m:=m3 l6) (ho:=rfl) (hcd:=rfl) (hbind:=?hb) (hloc:=(by decide)) (hb:=?body) rfl rfl rfl (by decide) (by decide)
 case hb=>
  intro ρ s l xs X r hl;obtain⟨a,b,c,rfl⟩:=wK hl;refine⟨xs,LR ?_,by simpa using r⟩;refine r.bf λx1 xs1 q0 r=>?_;refine r.bf λx2 xs2 q1 r=>?_;refine r.bf λx3 xs3 q2 r=>?_;cases r;rfl
 case body=>
  intro l L hl;obtain⟨x_reel,x_book,x_turn,rfl⟩:=wK hl;show aJ _ _ _ _ _ _ _ _ (l6 x_reel x_book x_turn);refine' cC ?hh ?he
  case hh=>
   refine' CB rfl rfl rfl ?g1 ?g2 rfl rfl
   case g1=>
    refine' aH ?g3 (LD rfl)
    case g3=>
     refine' aa cZ (aI G (vf:=.ref 243) (dP G rfl) (aa az (ah rfl rfl rfl) (aa ao ak aj)) (eZ G) (by lia) (kg (w:=w)) rfl rfl rfl) ?g5
     case g5=>refine' aa cZ (aI G (vf:=.ref 243) (dP G rfl) (aa az (ah rfl rfl rfl) (aa ao ak aj)) (eZ G) (by lia) (kg (w:=w)) rfl rfl rfl) (aa cZ (aI G (vf:=.ref 243) (dP G rfl) (aa az (ah rfl rfl rfl) (aa ao ak aj)) (eZ G) (by lia) (kg (w:=w)) rfl rfl rfl) aj)
   case g2=>
    intro v1;refine' lz rfl rfl ?g28 ?g29 rfl rfl
    case g28=>
     refine' aH ?g30 (LD rfl)
     case g30=>refine' aa aK (aB (aB (ah rfl rfl rfl) av rfl (λu u=>⟨_,rfl⟩)) (ah rfl rfl rfl) rfl (λu u=>⟨_,rfl⟩)) (aa aK (aB (aB (ah rfl rfl rfl) av rfl (λu u=>⟨_,rfl⟩)) (ah rfl rfl rfl) rfl (λu u=>⟨_,rfl⟩)) aj)
    case g29=>
     intro v2;refine' bD (aQ (ah rfl rfl rfl) ak rfl) ?g44 ?g45
     case g44=>
      refine' aT (.inl rfl) (fX (aQ (aI G (vf:=.ref 243) (dP G rfl) (aa az (ah rfl rfl rfl) (aa ao ak aj)) (eZ G) (by lia) (kg (w:=w)) rfl rfl rfl) ak rfl) bg (ah rfl rfl rfl)) ?g49 rfl
      case g49=>
       intro v3;refine' bH (cz G (c:=156) (f:=139) (j6 (w:=w)) (vG (w:=w)) (ah rfl rfl rfl) (aa az (ah rfl rfl rfl) (aa az (ah rfl rfl rfl) aj)) (k6 G) (by lia) rfl rfl) ?g62 rfl rfl
       case g62=>
        refine' bH ?g69 ?g70 rfl rfl
        case g69=>refine' cN G (T:="list") (id:="list.append") (m:=0) PySem.F.plainAttrs_list PySem.F.slot_list_append rfl (aB (ah rfl rfl rfl) av rfl (λu u=>⟨_,rfl⟩)) (aa aR (aH (aa az (ah rfl rfl rfl) (aa az (ah rfl rfl rfl) (aa az (ah rfl rfl rfl) (aa ao bu aj)))) (LD rfl)) aj) dN (LI _) rfl rfl
        case g70=>refine' aF (aI G (vf:=.ref 295) (gg G rfl) (aa az (ah rfl rfl rfl) (aa az (ah rfl rfl rfl) (aa az (ah rfl rfl rfl) aj))) (gn G) (by lia) (vN (w:=w)) rfl rfl rfl)
     case g45=>
      refine' bD (aQ (ah rfl rfl rfl) ak rfl) ?g96 ?g97
      case g96=>
       refine' bH (cz G (c:=156) (f:=146) (nP (w:=w)) (FL (w:=w)) (ah rfl rfl rfl) (aa az (ah rfl rfl rfl) aj) (pg G) (by lia) rfl rfl) ?g101 rfl rfl
       case g101=>
        refine' bH ?g106 ?g107 rfl rfl
        case g106=>refine' cN G (T:="list") (id:="list.append") (m:=0) PySem.F.plainAttrs_list PySem.F.slot_list_append rfl (aB (ah rfl rfl rfl) av rfl (λu u=>⟨_,rfl⟩)) (aa aR (aH (aa az (ah rfl rfl rfl) (aa az (ah rfl rfl rfl) (aa ao bg (aa ao bu aj)))) (LD rfl)) aj) dN (LI _) rfl rfl
        case g107=>refine' aF (aI G (vf:=.ref 295) (gg G rfl) (aa az (ah rfl rfl rfl) (aa az (ah rfl rfl rfl) (aa az (ah rfl rfl rfl) aj))) (gn G) (by lia) (vN (w:=w)) rfl rfl rfl)
      case g97=>
       refine' bD (aQ (ah rfl rfl rfl) ak rfl) ?g133 ?g134
       case g133=>
        refine' aF ?g137
        case g137=>refine' aI G (vf:=.ref 302) (xw G rfl) (aa az (ah rfl rfl rfl) (aa aK (aB (aI G (vf:=.ref 264) (AY G rfl) aj (Cr G) (by lia) (JI (w:=w)) rfl rfl rfl) (bw (ah rfl rfl rfl) ak) rfl (λu u=>⟨_,rfl⟩)) aj)) (zk G) (by lia) (JS (w:=w)) rfl rfl rfl
       case g134=>
        refine' bD ?g150 ?g151 ?g152
        case g150=>
         refine' fk ?g153
         case g153=>
          refine' d9 (aQ (aB (ah rfl rfl rfl) av rfl (λu u=>⟨_,rfl⟩)) (ck aj) rfl) ?g155
          case g155=>
           refine' d9 ?g161 fY
           case g161=>
            refine' fk ?g163
            case g163=>refine' eW (aQ (ah rfl rfl rfl) ak rfl) (eW (aQ (aI G (vf:=.bi "len") (m:=0) (fQ G rfl) (aa aK (aB (ah rfl rfl rfl) av rfl (λu u=>⟨_,rfl⟩)) aj) dW (LI _) rfl rfl rfl rfl) ak rfl) gD)
        case g151=>
         refine' bH ?g178 ?g179 rfl rfl
         case g178=>
          refine' cN G (T:="list") (id:="list.append") (m:=0) PySem.F.plainAttrs_list PySem.F.slot_list_append rfl (aB (ah rfl rfl rfl) av rfl (λu u=>⟨_,rfl⟩)) ?g181 dN (LI _) rfl rfl
          case g181=>
           refine' aa pD ?g184 aj
           case g184=>
            refine' ck ?g186
            case g186=>
             refine' aa cZ (aI G (vf:=.ref 197) (nE G rfl) (aa az (ah rfl rfl rfl) aj) (oA G) (by lia) (z4 (w:=w)) rfl rfl rfl) ?g188
             case g188=>refine' aa az (ah rfl rfl rfl) (aa cZ (aI G (vf:=.bi "len") (m:=0) (fQ G rfl) (aa aK (aB (ah rfl rfl rfl) av rfl (λu u=>⟨_,rfl⟩)) aj) dW (LI _) rfl rfl rfl rfl) (aa pD (ck aj) aj))
         case g179=>refine' aF (aI G (vf:=.ref 295) (gg G rfl) (aa az (ah rfl rfl rfl) (aa az (ah rfl rfl rfl) (aa az (ah rfl rfl rfl) aj))) (gn G) (by lia) (vN (w:=w)) rfl rfl rfl)
        case g152=>
         refine' aF ?g215
         case g215=>
          refine' aI G (vf:=.ref 283) (pG G rfl) ?g217 (qz G) (by lia) (Fv (w:=w)) rfl rfl rfl
          case g217=>
           refine' aa az (ah rfl rfl rfl) ?g219
           case g219=>
            refine' aa aK ?g220 aj
            case g220=>
             refine' aB (aB (ah rfl rfl rfl) av rfl (λu u=>⟨_,rfl⟩)) ?g223 rfl (λu u=>⟨_,rfl⟩)
             case g223=>refine' aI G (vf:=.ref 243) (dP G rfl) (aa az (ah rfl rfl rfl) (aa cZ (aI G (vf:=.bi "len") (m:=0) (fQ G rfl) (aa aK (aB (ah rfl rfl rfl) av rfl (λu u=>⟨_,rfl⟩)) aj) dW (LI _) rfl rfl rfl rfl) aj)) (eZ G) (by lia) (kg (w:=w)) rfl rfl rfl
  case he=>exact rfl
theorem tF(G:Gd (KK w) mg mb base):bC prog w base 9 (.ref 314) gq:=by
 refine' cg G (n:=8) (names:=[]) (k:=0) (defs:=[]) (m:=m0 jb) (ho:=rfl) (hcd:=rfl) (hbind:=?hb) (hloc:=(by decide)) (hb:=?body) rfl rfl rfl (by decide) (by decide)
 case hb=>
  intro ρ s l xs X r hl;obtain rfl:=len0 hl;cases r;exact⟨[],LR rfl,.nil⟩
 case body=>
  intro l L hl;obtain rfl:=len0 hl;show aJ _ _ _ _ _ _ _ _ (jb);refine' cC ?hh ?he
  case hh=>
   refine' lz rfl rfl ?g1 ?g2 rfl rfl
   case g1=>
    refine' aH ?g3 (LD rfl)
    case g3=>refine' aa cZ (aI G (vf:=.ref 156) (ug G rfl) (aa az (qd G rfl) aj) (xD G) (by lia) (AV (w:=w)) rfl rfl rfl) (aa cZ (aI G (vf:=.ref 225) (uR G rfl) (aa pD (ck aj) aj) (yb G) (by lia) (Gb (w:=w)) rfl rfl rfl) aj)
   case g2=>
    intro v1;refine' bH (cz G (c:=156) (f:=139) (j6 (w:=w)) (vG (w:=w)) (ah rfl rfl rfl) (aa ao c9 (aa ao ak aj)) (k6 G) (by lia) rfl rfl) ?g18 rfl rfl
    case g18=>
     refine' aT (.inl rfl) (aI G (vf:=.ref 197) (nE G rfl) (aa az (ah rfl rfl rfl) aj) (oA G) (by lia) (z4 (w:=w)) rfl rfl rfl) ?g26 rfl
     case g26=>
      intro v2;refine' bH (cz G (c:=156) (f:=139) (j6 (w:=w)) (vG (w:=w)) (ah rfl rfl rfl) (aa ao c9 (aa ao ak aj)) (k6 G) (by lia) rfl rfl) ?g32 rfl rfl
      case g32=>
       refine' bD ?g39 ?g40 ?g41
       case g39=>
        refine' fk ?g42
        case g42=>
         refine' d9 ?g43 (d9 (aQ (cz G (c:=197) (f:=194) (dF (w:=w)) (rE (w:=w)) (ah rfl rfl rfl) (aa az (ah rfl rfl rfl) aj) (dS G) (by lia) rfl rfl) bg rfl) fY)
         case g43=>refine' aQ (cz G (c:=197) (f:=194) (dF (w:=w)) (rE (w:=w)) (ah rfl rfl rfl) (aa az (ah rfl rfl rfl) aj) (dS G) (by lia) rfl rfl) (aH (aa ao c9 (aa ao ak aj)) (LD rfl)) rfl
       case g40=>refine' aF bu
       case g41=>
        refine' aF ?g65
        case g65=>
         refine' sD ?g66 ?g67
         case g66=>
          refine' eO ?g68 bg rfl
          case g68=>refine' cz G (c:=197) (f:=194) (dF (w:=w)) (rE (w:=w)) (aI G (vf:=.ref 197) (nE G rfl) (aa ao bg aj) (oA G) (by lia) (z4 (w:=w)) rfl rfl rfl) (aa az (ah rfl rfl rfl) aj) (dS G) (by lia) rfl rfl
         case g67=>
          refine' eO ?g78 ?g79 rfl
          case g78=>refine' jI (fuel:=1000) (lec:=[]) (pat:=cA) (ext:=λv=>[("row",v)]) (dc rfl rfl (by decide) rfl rfl bW rfl) (gh (cz G (c:=156) (f:=153) (lS (w:=w)) (BF (w:=w)) (ah rfl rfl rfl) aj (mZ G) (by lia) rfl rfl)) (λL=>bY (.inl rfl)) (λu u=>gH) (λL p=>uJ (ah rfl rfl rfl)) (λp=>(aM rfl bG)) (λu=>rfl) j5
          case g79=>refine' ck (aa aR (aH (aa ao c9 (aa ao ak aj)) (LD rfl)) (aa aR (aH (aa ao c9 (aa ao ak aj)) (LD rfl)) aj))
  case he=>exact rfl
theorem K6(G:Gd (KK w) mg mb base){sc:Addr}{zs:List Int}(hS:nu base sc zs):gO prog w base 12 (.ref 319) (zB sc zs):=by
 refine' we G (n:=11) (names:=["script"]) (k:=1) (m:=m1 (zF sc zs)) (ho:=rfl) (hcd:=rfl) (hbind:=?hb) (hloc:=(by decide)) (hcn:=(by decide)) (hb:=?body) rfl rfl rfl (by decide)
 case hb=>
  intro xs hl;obtain⟨a,rfl⟩:=DF hl;rfl
 case body=>
  intro l L hl;obtain⟨x_script,rfl⟩:=jG hl;show aJ _ _ _ _ _ _ _ _ (zF sc zs x_script);refine' cC ?hh ?he
  case hh=>
   refine' bD (kQ (gj (aI G (vf:=.ref 314) (rT G rfl) aj (tF G) (by lia) (JR (w:=w)) rfl rfl rfl) rfl)) ?g2 ?g3
   case g2=>refine' aF bu
   case g3=>
    refine' bD ?g9 ?g10 ?g11
    case g9=>
     refine' fk ?g12
     case g12=>refine' d9 (aQ (aI G (vf:=.bi "len") (m:=0) (fQ G rfl) (aa az (ah rfl rfl rfl) aj) (xY hS) (LI _) rfl rfl rfl rfl) ak rfl) (d9 (aQ (A7 hS (ah rfl rfl rfl) ak rfl (λy y=>⟨_,rfl⟩)) ak rfl) fY)
    case g10=>refine' aF bu
    case g11=>
     refine' aT (.inr rfl) (aI G (vf:=.ref 236) (Cd G rfl) (aa az (ah rfl rfl rfl) aj) (Dm G hS) (by lia) (Kc (w:=w)) rfl rfl rfl) ?g29 rfl
     case g29=>
      intro v1;refine' jn (pat:=lP) (ext:=λg=>[("row",g.2),("first",g.1)]) (Kh (.inr ⟨rfl,rfl⟩) (.inl rfl)) ?g35 ?g36 rfl rfl rfl
      case g35=>
       refine' aH ?g37 (LD rfl)
       case g37=>
        refine' aa cZ (aI G (vf:=.ref 243) (dP G rfl) (aa az (ah rfl rfl rfl) (aa ao ak aj)) (eZ G) (by lia) (kg (w:=w)) rfl rfl rfl) ?g39
        case g39=>
         refine' aa CD ?g46 aj
         case g46=>refine' jI (fuel:=1000) (lec:=[("reel",v1)]) (pat:=cA) (ext:=λv=>[("turn",v)]) (dc rfl rfl (by decide) rfl rfl (cX rfl bW) rfl) (iW G (kZ G rfl) (aa cZ (aI G (vf:=.ref 243) (dP G rfl) (aa az (ah rfl rfl rfl) (aa ao ak aj)) (eZ G) (by lia) (kg (w:=w)) rfl rfl rfl) aj) rfl rfl) (λL=>bY (.inl rfl)) (λy y=>gH) (λL p=>aI G (vf:=.ref 243) (dP G rfl) (aa az (ah rfl rfl rfl) (aa ao ak aj)) (eZ G) (by lia) (kg (w:=w)) rfl rfl rfl) (λp=>(aM rfl bG)) (λy=>rfl) kN
      case g36=>
       intro v2;refine' aT (.inr rfl) ?g70 ?g71 rfl
       case g70=>
        refine' vF (pairs:=[(_,_),(_,_),(_,_)]) ?g72 rfl (by simp) (LD rfl)
        case g72=>
         refine' gM (c:=0) (kp:=⟨0,0,0,0⟩) ?g73 (gM (c:=0) (kp:=⟨0,0,0,0⟩) (ah rfl rfl rfl) (gM (c:=0) (kp:=⟨0,0,0,0⟩) (aI G (vf:=.ref 225) (uR G rfl) (aa az (ah rfl rfl rfl) aj) (yb G) (by lia) (Gb (w:=w)) rfl rfl rfl) yj))
         case g73=>refine' jI (fuel:=1000) (lec:=[("first",v2.1)]) (pat:=cA) (ext:=λv=>[("k",v)]) (dc rfl rfl (by decide) rfl rfl (cX rfl bW) rfl) (iW G (kZ G rfl) (aa ao ak aj) rfl rfl) (λL=>bY (.inl rfl)) (λy y=>gH) (λL p=>aB (aI G (vf:=.ref 257) (Cx G rfl) aj (D8 G) (by lia) (JK (w:=w)) rfl rfl rfl) (bw (bw (ah rfl rfl rfl) (bw ak (ah rfl rfl rfl))) ak) rfl (λy y=>⟨_,rfl⟩)) (λp=>(aM rfl bG)) (λy=>rfl) kN
       case g71=>
        intro v3;refine' bH ?g103 ?g104 rfl rfl
        case g103=>
         refine' cN G (T:="dict") (id:="dict.update") (m:=0) PySem.F.plainAttrs_dict PySem.F.slot_dict_update rfl (ah rfl rfl rfl) ?g106 Cn (LI _) rfl rfl
         case g106=>
          refine' aa Jq ?g107 aj
          case g107=>
           refine' vF (pairs:=[(_,_),(_,_),(_,_),(_,_)]) ?g109 rfl (by simp) (LD rfl)
           case g109=>
            refine' gM (c:=0) (kp:=⟨0,0,0,0⟩) ?g110 (gM (c:=0) (kp:=⟨0,0,0,0⟩) (ck aj) (gM (c:=0) (kp:=⟨0,0,0,0⟩) (ck aj) (gM (c:=0) (kp:=⟨0,0,0,0⟩) ak yj)))
            case g110=>
             refine' ck ?g112
             case g112=>refine' aa cZ (aI G (vf:=.ref 156) (ug G rfl) (aa az (qd G rfl) aj) (xD G) (by lia) (AV (w:=w)) rfl rfl rfl) (aa cZ (aI G (vf:=.ref 156) (ug G rfl) (aa az (qd G rfl) aj) (xD G) (by lia) (AV (w:=w)) rfl rfl rfl) aj)
        case g104=>
         refine' jN (pat:=cA) (ext:=λv=>[("turn",v)]) (fuel:=1000) (bY (.inl rfl)) (iW G (kZ G rfl) (aa pT (bw ak (aI G (vf:=.ref 243) (dP G rfl) (aa az (ah rfl rfl rfl) (aa ao ak aj)) (eZ G) (by lia) (kg (w:=w)) rfl rfl rfl)) aj) rfl rfl) ?g135 ?g136 (λy=>rfl) kN
         case g135=>
          intro v4;refine' bD ?g149 ?g150 (bT (aM rfl bG))
          case g149=>
           refine' fk ?g152
           case g152=>refine' d9 (kQ (gj (aI G (vf:=.ref 309) (CN G rfl) (aa az (ah rfl rfl rfl) (aa az (ah rfl rfl rfl) (aa az (ah rfl rfl rfl) aj))) (DT G) (by lia) (Kq (w:=w)) rfl rfl rfl) rfl)) (d9 (kQ (gj (aI G (vf:=.ref 288) (yz G rfl) (aa az (ah rfl rfl rfl) aj) (zP G) (by lia) (JU (w:=w)) rfl rfl rfl) rfl)) fY)
          case g150=>refine' aF bu
         case g136=>
          refine' jN (pat:=cA) (ext:=λv=>[("walk",v)]) (fuel:=1000) (bY (.inl rfl)) (gh (aB (ah rfl rfl rfl) av rfl (λy y=>⟨_,rfl⟩))) ?g176 ?g177 (λy=>rfl) j5
          case g176=>
           intro v5;refine' jN (pat:=cA) (ext:=λv=>[("turn",v)]) (fuel:=1000) (bY (.inl rfl)) ?g183 ?g184 (bT (aM rfl bG)) (λy=>rfl) kN
           case g183=>
            refine' iW G (kZ G rfl) ?g187 rfl rfl
            case g187=>
             refine' aa pT ?g188 aj
             case g188=>
              refine' bw ?g190 ak
              case g190=>refine' aI G (vf:=.bi "len") (m:=0) (fQ G rfl) (aa cZ (aI G (vf:=.ref 276) (oQ G rfl) (aa az (ah rfl rfl rfl) (aa aK (aB (ah rfl rfl rfl) av rfl (λy y=>⟨_,rfl⟩)) aj)) (p5 G) (by lia) (AD (w:=w)) rfl rfl rfl) aj) dW (LI _) rfl rfl rfl rfl
           case g184=>
            intro v6;refine' bD (kQ (gj (aI G (vf:=.ref 283) (pG G rfl) (aa az (ah rfl rfl rfl) (aa az (ah rfl rfl rfl) aj)) (qz G) (by lia) (Fv (w:=w)) rfl rfl rfl) rfl)) ?g205 (bT (aM rfl bG))
            case g205=>refine' aF bu
          case g177=>
           refine' aF ?g216
           case g216=>
            refine' eO ?g217 (ck aj) rfl
            case g217=>refine' GG (fuel:=1000) (f1:=1000) (lec:=[("book",v3)]) (pat:=cA) (ext:=λv=>[("place",v)]) (dc rfl rfl (by decide) rfl rfl (cX rfl bW) rfl) (iW G (kZ G rfl) (aa ao ak aj) rfl rfl) (λL=>bY (.inl rfl)) (λL u=>iW G (kZ G rfl) (aa ao ak aj) rfl rfl) (λv=>kN) (λL x=>rfl) (λL=>bY (.inl rfl)) (λL u p=>qU (kQ (gj (aI G (vf:=.ref 295) (gg G rfl) (aa az (ah rfl rfl rfl) (aa az (ah rfl rfl rfl) (aa az (ah rfl rfl rfl) aj))) (gn G) (by lia) (vN (w:=w)) rfl rfl rfl) rfl))) (λL u p=>ak) (λv p=>aM rfl bG) (λv=>aM rfl bG) (λy=>rfl) kN
  case he=>exact rfl
end
theorem GO{w:World}{s₁:Shared}{mg mb:Str->Option Value}{p:Program}{loose:List Str}{mean:ExcName->Option Value}(KX:(KK w).In s₁.heap)(T:Top p loose mean mg mb s₁.heap)(hT:TabsAt [(301,297)] s₁.heap) :
  Gd (KK w) mg mb (ghostOf s₁.heap [(301,297)]) where
 X:=ghost_K hT KX (by kernel_rfl)
 g:=ghost_ns hT T.g
 b:=ghost_ns hT T.b
 nolimit:=let⟨mc,a,r⟩:=T.nolimit;⟨mc,ghost_ns hT a,r⟩
 builtins:=T.builtins
 bm:=let⟨bm,ob,a1,a2,a3,a4,a5,a6⟩:=T.bmain;⟨bm,ob,a1,a2,ghost_get hT a3 (λq=>by rw[q] at a4;cases a4),a4,a5,a6⟩
theorem IE{w:World}{h:Heap}{mg:Str->Option Value}(hT:TabsAt [(301,297)] h)(hg:h.Ns mainGlobals mg):Rep w (ghostOf h [(301,297)]) [297] [.tab 297 []] h where
 len:=rfl
 nd:=by simp
 obj i o a e1 e2:=by
  cases i with
  |zero=>
   simp at e1 e2;subst e1;subst e2;exact⟨rfl,#[],(hT (301,297) (.head _)).2,trivial,λpos=>rfl⟩
  |succ i=>simp at e1
 sub b o e:=of_hideAll _ e
 off a ha:=by simp at ha;subst ha;exact hideAll_none _ (.head _)
 glob:=let⟨o,_,_,e,_⟩:=ghost_ns hT hg;⟨o,e⟩
 low a ha:=by simp at ha;subst ha;decide
theorem Jk{base h:Heap}:fj base callerA [297] h where
 fr:=⟨[],rfl,trivial⟩
 off a ha:=nomatch ha
 cls a ha:=nomatch ha
theorem GR:c7 12 callerA:=⟨by decide,by decide,λu=>rfl⟩
theorem Gh{f:List V->M V}{prog:Program}{w:World}{s₁:Shared}{mg mb:Str->Option Value}{p:Program}{loose:List Str}{mean:ExcName->Option Value}{sc:Addr}{Rz:Result->Shared->Prop}{σ':ai}{l:List ((Nat×Nat)×Nat)}
 (H:gO prog w (ghostOf s₁.heap [(301,297)]) 12 (.ref 319) f)(T:Top p loose mean mg mb s₁.heap)(hT:TabsAt [(301,297)] s₁.heap)
 (plainly:f [.ref sc] [.tab 297 []]=some (.ok (.bool true),σ'))(h0:σ'[(0:Nat)]?=some (.tab 297 l))
 (k:∀ h' tk,(∀ b o,(ghostOf s₁.heap [(301,297)]).get? b=some o->h'.get? b=some o)->GrownAll [(301,297)] h'->Rz (.ok (.ret (.bool true))) {s₁ with heap:=h',toks:=tk}) :
  codeAny (model prog w) callerA (.call (.ref 319) ⟨[.ref sc],[]⟩) Rz s₁:=by
 replace H:=H callerA [.tab 297 []] [297] s₁ [.ref sc] [.ref sc] (IE hT T.g) Jk GR (.cons (.ref sc) .nil);rw[plainly] at H;refine H Rz λρ' h' tk a G D r=>?_;cases r;refine k h' tk D.sub ⟨?_,trivial⟩;obtain⟨a,ha,x⟩:=D.addr h0;obtain⟨rfl,ps,e,_⟩:=x;exact⟨ps,e⟩
theorem GC{prog:Program}{w:World}{s₁:Shared}{mg mb:Str->Option Value}{p:Program}{loose:List Str}{mean:ExcName->Option Value}{sc:Addr}{vs:List Value}{zs:List Int}{Rz:Result->Shared->Prop}{σ':ai}{l:List ((Nat×Nat)×Nat)}
 (KX:(KK w).In s₁.heap)(T:Top p loose mean mg mb s₁.heap)(hT:TabsAt [(301,297)] s₁.heap)(hL:s₁.heap.IsList sc vs.toArray)(hI:IntsAre vs zs)(hlen:zs.length<=63)
 (plainly:zB sc zs [.ref sc] [.tab 297 []]=some (.ok (.bool true),σ'))(h0:σ'[(0:Nat)]?=some (.tab 297 l))
 (k:∀ h' tk,(∀ b o,(ghostOf s₁.heap [(301,297)]).get? b=some o->h'.get? b=some o)->GrownAll [(301,297)] h'->Rz (.ok (.ret (.bool true))) {s₁ with heap:=h',toks:=tk}) :
  codeAny (model prog w) callerA (.call (.ref 319) ⟨[.ref sc],[]⟩) Rz s₁:=
 Gh (K6 (GO KX T hT) ⟨hlen,vs,ghost_list hT hL,hI⟩) T hT plainly h0 k
def W{α:Type}(m:M α)(σ:ai)(Q:α->ai->Prop):Prop:=∃ a σ',m σ=some (.ok a,σ')/\Q a σ'
section
variable{α β:Type}{m:M α}{f:α->M β}{σ:ai}{a:α}
theorem W.bind{Q:β->ai->Prop}(h:W m σ λa σ'=>W (f a) σ' Q):W (m>>=f) σ Q:=by
 obtain⟨a,σ',e,b,σ'',e',q⟩:=h;exact⟨b,σ'',(M.sS e).trans e',q⟩
theorem W.pure{Q:α->ai->Prop}(h:Q a σ):W (Pure.pure a:M α) σ Q:=⟨a,σ,rfl,h⟩
theorem W.mono{Q Q':α->ai->Prop}(h:W m σ Q)(k:∀ a σ',Q a σ'->Q' a σ'):W m σ Q':=
 let⟨a,σ',e,q⟩:=h;⟨a,σ',e,k a σ' q⟩
theorem W.run{Q:α->ai->Prop}{σ':ai}(e:m σ=some (.ok a,σ'))(h:Q a σ'):W m σ Q:=⟨a,σ',e,h⟩
theorem W.aX{c:Prop}[Decidable c]{m m':M α}{Q:α->ai->Prop}(h:c)(k:W m σ Q):W (if c then m else m') σ Q:=by rw[if_pos h];exact k
theorem W.aS{c:Prop}[Decidable c]{m m':M α}{Q:α->ai->Prop}(h:¬c)(k:W m' σ Q):W (if c then m else m') σ Q:=by rw[if_neg h];exact k
end
def Ext(mods:List Nat)(σ σ':ai):Prop:=σ.length<=σ'.length/\∀ i o,i∉mods->σ[i]?=some o->σ'[i]?=some o
section
variable{mods mods':List Nat}{σ σ' σ'':ai}{i:Nat}{o:aq}
theorem Ext.refl:Ext mods σ σ:=⟨LP _,λq q q e=>e⟩
theorem Ext.trans(x:Ext mods σ σ')(y:Ext mods σ' σ''):Ext mods σ σ'':=⟨LZ x.1 y.1,λi o n e=>y.2 i o n (x.2 i o n e)⟩
theorem Ext.mono(x:Ext mods σ σ')(h:∀ i∈mods,i∈mods'):Ext mods' σ σ':=⟨x.1,λi o n e=>x.2 i o (λz=>n (h i z)) e⟩
theorem Ext.up(x:Ext [] σ σ'):Ext mods σ σ':=x.mono λq z=>nomatch z
theorem Ext.get(x:Ext mods σ σ')(e:σ[i]?=some o)(n:i∉mods):σ'[i]?=some o:=x.2 i o n e
theorem Ext.bh(x:Ext [] σ σ')(e:σ[i]?=some o):σ'[i]?=some o:=x.2 i o (λz=>nomatch z) e
theorem Ext.new:Ext mods σ (σ++[o]):=⟨by simp,λi o' q e=>by rw[List.getElem?_append_left (List.getElem?_eq_some_iff.mp e).1];exact e⟩
theorem Ext.set:Ext [i] σ (σ.set i o):=⟨by simp,λj o' n e=>by
 rw[List.getElem?_set_ne (λz=>n (by subst z;simp))];exact e⟩
theorem bB(e:σ[i]?=some o):i<σ.length:=(LA e).1
theorem aZ:(σ++[o])[σ.length]?=some o:=by simp
theorem get_set(e:i<σ.length):(σ.set i o)[i]?=some o:=by simp[e]
end
section
variable{σ:ai}{Q:V->ai->Prop}{i j n:Nat}{l r:List V}{v u:V}{k:Int}{x y:Str}
theorem Kr{mf:V}{ml:M (List V)}{g:List V->M V}(h:W ml σ λl σ'=>W (g l) σ' Q):W (aG (pure mf) mf ml g) σ Q:=by
 refine W.bind (W.pure ?_);rw[if_pos rfl];exact W.bind h
noncomputable def gI:ay->V
 |.next=>.none
 |.ret v=>v
theorem zG{m:M ay}(h:W m σ λc σ'=>Q (gI c) σ'):W (fin m) σ Q:=by
 refine W.bind (h.mono λc σ' q=>?_);cases c<;>exact W.pure q
theorem H7{m:M ay}(h:W m σ λc σ'=>Q (gI c) σ'):W (fn 0 (m0 m) []) σ Q:=W.aX rfl (zG h)
theorem mh{m:V->M ay}{a:V}(h:W (m a) σ λc σ'=>Q (gI c) σ'):W (fn 1 (m1 m) [a]) σ Q:=W.aX rfl (zG h)
theorem fS{m:V->V->M ay}{a b:V}(h:W (m a b) σ λc σ'=>Q (gI c) σ'):W (fn 2 (m2 m) [a,b]) σ Q:=W.aX rfl (zG h)
theorem zw{m:V->V->V->M ay}{a b c:V}(h:W (m a b c) σ λc σ'=>Q (gI c) σ'):W (fn 3 (m3 m) [a,b,c]) σ Q:=W.aX rfl (zG h)
theorem J6{m:M V}{ms:M (List V)}{Q:List V->ai->Prop}(h:W m σ λv σ'=>W ms σ' λl σ''=>Q (v::l) σ''):W (af m ms) σ Q:=
 W.bind (h.mono λz z q=>W.bind (q.mono λz z q=>W.pure q))
theorem K2{ms:M (List V)}(h:W ms σ λl σ'=>l.length<=1000/\Q (.tup l) σ'):W (aV ms) σ Q:=
 W.bind (h.mono λz z q=>W.aX q.1 (W.pure q.2))
theorem dR(hn:l.length<=1000)(h:Q (.obj σ.length) (σ++[.list l])):W (mV l) σ Q:=W.run (by unfold mV;rw[if_pos hn]) h
theorem cR(h:l[n]?=some v)(hn:n<=1000)(k:Q v σ):W (gR (.tup l) (.int n)) σ Q:=
 W.run (item_tup ⟨by lia,by lia⟩ h) k
theorem bS(hj:σ[j]?=some (.list l))(h:l[n]?=some v)(hn:n<=1000)(k:Q v σ):W (gR (.obj j) (.int n)) σ Q:=
 W.run (item_list hj ⟨by lia,by lia⟩ h) k
theorem pH{l:List (Int×V)}{ep:Nat}(hj:σ[j]?=some (.idd l ep))(h:bX l k=some v)(q:Q v σ):W (gR (.obj j) (.int k)) σ Q:=
 W.run (G8 hj h) q
theorem bE{l:List (Str×V)}(hj:σ[j]?=some (.sd l))(h:bX l x=some v)(q:Q v σ):W (gR (.obj j) (.str x)) σ Q:=
 W.run (Im hj h) q
theorem cV{c:Addr}{d:Nat}{l:List (Str×V)}(hi:σ[i]?=some (.inst c d))(hd:σ[d]?=some (.sd l))(h:l.lookup x=some v)(hb:qn v=true)(q:Q v σ):W (ve c (.obj i) x) σ Q:=
 W.run (Jo hi hd h hb) q
theorem cW{c:Addr}{d:Nat}{l:List (Str×V)}{Q:Unit->ai->Prop}(hi:σ[i]?=some (.inst c d))(hd:σ[d]?=some (.sd l))(h:l.lookup x=none)(q:Q () σ):W (vq c x (.obj i)) σ Q:=
 W.run (Iu hi hd h) q
theorem iH{c:Addr}{d:Nat}{l:List (Str×V)}{Q:Unit->ai->Prop}(hi:σ[i]?=some (.inst c d))(hd:σ[d]?=some (.sd l))(hl:l.length<900)(q:Q () (σ.set d (.sd (gC x v l)))):W (nO c (.obj i) x v) σ Q:=
 W.run (I3 hi hd hl) q
theorem aW{op:CmpOp}{b:Bool}{Q:Bool->ai->Prop}(h:nG op σ v u=some b)(q:Q b σ):W (kX op v u) σ Q:=
 W.run (a:=b) (σ':=σ) (by unfold kX;rw[h]) q
theorem dH{b:Bool}{Q:Bool->ai->Prop}(q:Q b σ):W (pM (.bool b)) σ Q:=W.pure q
theorem cU{op:Operator}{a b z:Int}(h:uF op a b=some z)(q:Q (.int z) σ):W (sE op (.int a) (.int b)) σ Q:=
 W.run (a:=V.int z) (σ':=σ) (by show (Option.map _ (uF op a b)).or _=_;rw[h];rfl) q
theorem DQ(hi:σ[i]?=some (.list l))(hj:σ[j]?=some (.list r))(hn:l.length+r.length<=1000)(q:Q (.obj σ.length) (σ++[.list (l++r)])):W (sE .Add (.obj i) (.obj j)) σ Q:=
 W.run (I2 hi hj hn) q
theorem iG(hi:σ[i]?=some (.list l))(hn:l.length<=1000)(q:Q (.int l.length) σ):W (c8 [.obj i]) σ Q:=W.run (len_list hi hn) q
theorem Ka{l:List (Int×V)}{ep:Nat}(hi:σ[i]?=some (.idd l ep))(hn:l.length<=1000)(q:Q (.int l.length) σ):W (c8 [.obj i]) σ Q:=W.run (I6 hi hn) q
theorem JD{l:List (List V×V)}(hi:σ[i]?=some (.td l))(hn:l.length<=1000)(q:Q (.int l.length) σ):W (c8 [.obj i]) σ Q:=W.run (Kp hi hn) q
theorem Ke(hn:l.length<=1000)(q:Q (.int l.length) σ):W (c8 [.tup l]) σ Q:=W.run (by show (few _ _ _).or _=_;rw[mP hn];rfl) q
theorem iF(hi:σ[i]?=some (.list l))(hn:l.length<=1000)(q:Q .none (σ.set i (.list (l++[v])))):W (cB [.obj i,v]) σ Q:=W.run (by show (listAt σ i).bind _=_;rw[cj hi];exact mP hn) q
theorem Ld(hi:σ[i]?=some (.list (l++[v])))(hn:l.length<1000)(q:Q v (σ.set i (.list l))):W (DH [.obj i]) σ Q:=W.run (by show (listAt σ i).bind _=_;rw[cj hi];show ite _ _ _=_;rw[if_pos (by simp;lia)];simp) q
theorem HK(hi:σ[i]?=some (.list l))(hj:σ[j]?=some (.list r))(hn:l.length<=1000/\r.length<=1000)(q:Q .none (σ.set i (.list (l++r)))):W (sP [.obj i,.obj j]) σ Q:=
 W.run (by show (listAt σ i).bind _=_;rw[cj hi];show (listAt σ j).bind _=_;rw[cj hj];exact if_pos hn) q
theorem K1(hi:σ[i]?=some (.list l))(hn:l.length<=1000)(q:Q (.obj σ.length) (σ++[.list l.reverse])):W (xo (.obj i)) σ Q:=
 W.run (rev_eq hi hn) q
theorem HS(hn:l.length<=1000)(q:Q (.obj σ.length) (σ++[.list l])):W (sM [.tup l]) σ Q:=W.run (mP hn) q
theorem Jr(hi:σ[i]?=some (.list l))(hn:l.length<=1000)(q:Q (.tup l) σ):W (vZ [.obj i]) σ Q:=W.run (by show (listAt σ i).bind _=_;rw[cj hi];exact mP hn) q
theorem Be{o:aq}(q:Q (.obj σ.length) (σ++[o])):W (qp o) σ Q:=W.run rfl q
theorem IC(hn:1<=l.length/\l.length<=1000)(q:Q (.tup (l.drop 1)) σ):W (q7 (.tup l)) σ Q:=W.run (if_pos hn) q
theorem Fo{Q:Unit->ai->Prop}(hi:σ[i]?=some (.list l))(hn:n<l.length)(hm:n<=1000)(q:Q () (σ.set i (.list (l.set n v)))):W (eT (.obj i) (.int n) v) σ Q:=
 W.run (a:=()) (set_list hi hn hm) q
theorem A5{l:List (Int×V)}{ep:Nat}{Q:Unit->ai->Prop}(hi:σ[i]?=some (.idd l ep))(hn:l.length<=1000)(q:Q () (σ.set i (.idd (bN l k v) (if l.any (λp=>p.1=k) then ep else ep+1)))):W (eT (.obj i) (.int k) v) σ Q:=
 W.run (a:=()) (Iq hi hn) q
theorem Jy{l:List (Str×V)}{Q:Unit->ai->Prop}(hi:σ[i]?=some (.sd l))(hn:l.length<=1000)(q:Q () (σ.set i (.sd (bN l x v)))):W (eT (.obj i) (.str x) v) σ Q:=
 W.run (a:=()) (GF hi hn) q
theorem Fi{l:List (List V×V)}{Q:Unit->ai->Prop}(hi:σ[i]?=some (.td l))(hn:iw l r=true)(q:Q () (σ.set i (.td (bN l r v)))):W (gG (.obj i) (.tup r) v) σ Q:=
 W.run (a:=()) (Jp hi hn) q
theorem Al{l:List (List V×V)}(hi:σ[i]?=some (.td l))(hn:iw l r=true)(q:Q ((bX l r).getD .none) σ):W (s9 [.obj i,.tup r]) σ Q:=
 W.run (IU hi hn) q
theorem lu{Q:Unit->ai->Prop}(hi:σ[i]?=some (.list l))(q:Q () σ):W (r7 "list" (.obj i)) σ Q:=W.run (zq hi rfl) q
theorem KL{l:List (Int×V)}{ep:Nat}{Q:Unit->ai->Prop}(hi:σ[i]?=some (.idd l ep))(q:Q () σ):W (r7 "dict" (.obj i)) σ Q:=W.run (zq hi rfl) q
theorem sJ{l:List (List V×V)}{Q:Unit->ai->Prop}(hi:σ[i]?=some (.td l))(q:Q () σ):W (r7 "dict" (.obj i)) σ Q:=W.run (zq hi rfl) q
theorem KI{l:List (Str×V)}{Q:Unit->ai->Prop}(hi:σ[i]?=some (.sd l))(q:Q () σ):W (r7 "dict" (.obj i)) σ Q:=W.run (zq hi rfl) q
theorem kJ{Q:It->ai->Prop}(hi:σ[i]?=some (.list l))(q:Q (.list i) σ):W (pR (.obj i)) σ Q:=W.run (a:=It.list i) (σ':=σ) (EL hi) q
theorem C2{l:List (Int×V)}{ep:Nat}{Q:It->ai->Prop}(hi:σ[i]?=some (.idd l ep))(hn:l.length<=1000)(q:Q (.keys i l.length ep) σ):W (pR (.obj i)) σ Q:=W.run (a:=It.keys i l.length ep) (σ':=σ) (HD hi hn) q
theorem mG{Q:It->ai->Prop}(hn:n<=1000)(q:Q (.range n) σ):W (rO [.int n]) σ Q:=W.run (a:=It.range n) (σ':=σ) (if_pos ⟨by lia,by lia⟩) q
theorem FA{Q:It->ai->Prop}(hi:σ[i]?=some (.list l))(q:Q (.enum i) σ):W (sX [.obj i]) σ Q:=W.run (a:=It.enum i) (σ':=σ) (FY hi) q
theorem jr{γ:Type}{pat:V->Option γ}{g:γ}{f:γ->M ay}{Q:ay->ai->Prop}(h:pat v=some g)(q:W (f g) σ Q):W (bR pat v f) σ Q:=by unfold bR;rw[h];exact q
theorem C8{m:M (List V)}(h:W m σ λl σ'=>Q (.obj σ'.length) (σ'++[.list l])):W (jd m) σ Q:=by
 obtain⟨l,σ',e,q⟩:=h;exact⟨_,_,by unfold jd;rw[e];rfl,q⟩
theorem zR{C:Addr}{g:List V->M V}(h:W (g (.obj (σ.length+1)::l)) (σ++[.sd []]++[.inst C σ.length]) λv σ'=>v=.none/\Q (.obj (σ.length+1)) σ'):W (tg C g l) σ Q:=by
 obtain⟨v,σ',e,rfl,q⟩:=h;exact⟨_,σ',by unfold tg;rw[e];rfl,q⟩
end
section
variable{σ:ai}
theorem tu{it:It}{g:V->M ay}{n fuel:Nat}{Q:ay->ai->Prop}(J:Nat->ai->Prop)
 (next:∀ i σ,J i σ->(i<n/\∃ v,bF it i σ=some (.ok (some v),σ)/\W (g v) σ λc σ'=>c=.next/\J (i+1) σ')\/(i=n/\bF it i σ=some (.ok none,σ)))
 (h0:J 0 σ)(hf:n<fuel)(k:∀ σ',J n σ'->Q .next σ'):W (iN it g fuel 0) σ Q:=by
 have key:∀ (fuel i:Nat) (σ:ai),i<=n->n - i<fuel->J i σ->W (iN it g fuel i) σ Q:=by
  intro fuel
  induction fuel with
  |zero=>intro i σ _ h;omega
  |succ f ih=>
   intro i σ hi hf hJ;rcases next i σ hJ with ⟨hlt,v,e,c,σ',e',rfl,hJ'⟩|⟨rfl,e⟩
   ·obtain⟨a,σ'',e2,q⟩:=ih (i+1) σ' hlt (by omega) hJ';exact⟨a,σ'',(EX e e').trans e2,q⟩
   ·exact⟨.next,σ,Gl e,k σ hJ⟩
 exact key fuel 0 σ (LI _) (by omega) h0
theorem o7{γ:Type}{mi:M It}{pat:V->Option γ}{g:γ->M ay}{f:M ay}{Q:ay->ai->Prop}
 (h:W mi σ λit σ'=>W (iN it (λv=>bR pat v g) 1000 0) σ' λc σ''=>c=.next/\W f σ'' Q):W (oE mi pat g f) σ Q:=by
 refine W.bind (W.bind (h.mono λit σ' q=>q.mono λc σ'' q=>?_));obtain⟨rfl,q⟩:=q;exact q
theorem sY{it:It}{g:V->M (Option V)}{n fuel:Nat}{Q:List V->ai->Prop}(J:Nat->List V->ai->Prop)
 (next:∀ i acc σ,J i acc σ->(i<n/\∃ v,bF it i σ=some (.ok (some v),σ)/\W (g v) σ λo σ'=>J (i+1) (acc++o.toList) σ')\/(i=n/\bF it i σ=some (.ok none,σ)))
 (hb:∀ i acc σ,J i acc σ->acc.length<=900)(h0:J 0 [] σ)(hf:n<fuel)(k:∀ acc σ',J n acc σ'->Q acc σ'):W (bV it g fuel 0 []) σ Q:=by
 have key:∀ (fuel i:Nat) (acc:List V) (σ:ai),i<=n->n - i<fuel->J i acc σ->W (bV it g fuel i acc) σ Q:=by
  intro fuel
  induction fuel with
  |zero=>intro i acc σ _ h;omega
  |succ f ih=>
   intro i acc σ hi hf hJ;rcases next i acc σ hJ with ⟨hlt,v,e,o,σ',e',hJ'⟩|⟨rfl,e⟩
   ·obtain⟨a,σ'',e2,q⟩:=ih (i+1) _ σ' hlt (by omega) hJ';cases o with
    |none=>exact⟨a,σ'',(DM e e').trans (List.append_nil acc▸e2),q⟩
    |some x=>exact⟨a,σ'',(Dv e e' (hb i acc σ hJ)).trans e2,q⟩
   ·exact⟨acc,σ,ES e,k acc σ hJ⟩
 exact key fuel 0 [] σ (LI _) (by omega) h0
theorem jL{γ:Type}{mi:M It}{pat:V->Option γ}{mt:γ->M Bool}{me:γ->M V}{Q:V->ai->Prop}
 (h:W mi σ λit σ'=>W (bV it (λv=>bR pat v (eg mt me)) 1000 0 []) σ' λl σ''=>Q (.obj σ''.length) (σ''++[.list l])):W (fR mi pat mt me) σ Q:=C8 (W.bind h)
theorem l9{γ:Type}{pat:V->Option γ}{mt:γ->M Bool}{me:γ->M V}{v:V}{p:γ}{Q:Option V->ai->Prop}(hp:pat v=some p)
 (h:W (mt p) σ λb σ'=>if b=true then W (me p) σ' λx σ''=>Q (some x) σ'' else Q none σ'):W (bR pat v (eg mt me)) σ Q:=by
 unfold bR;rw[hp];refine W.bind (h.mono λb σ' q=>?_);cases b with
 |true=>exact W.bind (q.mono λz z q=>W.pure q)
 |false=>exact W.pure q
end
def WX{α:Type}(m:M α)(σ:ai)(Q:α->ai->Prop)(E:V->ai->Prop):Prop:=∃ r σ',m σ=some (r,σ')/\(∀ a,r=.ok a->Q a σ')/\∀ e,r=.error e->E e σ'
section
variable{α β:Type}{m:M α}{f:α->M β}{σ:ai}{a:α}
theorem WX.of{Q:α->ai->Prop}{E:V->ai->Prop}(h:W m σ Q):WX m σ Q E:=
 let⟨a,σ',e,q⟩:=h;⟨_,σ',e,λb z=>by cases z;exact q,λu z=>by cases z⟩
theorem WX.bind{Q:β->ai->Prop}{E:V->ai->Prop}(h:WX m σ (λa σ'=>WX (f a) σ' Q E) E):WX (m>>=f) σ Q E:=by
 obtain⟨r,σ',e,q1,q2⟩:=h;cases r with
 |ok a=>
  obtain⟨r,σ'',e',z⟩:=q1 a rfl;exact⟨r,σ'',(M.sS e).trans e',z⟩
 |error v=>
  refine⟨.error v,σ',?_,λu z=>(by cases z),λe' z=>(by cases z;exact q2 v rfl)⟩;rw[M.bind_eq,e];rfl
theorem WX.cS{Q:β->ai->Prop}{E:V->ai->Prop}(h:W m σ λa σ'=>WX (f a) σ' Q E):WX (m>>=f) σ Q E:=WX.bind (WX.of h)
theorem WX.mono{Q Q':α->ai->Prop}{E E':V->ai->Prop}(h:WX m σ Q E)(k:∀ a σ',Q a σ'->Q' a σ')(k':∀ a σ',E a σ'->E' a σ'):WX m σ Q' E':=
 let⟨r,σ',e,q1,q2⟩:=h;⟨r,σ',e,λa z=>k a σ' (q1 a z),λa z=>k' a σ' (q2 a z)⟩
theorem WX.aX{c:Prop}[Decidable c]{m m':M α}{Q:α->ai->Prop}{E:V->ai->Prop}(h:c)(k:WX m σ Q E):WX (if c then m else m') σ Q E:=by rw[if_pos h];exact k
theorem WX.aS{c:Prop}[Decidable c]{m m':M α}{Q:α->ai->Prop}{E:V->ai->Prop}(h:¬c)(k:WX m' σ Q E):WX (if c then m else m') σ Q E:=by rw[if_neg h];exact k
theorem WX.fin{m:M ay}{Q:V->ai->Prop}{E:V->ai->Prop}(h:WX m σ (λc σ'=>Q (gI c) σ') E):WX (fin m) σ Q E:=by
 refine WX.bind (h.mono (λc σ' q=>?_) λu u q=>q);cases c<;>exact WX.of (W.pure q)
theorem WX.HU{m:V->V->M ay}{a b:V}{Q:V->ai->Prop}{E:V->ai->Prop}(h:WX (m a b) σ (λc σ'=>Q (gI c) σ') E):WX (fn 2 (m2 m) [a,b]) σ Q E:=WX.aX rfl (WX.fin h)
theorem WX.Lo{m:V->V->V->M ay}{a b c:V}{Q:V->ai->Prop}{E:V->ai->Prop}(h:WX (m a b c) σ (λc σ'=>Q (gI c) σ') E):WX (fn 3 (m3 m) [a,b,c]) σ Q E:=WX.aX rfl (WX.fin h)
end
noncomputable def HH:V->Option Str
 |.none=>some "nil"
 |.bool _=>some "bool"
 |.int _=>some "int"
 |.bytes _=>some "text"
 |.tup (.str t::_)=>some t
 |_=>none
noncomputable def s6(t:Str):Bool:=t=="slice"||t=="map"||t=="func"
noncomputable def fM(h:V):Option (Option (V×List V)):=match HH h with
 |none=>none
 |some t=>if s6 t=true then some none
  else if t=("face":Str) then match h with
   |.tup (_::.tup (.str q::r)::x::_)=>if q=("func":Str) then some none else some (some (.tup [.str t,.tup (.str q::r)],[x]))
   |_=>none
  else if t=("struct":Str)\/t=("array":Str) then match h with
   |.tup (_::.tup l::_)=>if l.length<=20 then some (some (.tup [.str t,.int l.length],l)) else none
   |_=>none
  else some (some (.tup [.str t,h],[]))
noncomputable def bU:Nat->List V->List V->Option (Option (List V))
 |_,[],found=>some (some found)
 |0,_::_,_=>none
 |f+1,h::rest,found=>if rest.length<=50/\found.length<=50 then match fM h with
  |none=>none
  |some none=>some none
  |some (some (e,more))=>bU f (more++rest) (found++[e]) else none
def pA:List (Str×V):=[("message",.str "panic"),("spot",.int 0),("value",.tup [.str "face",gT,.bytes cy])]
def nU(σ:ai)(e:V):Prop:=∃ i d,e=.obj i/\σ[i]?=some (.exc 64 (some d) false)/\σ[d]?=some (.sd pA)
theorem zN{σ:ai}{o:aq}{r:List aq}:(σ++o::r)[σ.length]?=some o:=by simp
theorem yk{σ:ai}{o o':aq}{r:List aq}:(σ++o::o'::r)[σ.length+1]?=some o':=by simp
theorem Ab{v:V}{σ:ai}{Q:Unit->ai->Prop}(h:Q () σ):W (zH v) σ Q:=W.pure h
theorem IT{x:Str}{σ:ai}{Q:Unit->ai->Prop}(h:Q () σ):W (r7 "str" (.str x)) σ Q:=W.run (a:=()) (σ':=σ) (by show (if "str"="str" then some (.ok (),σ) else none:Option (Except V Unit×ai)).or _=_;rw[if_pos rfl];rfl) h
theorem Lj{l:List V}{P:Prop}(h:Nat.ble l.length 1000=true)(p:P):l.length<=1000/\P:=⟨LD h,p⟩
section
local macro_rules |`(tactic| lk)=>`(tactic| repeat with_reducible first
  |apply Kr
  |apply K2
  |apply J6
  |apply W.bind
  |apply W.pure
  |apply Ab
  |apply IT
  |apply Lj rfl)
theorem GI(σ:ai)(x:V):W (jt [.obj σ.length,x]) (σ++[.exc 64 none true]) λv σ'=>v=.none/\σ'=σ++[.exc 64 (some (σ.length+1)) true,.sd [("message",x),("spot",.int 0)]]:=by
 revert σ x;intros σ x;refine fS ?_;unfold gJ;lk;refine W.run (a:=V.none) (σ':=σ++[.exc 64 none true]) (by rw[DY (d:=none) (by simp)];simp) ?_;lk;refine W.run (a:=()) (σ':=σ++[.exc 64 (some (σ.length+1)) true,.sd [("message",x)]]) (by rw[GD (w:=true) (by simp)];simp[gC]) ?_;lk;refine W.run (a:=()) (σ':=σ++[.exc 64 (some (σ.length+1)) true,.sd [("message",x),("spot",.int 0)]]) (by rw[De (w:=true) (d:=σ.length+1) (l:=[("message",x)]) (by simp) (by simp) (Nat.le_of_ble_eq_true rfl)];simp;rfl) ?_;lk;exact⟨rfl,rfl⟩
theorem Ji(σ:ai)(x:V):W (kO [.obj σ.length,x]) (σ++[.exc 64 none true]) λv σ'=>v=.none/\σ'=σ++[.exc 64 (some (σ.length+1)) true,.sd [("message",.str "panic"),("spot",.int 0),("value",x)]]:=by
 revert σ x;intros σ x;refine fS ?_;unfold iZ;lk;refine(GI σ _).mono ?_;intros v σ';intro h;obtain⟨rfl,rfl⟩:=h;lk;refine W.run (a:=()) (σ':=σ++[.exc 64 (some (σ.length+1)) true,.sd [("message",.str "panic"),("spot",.int 0),("value",x)]]) (by rw[De (w:=true) (d:=σ.length+1) (l:=[("message",.str "panic"),("spot",.int 0)]) (by simp) (by simp) (Nat.le_of_ble_eq_true rfl)];simp;rfl) ?_;lk;exact⟨rfl,rfl⟩
theorem JY(σ:ai):W (fq [.str "hash of unhashable type"]) σ λv σ'=>v=.obj σ.length/\σ'=σ++[.exc 64 (some (σ.length+1)) true,.sd pA]:=by
 revert σ;intros σ;refine mh ?_;unfold iA;lk;refine W.run (a:=V.bytes cy) (σ':=σ) FQ ?_;lk;injection Ji σ (.tup [.str "face",gT,.bytes cy]) with x0 v σ' hz;obtain⟨e,rfl,rfl⟩:=hz
 refine W.run (a:=V.obj σ.length) (σ':=σ++[.exc 64 (some (σ.length+1)) true,.sd pA]) ?_ ?_
 ·unfold rI Eh;rw[if_pos (by decide),e];rfl
 ·lk;exact⟨rfl,rfl⟩
theorem yr(σ:ai):rK 64 (aG (pure (.ref 74)) (.ref 74) (af (pure (.str "hash of unhashable type")) (pure [])) fq) σ=some (.error (.obj σ.length),σ++[.exc 64 (some (σ.length+1)) false,.sd pA]):=by
 revert σ;intros σ;have z:W (aG (pure (.ref 74)) (.ref 74) (af (pure (.str "hash of unhashable type")) (pure [])) fq) σ λv σ'=>v=.obj σ.length/\σ'=σ++[.exc 64 (some (σ.length+1)) true,.sd pA]:=by
  lk;exact JY σ
 injection z with z v σ' hz;obtain⟨e,rfl,rfl⟩:=hz
 unfold rK;rw[e];show q6 64 σ.length (.ok (.obj σ.length),_)=_;rw[E6 (Nat.le_refl _) (by simp;rfl)];simp
theorem mu{v:V}{T:String}{b:Bool}{σ:ai}{Q:V->ai->Prop}(h:DX T v=some b)(q:Q (.bool b) σ):W (Ag [v,.ty T]) σ Q:=W.run (a:=V.bool b) (σ':=σ) (by show (DX T v).map _=_;rw[h];rfl) q
theorem Iw{σ:ai}{h:V}{t:Str}(e:HH h=some t):W (k7 [h]) σ λv σ'=>v=.str t/\σ'=σ:=by
 revert e;revert σ h t;intros σ h t;intro e;refine mh ?_;unfold k8;lk;cases h with
 |none=>
  cases e;refine aW (b:=true) rfl (W.aX rfl ?_);lk;exact⟨rfl,rfl⟩
 |bool b=>
  revert b;intros b;intro e;cases e;refine aW (b:=false) rfl (W.aS (by decide) ?_);lk;refine mu (b:=true) rfl (dH (W.aX rfl ?_));lk;exact⟨rfl,rfl⟩
 |int i=>
  revert i;intros i;intro e;cases e;refine aW (b:=false) rfl (W.aS (by decide) ?_);lk;refine mu (b:=false) rfl (dH (W.aS (by decide) ?_));lk;refine mu (b:=true) rfl (dH (W.aX rfl ?_));lk;exact⟨rfl,rfl⟩
 |bytes b=>
  revert b;intros b;intro e;cases e;refine aW (b:=false) rfl (W.aS (by decide) ?_);lk;refine mu (b:=false) rfl (dH (W.aS (by decide) ?_));lk;refine mu (b:=false) rfl (dH (W.aS (by decide) ?_));lk;refine mu (b:=true) rfl (dH (W.aX rfl ?_));lk;exact⟨rfl,rfl⟩
 |tup l=>
  revert l;intros l;intro e;have e':∃ r,l=.str t::r:=by
   cases l with
   |nil=>exact aU e
   |cons a r=>
    cases a<;>first|exact aU e|exact⟨r,by rw[Option.some.inj e]⟩
  injection e' with e' r hz;obtain rfl:=hz
  refine aW (b:=false) rfl (W.aS (by decide) ?_);lk;refine mu (b:=false) rfl (dH (W.aS (by decide) ?_));lk;refine mu (b:=false) rfl (dH (W.aS (by decide) ?_));lk;refine mu (b:=false) rfl (dH (W.aS (by decide) ?_));lk;refine cR (n:=0) rfl (by decide) ?_;lk;exact⟨rfl,rfl⟩
 |_=>cases e
theorem I8{σ:ai}{n:Nat}(h:n<=1000):W (l8 [.int ((n:Int)+1),.none]) σ λv σ'=>v=.none/\σ'=σ:=by
 refine fS ?_;unfold l7;lk;refine aW (b:=true) rfl (W.aX rfl ?_);lk;refine aW (b:=false) ?_ (W.aS (by decide) ?_)
 ·show some (decide ((1048576:Int)<(n:Int)+1))=some false;rw[decide_eq_false (by lia)]
 ·lk;exact⟨rfl,rfl⟩
theorem Js{σ:ai}{q:Str}{r:List V}:W (nM [.tup (.str q::r)]) σ λv σ'=>v=.bool (!(q==("func":Str)))/\σ'=σ:=by
 refine mh ?_;unfold nR;lk;refine cR (n:=0) rfl (by decide) ?_;lk;refine aW (b:=!(q==("func":Str))) rfl ?_;lk;exact⟨rfl,rfl⟩
def rq(v1:V×V):M ay:=(cQ (fE "list" (pure v1.2) (pure []) DH) (λv2=>d7 (aG (pure (.ref 82)) (.ref 82) (af (bM .Add (aG (pure (.bi "len")) (.bi "len") (af (pure v1.1) (pure [])) c8) (pure (.int 1))) (af (pure (.none)) (pure []))) l8) (cQ (aG (pure (.ref 89)) (.ref 89) (af (pure v2) (pure [])) k7) (λv3=>eH (kF (bA .In (pure v3) (pure mq)) (kF (lT (bA .Eq (pure v3) (pure (.str "face"))) (lT (m8 (jF (aG (pure (.ref 250)) (.ref 250) (af (aA (pure v2) (pure (.int 1))) (pure [])) nM))) (pure true))) (pure false))) (rK 64 (aG (pure (.ref 74)) (.ref 74) (af (pure (.str "hash of unhashable type")) (pure [])) fq)) (eH (bA .Eq (pure v3) (pure (.str "face"))) (d7 (fE "list" (pure v1.1) (af (aV (af (pure v3) (af (aA (pure v2) (pure (.int 1))) (pure [])))) (pure [])) cB) (d7 (fE "list" (pure v1.2) (af (aA (pure v2) (pure (.int 2))) (pure [])) cB) (pure .next))) (eH (bA .In (pure v3) (aV (af (pure (.str "struct")) (af (pure (.str "array")) (pure []))))) (d7 (fE "list" (pure v1.1) (af (aV (af (pure v3) (af (aG (pure (.bi "len")) (.bi "len") (af (aA (pure v2) (pure (.int 1))) (pure [])) c8) (pure [])))) (pure [])) cB) (d7 (fE "list" (pure v1.2) (af (Kg (aG (pure (.ty "list")) (.ty "list") (af (aA (pure v2) (pure (.int 1))) (pure [])) sM)) (pure [])) sP) (pure .next))) (d7 (fE "list" (pure v1.1) (af (aV (af (pure v3) (af (pure v2) (pure [])))) (pure [])) cB) (pure .next))))))))
def qR(v1:V×V):M Bool:=(bA .NotEq (pure v1.2) (cG (pure [])))
theorem I9(x:V):lA x (.ref 250)=lK (aV (af (cG (pure [])) (af (cG (af (pure x) (pure []))) (pure [])))) lP (λv1=>Bb (qR v1) (rq v1) (bz (aG (pure (.ty "tuple")) (.ty "tuple") (af (pure v1.1) (pure [])) vZ))):=rfl
theorem Ext.new'{mods:List Nat}{σ:ai}{r:List aq}:Ext mods σ (σ++r):=⟨by simp,λi o' u e=>by rw[List.getElem?_append_left (List.getElem?_eq_some_iff.mp e).1];exact e⟩
theorem AA(a b:Str):(a==b)=(b==a):=by
 rw[Bool.eq_iff_iff];simp only[beq_iff_eq];exact⟨Eq.symm,Eq.symm⟩
theorem BQ{σ:ai}{fi li:Nat}{l:List V}(hl:σ[li]?=some (.list l))(hn:l.length<=60):W (qR (.obj fi,.obj li)) σ λb σ'=>b=(!l.isEmpty)/\Ext [] σ σ':=by
 unfold qR;lk;refine dR (by decide) (aW (b:=!l.isEmpty) ?_ ⟨rfl,Ext.new⟩);have h1:(σ++[aq.list []])[li]?=some (.list l):=Ext.new.bh hl;show (iT (σ++[aq.list []]) (.obj li) (.obj σ.length)).map (λr=>!r)=_;rw[qg h1 aZ];rfl
theorem GY{σ:ai}{fi li:Nat}{h:V}{rest found:List V}(hf:σ[fi]?=some (.list found))(hl:σ[li]?=some (.list (rest.reverse++[h])))(ne:fi≠li)(hb:rest.length<=50/\found.length<=50)(hk:fM h≠none) :
  WX (rq (.obj fi,.obj li)) σ (λc σ'=>c=.next/\∃ e more,fM h=some (some (e,more))/\Ext [fi,li] σ σ'/\σ'[fi]?=some (.list (found++[e]))/\σ'[li]?=some (.list (more++rest).reverse))
   (λe σ'=>fM h=some none/\Ext [fi,li] σ σ'/\nU σ' e):=by
 revert hf hl ne hb hk;revert σ fi li h rest found;intros σ fi li h;intros rest found;intro hf hl ne hb hk;unfold rq;refine WX.cS ?_;lk;refine lu hl ?_;lk;refine Ld hl (by simp;lia) ?_;have f1:(σ.set li (.list rest.reverse))[fi]?=some (.list found):=Ext.set.get hf (by simp;exact ne);have l1:(σ.set li (.list rest.reverse))[li]?=some (.list rest.reverse):=get_set (bB hl);have E1:Ext [fi,li] σ (σ.set li (.list rest.reverse)):=Ext.set.mono (by simp);generalize σ.set li (.list rest.reverse)=σ1 at *;refine WX.cS ?_;lk;refine iG f1 (by lia) ?_;lk;refine cU (z:=found.length+1) rfl ?_;lk;refine(I8 (by lia)).mono ?_;intros v σ';intro q;revert σ1;intros σ1;intro f1 l1 E1 q;obtain⟨rfl,rfl⟩:=q;lk;refine WX.cS ?_;cases ht:HH h with
 |none=>exact LW (by unfold fM;rw[ht]) hk
 |some t=>
  revert t;intros t;intro ht;lk;refine(Iw ht).mono ?_;intros v σ2;intro q;obtain⟨rfl,rfl⟩:=q;refine WX.cS ?_;lk;have cl:∀ {σ:ai},nG .In σ (.str t) mq=some (s6 t):=by
   intro σ;show some (((("slice":Str)==t)||((("map":Str)==t)||((("func":Str)==t)||false))))=_;unfold s6;rw[AA "slice",AA "map",AA "func",Bool.or_false,Bool.or_assoc]
  refine aW cl ?_;cases hL:s6 t with
  |true=>
   refine W.aX rfl (W.pure (WX.aX rfl ?_));refine⟨_,_,yr σ2,λa z=>(by cases z),λe z=>?_⟩;cases z;refine⟨by unfold fM;rw[ht];simp[hL],E1.trans Ext.new',⟨_,_,rfl,zN,yk⟩⟩
  |false=>
   refine W.aS (by decide) ?_;lk;have cf:∀ {σ:ai},nG .Eq σ (.str t) (.str "face")=some (t==("face":Str)):=rfl;refine aW cf ?_;by_cases hF:t=("face":Str)
   ·subst hF;have hs:∃ a q r x y,h=.tup (a::.tup (.str q::r)::x::y):=by
     unfold fM at hk;rw[ht] at hk;dsimp only at hk;rw[hL,if_neg (by decide),if_pos rfl] at hk;split at hk
     ·exact⟨_,_,_,_,_,rfl⟩
     ·exact LW rfl hk
    injection hs with hs a q r x hz;injection hz with hz y hz;obtain rfl:=hz
    refine W.aX rfl ?_;lk;refine cR (n:=1) rfl (by decide) ?_;lk;refine Js.mono ?_;intros v σ3;intro z;obtain⟨rfl,rfl⟩:=z;refine dH ?_;lk;have ks:fM (.tup (a::.tup (.str q::r)::x::y))=if q=("func":Str) then some none else some (some (.tup [.str "face",.tup (.str q::r)],[x])):=by
     unfold fM;rw[ht];dsimp only;rw[hL,if_neg (by decide),if_pos rfl]
    by_cases hq:q=("func":Str)
    ·subst hq;refine W.aX rfl (W.pure (W.aX rfl (W.pure (WX.aX rfl ?_))));refine⟨_,_,yr σ3,λa z=>(by cases z),λe z=>?_⟩;cases z;exact⟨by rw[ks,if_pos rfl],E1.trans Ext.new',⟨_,_,rfl,zN,yk⟩⟩
    ·have hq':(q==("func":Str))=false:=by simpa using hq
     rw[hq'];refine W.aS (by decide) (W.pure (W.aS (by decide) (W.pure (WX.aS (by decide) ?_))));refine WX.of ?_;lk;refine aW cf (W.aX rfl ?_);lk;refine lu f1 ?_;lk;refine cR (n:=1) rfl (by decide) ?_;lk;refine iF f1 (by lia) ?_;lk;have f2:(σ3.set fi (.list (found++[.tup [.str "face",.tup (.str q::r)]])))[fi]?=some (.list (found++[.tup [.str "face",.tup (.str q::r)]])):=get_set (bB f1);have l2:(σ3.set fi (.list (found++[.tup [.str "face",.tup (.str q::r)]])))[li]?=some (.list rest.reverse):=Ext.set.get l1 (by simp;exact λz=>ne z.symm);refine lu l2 ?_;lk;refine cR (n:=2) rfl (by decide) ?_;lk;refine iF l2 (by simp;lia) ?_;lk;refine⟨rfl,_,_,by rw[ks,if_neg hq],(E1.trans (Ext.set.mono (by simp))).trans (Ext.set.mono (by simp)),Ext.set.get f2 (by simp;exact ne),?_⟩;rw[get_set (bB l2)];simp
   ·have hF':(t==("face":Str))=false:=by simpa using hF
    rw[hF'];refine W.aS (by decide) (W.pure (W.aS (by decide) (W.pure (WX.aS (by decide) ?_))));refine WX.of ?_;lk;refine aW cf ?_;rw[hF'];refine W.aS (by decide) ?_;lk;have c2:∀ {σ:ai},nG .In σ (.str t) (.tup [.str "struct",.str "array"])=some (decide (t=("struct":Str)\/t=("array":Str))):=by
     intro σ;show some (((("struct":Str)==t)||((("array":Str)==t)||false)))=_;congr 1;rw[Bool.or_false,Bool.eq_iff_iff,AA "struct",AA "array"];simp
    refine aW c2 ?_;by_cases hS:t=("struct":Str)\/t=("array":Str)
    ·rw[decide_eq_true hS];have hs:∃ a l y,h=.tup (a::.tup l::y)/\l.length<=20/\fM h=some (some (.tup [.str t,.int l.length],l)):=by
      unfold fM at hk ⊢;rw[ht] at hk ⊢;dsimp only at hk ⊢;rw[hL,if_neg (by decide),if_neg hF,if_pos hS] at hk ⊢;split at hk
      ·split at hk
       ·rename_i h20;exact⟨_,_,_,rfl,h20,by simp[h20]⟩
       ·exact LW rfl hk
      ·exact LW rfl hk
     injection hs with hs a l y hz;obtain⟨rfl,h20,ks⟩:=hz
     refine W.aX rfl ?_;lk;refine lu f1 ?_;lk;refine cR (n:=1) rfl (by decide) ?_;lk;refine Ke (by lia) ?_;lk;refine iF f1 (by lia) ?_;lk;have f2:(σ2.set fi (.list (found++[.tup [.str t,.int l.length]])))[fi]?=some (.list (found++[.tup [.str t,.int l.length]])):=get_set (bB f1);have l2:(σ2.set fi (.list (found++[.tup [.str t,.int l.length]])))[li]?=some (.list rest.reverse):=Ext.set.get l1 (by simp;exact λz=>ne z.symm);have E2:Ext [fi,li] σ (σ2.set fi (.list (found++[.tup [.str t,.int l.length]]))):=E1.trans (Ext.set.mono (by simp));generalize σ2.set fi (.list (found++[.tup [.str t,.int l.length]]))=σ3 at *;refine lu l2 ?_;lk;refine cR (n:=1) rfl (by decide) ?_;lk;refine HS (by lia) ?_;refine K1 aZ (by lia) ?_;lk;have l4:(σ3++[aq.list l]++[aq.list l.reverse])[li]?=some (.list rest.reverse):=Ext.new.bh (Ext.new.bh l2);have f4:(σ3++[aq.list l]++[aq.list l.reverse])[fi]?=some (.list (found++[.tup [.str t,.int l.length]])):=Ext.new.bh (Ext.new.bh f2);refine HK l4 aZ (by simp;lia) ?_;lk;refine⟨rfl,_,_,ks,((E2.trans Ext.new).trans Ext.new).trans (Ext.set.mono (by simp)),Ext.set.get f4 (by simp;exact ne),?_⟩;rw[get_set (bB l4)];simp
    ·rw[decide_eq_false hS];refine W.aS (by decide) ?_;lk;refine lu f1 ?_;lk;refine iF f1 (by lia) ?_;lk;refine⟨rfl,_,[],?_,E1.trans (Ext.set.mono (by simp)),get_set (bB f1),Ext.set.get l1 (by simp;exact λz=>ne z.symm)⟩;unfold fM;rw[ht];dsimp only;rw[hL,if_neg (by decide),if_neg hF,if_neg hS]
theorem Ext.fresh{mods:List Nat}{σ σ1 σ':ai}(x:Ext [] σ σ1)(y:Ext mods σ1 σ')(h:∀ i∈mods,σ.length<=i):Ext [] σ σ':=
 ⟨LZ x.1 y.1,λi o u e=>y.2 i o (λz=>LV _ (LS (bB e) (h i z))) (x.bh e)⟩
theorem tQ:∀ (f:Nat) (stack found m:List V),bU f stack found=some (some m)->found.length<=51->m.length<=51
 |_,[],found,m,h,hb=>by
  unfold bU at h;cases h;exact hb
 |0,_::_,_,_,h,_=>by unfold bU at h;cases h
 |f+1,h::rest,found,m,e,hb=>by
  unfold bU at e;split at e
  ·rename_i q;split at e
   ·cases e
   ·cases e
   ·exact tQ f _ _ _ e (by simp;lia)
  ·cases e
theorem Ai{fi li:Nat}(ne:fi≠li):∀ (f fuel:Nat) (stack found:List V) (σ:ai) (res:Option (List V)),bU f stack found=some res->f<fuel->σ[fi]?=some (.list found)->σ[li]?=some (.list stack.reverse) ->
  WX (je (qR (.obj fi,.obj li)) (rq (.obj fi,.obj li)) fuel) σ (λc σ'=>c=.next/\∃ mark,res=some mark/\Ext [fi,li] σ σ'/\σ'[fi]?=some (.list mark)) (λe σ'=>res=none/\Ext [fi,li] σ σ'/\nU σ' e)
 |f,0,_,_,_,_,_,hf,_,_=>by omega
 |f,fuel+1,[],found,σ,res,h,hf,h1,h2=>by
  have e:res=some found:=by
   cases f<;>(unfold bU at h;exact(LF h).symm)
  obtain⟨b,σ',e',rfl,x⟩:=BQ (fi:=fi) h2 (by simp);refine⟨.ok .next,σ',by unfold je;simp only[e'];rfl,λa z=>?_,λe z=>by cases z⟩;cases z;exact⟨rfl,found,e,x.up,x.bh h1⟩
 |0,fuel+1,h::rest,found,σ,res,e,hf,h1,h2=>by unfold bU at e;cases e
 |f+1,fuel+1,h::rest,found,σ,res,e,hf,h1,h2=>by
  unfold bU at e;split at e
  ·rename_i hb;obtain⟨b,σ1,e',rfl,x⟩:=BQ (fi:=fi) h2 (by simp;omega);have g1:=x.bh h1;have g2:σ1[li]?=some (.list (rest.reverse++[h])):=by have:=x.bh h2;simpa using this
   have hk:fM h≠none:=λz=>by rw[z] at e;cases e
   obtain⟨r,σ2,e2,q1,q2⟩:=GY g1 g2 ne hb hk;have ht:(!(h::rest).reverse.isEmpty)=true:=by simp
   rw[ht] at e';cases r with
   |error v=>
    obtain⟨ks,y,er⟩:=q2 v rfl;rw[ks] at e;cases e;refine⟨.error v,σ2,by unfold je;simp only[e',e2],λa z=>(by cases z),λe z=>?_⟩;cases z;exact⟨rfl,x.up.trans y,er⟩
   |ok c=>
    obtain⟨rfl,en,more,ks,y,g3,g4⟩:=q1 c rfl;rw[ks] at e;dsimp only at e;obtain⟨r,σ3,e3,w1,w2⟩:=Ai ne f fuel _ _ σ2 res e (by omega) g3 g4;refine⟨r,σ3,by unfold je;simp only[e',e2];exact e3,λa z=>?_,λa z=>?_⟩
    ·obtain⟨rfl,m,z1,z2,z3⟩:=w1 a z;exact⟨rfl,m,z1,(x.up.trans y).trans z2,z3⟩
    ·obtain⟨z1,z2,z3⟩:=w2 a z;exact⟨z1,(x.up.trans y).trans z2,z3⟩
  ·cases e
theorem Jv{σ:ai}{k:V}{res:Option (List V)}(h:bU 20 [k] []=some res) :
  WX (oZ [k,.ref 250]) σ (λv σ'=>∃ mark,res=some mark/\v=.tup mark/\Ext [] σ σ') (λe σ'=>res=none/\Ext [] σ σ'/\nU σ' e):=by
 revert h;revert σ k res;intros σ k res;intro h;refine WX.HU ?_;rw[I9];refine WX.cS ?_;lk;refine dR (by decide) ?_;lk;refine dR (by simp) ?_;lk;show WX (Bb (qR (.obj σ.length,.obj (σ++[aq.list []]).length)) (rq (.obj σ.length,.obj (σ++[aq.list []]).length)) _) _ _ _;have g1:(σ++[aq.list []]++[aq.list [k]])[σ.length]?=some (.list []):=Ext.new.bh aZ;have g2:(σ++[aq.list []]++[aq.list [k]])[(σ++[aq.list []]).length]?=some (.list [k].reverse):=aZ;have E:Ext [] σ (σ++[aq.list []]++[aq.list [k]]):=Ext.new.trans Ext.new;have ne:σ.length≠(σ++[aq.list []]).length:=by simp
 have fr:∀ i∈[σ.length,(σ++[aq.list []]).length],σ.length<=i:=by simp
 generalize (σ++[aq.list []]).length=li at *;generalize (σ++[aq.list []]++[aq.list [k]])=σ1 at *;refine WX.bind ((Ai ne 20 1000 [k] [] σ1 res h (by decide) g1 g2).mono ?_ λe σ2 q=>⟨q.1,E.fresh q.2.1 fr,q.2.2⟩);intros c σ2;intro q;obtain⟨rfl,hz⟩:=q;injection hz with hz m hz;obtain⟨rfl,x,g⟩:=hz
 refine WX.of ?_;lk;have:=tQ _ _ _ _ h (by simp);refine Jr g (by lia) ?_;lk;exact⟨m,rfl,rfl,E.fresh x fr⟩
theorem fy{σ:ai}{a b:Nat}{o o':aq}(h:σ[a]?=some o)(h':σ[b]?=some o')(n:o≠o'):a≠b:=λz=>by subst z;rw[h] at h';exact n (LF h')
noncomputable def oU(e c:Nat):List (Str×V):=[("may_compare",.ref 250),("entries",.obj e),("coming",.int c)]
structure TabAt(σ:ai)(t d e:Nat)(E:List (List V×V))(c:Nat):Prop where
 inst:σ[t]?=some (.inst 156 d)
 sd:σ[d]?=some (.sd (oU e c))
 td:σ[e]?=some (.td E)
section
variable{σ:ai}{t d e c:Nat}{E:List (List V×V)}{k x:V}{m:List V}
theorem TabAt.ne(T:TabAt σ t d e E c):t≠d/\t≠e/\d≠e:=⟨fy T.inst T.sd (by simp),fy T.inst T.td (by simp),fy T.sd T.td (by simp)⟩
theorem TabAt.ext{σ':ai}{mods:List Nat}(T:TabAt σ t d e E c)(x:Ext mods σ σ')(h1:t∉mods)(h2:d∉mods)(h3:e∉mods):TabAt σ' t d e E c:=⟨x.get T.inst h1,x.get T.sd h2,x.get T.td h3⟩
theorem TabAt.cO{σ':ai}(T:TabAt σ t d e E c)(x:Ext [] σ σ'):TabAt σ' t d e E c:=T.ext x (by simp) (by simp) (by simp)
theorem om{res:Option (List V)}(T:TabAt σ t d e E c)(h:bU 20 [k] []=some res) :
  WX (dY [.obj t,k]) σ (λv σ'=>∃ mark,res=some mark/\v=.tup mark/\Ext [] σ σ') (λe σ'=>res=none/\Ext [] σ σ'/\nU σ' e):=by
 refine WX.HU ?_;unfold iD;refine WX.bind (WX.bind (WX.of (W.pure (WX.aX rfl (WX.cS ?_)))));lk;refine cV T.inst T.sd rfl rfl ?_;lk;refine(Jv h).mono (λv σ' q=>WX.of (W.pure ?_)) λu u q=>q;exact q
theorem pQ(T:TabAt σ t d e E c)(h:bU 20 [k] []=some (some m)):W (dY [.obj t,k]) σ λv σ'=>v=.tup m/\Ext [] σ σ':=by
 revert T h;revert σ t d e c E k m;intros σ t d e;intros c E k m;intro T h;injection om T h with x0 r σ' hz;obtain⟨e,q1,q2⟩:=hz
 cases r with
 |error v=>exact LW (q2 v rfl).1 (by simp)
 |ok v=>
  revert v;intros v;intro e q1 q2;injection q1 v rfl with x0 m' hz;obtain⟨z,rfl,y⟩:=hz
  cases z;exact⟨_,σ',e,rfl,y⟩
theorem Hy(T:TabAt σ t d e E c)(hn:E.length<=1000):W (jW [.obj t]) σ λv σ'=>v=.int E.length/\σ'=σ:=by
 refine mh ?_;unfold jZ;lk;refine cV T.inst T.sd rfl rfl ?_;lk;refine JD T.td hn ?_;lk;exact⟨rfl,rfl⟩
theorem zM{Q:V->ai->Prop}(T:TabAt σ t d e E c)(h:bU 20 [k] []=some (some m))(ok:iw E m=true)(q:∀ σ',Ext [] σ σ'->TabAt σ' t d e E c->Q ((bX E m).getD .none) σ') :
  W (fE "dict" (dK 156 (pure (.obj t)) "entries") (af (bZ 156 "mark_of" (pure (.obj t)) (af (pure k) (pure [])) dY) (pure [])) s9) σ Q:=by
 lk;refine cV T.inst T.sd rfl rfl ?_;lk;refine sJ T.td ?_;lk;refine cW T.inst T.sd rfl ?_;lk;refine(pQ T h).mono λv σ' z=>?_;obtain⟨rfl,y⟩:=z;lk;exact Al (T.cO y).td ok (q σ' y (T.cO y))
theorem Aj(T:TabAt σ t d e E c)(h:bU 20 [k] []=some (some m))(ok:iw E m=true)(hl:bX E m=none):W (fK [.obj t,k]) σ λv σ'=>v=.tup [.none,.bool false]/\Ext [] σ σ':=by
 refine fS ?_;unfold ir;refine W.bind (zM T h ok λσ' y T'=>?_);rw[hl];lk;refine aW (b:=true) rfl (W.aX rfl ?_);lk;exact⟨rfl,y⟩
theorem As{a b u:V}(T:TabAt σ t d e E c)(h:bU 20 [k] []=some (some m))(ok:iw E m=true)(hl:bX E m=some (.tup [a,b,u])):W (fK [.obj t,k]) σ λv σ'=>v=.tup [u,.bool true]/\Ext [] σ σ':=by
 refine fS ?_;unfold ir;refine W.bind (zM T h ok λσ' y T'=>?_);rw[hl];lk;refine aW (b:=false) rfl (W.aS (by decide) ?_);lk;refine cR (n:=2) rfl (by decide) ?_;lk;exact⟨rfl,y⟩
theorem B8(T:TabAt σ t d e E c)(h:bU 20 [k] []=some none):WX (fK [.obj t,k]) σ (λu u=>False) (λv σ'=>Ext [] σ σ'/\nU σ' v):=by
 refine WX.HU ?_;unfold ir;refine WX.bind (WX.cS ?_);lk;refine cV T.inst T.sd rfl rfl ?_;refine WX.cS (sJ T.td (WX.bind (WX.bind (WX.cS ?_))));lk;refine WX.cS (cW T.inst T.sd rfl (WX.cS ?_));lk;exact(om T h).mono (λv σ' q=>by obtain⟨m,z,_⟩:=q;cases z) λu u q=>q.2
end
section
variable{σ:ai}{t d e c:Nat}{E:List (List V×V)}{k x:V}{m:List V}
theorem Ay{σ':ai}{E':List (List V×V)}(T:TabAt σ t d e E c)(z:σ'=σ.set e (.td E')):TabAt σ' t d e E' c/\Ext [d,e] σ σ':=by
 obtain⟨n1,n2,n3⟩:=T.ne;subst z;exact⟨⟨Ext.set.get T.inst (by simpa using n2),Ext.set.get T.sd (by simpa using n3),get_set (bB T.td)⟩,Ext.set.mono (by simp)⟩
theorem J8{σ':ai}{c':Nat}(T:TabAt σ t d e E c)(z:σ'=σ.set d (.sd (oU e c'))):TabAt σ' t d e E c'/\Ext [d,e] σ σ':=by
 obtain⟨n1,n2,n3⟩:=T.ne;subst z;exact⟨⟨Ext.set.get T.inst (by simpa using n1),get_set (bB T.sd),Ext.set.get T.td (by simpa using λz=>n3 z.symm)⟩,Ext.set.mono (by simp)⟩
theorem CC(T:TabAt σ t d e E c)(h:bU 20 [k] []=some (some m))(ok:iw E m=true)(hl:bX E m=none) :
  W (cY [.obj t,k,x]) σ λv σ'=>v=.none/\Ext [d,e] σ σ'/\TabAt σ' t d e (bN E m (.tup [.int c,k,x])) (c+1):=by
 revert T h ok hl;revert σ t d e c E k x m;intros σ t d e;intros c E k x;intros m;intro T h ok hl;refine zw ?_;unfold ic;lk;refine cW T.inst T.sd rfl ?_;lk;refine(pQ T h).mono ?_;intros v σ1;intro z;obtain⟨rfl,y⟩:=z;have T1a:=T.cO y;lk;refine cV T1a.inst T1a.sd rfl rfl ?_;lk;refine sJ T1a.td ?_;lk;refine Al T1a.td ok ?_;rw[hl];lk;refine aW (b:=true) rfl (W.aX rfl ?_);lk;refine cV T1a.inst T1a.sd rfl rfl ?_;lk;refine cV T1a.inst T1a.sd rfl rfl ?_;lk;refine Fi T1a.td ok ?_;obtain⟨T2,y2⟩:=Ay T1a (E':=bN E m (.tup [.int c,k,x])) rfl;lk;refine cV T2.inst T2.sd rfl rfl ?_;lk;refine cU (z:=c+1) rfl ?_;lk;refine iH T2.inst T2.sd (by simp[oU]) ?_;obtain⟨T3,y3⟩:=J8 T2 (c':=c+1) rfl;lk;exact⟨rfl,(y.up.trans y2).trans y3,T3⟩
theorem Cj{a b u:V}(T:TabAt σ t d e E c)(h:bU 20 [k] []=some (some m))(ok:iw E m=true)(hl:bX E m=some (.tup [a,b,u])) :
  W (cY [.obj t,k,x]) σ λv σ'=>v=.none/\Ext [d,e] σ σ'/\TabAt σ' t d e (bN E m (.tup [a,b,x])) c:=by
 revert T h ok hl;revert b u;revert σ t d e c E k x m a;apply cK;generalize dm=zt;generalize zt.1.1.1=σ,zt.1.1.2=t,zt.1.2.1=d,zt.1.2.2.1=e,zt.1.2.2.2=c,zt.2.1.1=E,zt.2.1.2=k,zt.2.2.1=x,zt.2.2.2.1=m,zt.2.2.2.2=a;intros b u;intro T h ok hl;refine zw ?_;unfold ic;lk;refine cW T.inst T.sd rfl ?_;lk;refine(pQ T h).mono ?_;intros v σ1;intro z;obtain⟨rfl,y⟩:=z;have T1a:=T.cO y;lk;refine cV T1a.inst T1a.sd rfl rfl ?_;lk;refine sJ T1a.td ?_;lk;refine Al T1a.td ok ?_;rw[hl];lk;refine aW (b:=false) rfl (W.aS (by decide) ?_);lk;refine cR (n:=0) rfl (by decide) ?_;lk;refine cR (n:=1) rfl (by decide) ?_;lk;refine cV T1a.inst T1a.sd rfl rfl ?_;lk;refine Fi T1a.td ok ?_;obtain⟨T2,y2⟩:=Ay T1a (E':=bN E m (.tup [a,b,x])) rfl;lk;exact⟨rfl,y.up.trans y2,T2⟩
theorem yY{E:List (List V×V)}{m:List V}(h:bX E m=none):cH E m=E:=by
 unfold bX at h;rw[Option.map_eq_none_iff,List.find?_eq_none] at h;unfold cH;rw[List.filter_eq_self];intro p hp;have:=h p hp;simpa using this
theorem DA(T:TabAt σ t d e E c)(h:bU 20 [k] []=some (some m))(ok:iw E m=true) :
  W (dI [.obj t,k]) σ λv σ'=>v=.none/\Ext [d,e] σ σ'/\TabAt σ' t d e (cH E m) c:=by
 revert T h ok;revert σ t d e c E k m;intros σ t d e;intros c E k m;intro T h ok;refine fS ?_;unfold gy;lk;refine cV T.inst T.sd rfl rfl ?_;lk;refine sJ T.td ?_;lk;refine cW T.inst T.sd rfl ?_;lk;refine(pQ T h).mono ?_;intros v σ1;intro z;obtain⟨rfl,y⟩:=z;have T1a:=T.cO y;lk;cases hl:bX E m with
 |none=>
  refine W.run (a:=V.none) (σ':=σ1) (A3 T1a.td ok hl) ?_;lk;rw[yY hl];exact⟨rfl,y.up,T1a⟩
 |some u=>
  revert u;intros u;intro hl;refine W.run (a:=u) (σ':=σ1.set e (.td (cH E m))) (A3 T1a.td ok hl) ?_;lk;obtain⟨T2,y2⟩:=Ay T1a (E':=cH E m) rfl;exact⟨rfl,y.up.trans y2,T2⟩
theorem B9(T:TabAt σ t d e E c)(h:bU 20 [k] []=some none):WX (cY [.obj t,k,x]) σ (λu u=>False) (λv σ'=>Ext [] σ σ'/\nU σ' v):=by
 refine WX.Lo ?_;unfold ic;refine WX.bind (WX.cS ?_);lk;refine WX.cS (cW T.inst T.sd rfl (WX.cS ?_));lk;exact(om T h).mono (λv σ' q=>by obtain⟨m,z,_⟩:=q;cases z) λu u q=>q.2
theorem xe(T:TabAt σ t d e E c)(h:bU 20 [k] []=some none):WX (dI [.obj t,k]) σ (λu u=>False) (λv σ'=>Ext [] σ σ'/\nU σ' v):=by
 refine WX.HU ?_;unfold gy;refine WX.bind (WX.bind (WX.cS ?_));lk;refine cV T.inst T.sd rfl rfl ?_;refine WX.cS (sJ T.td (WX.bind (WX.bind (WX.cS ?_))));lk;refine WX.cS (cW T.inst T.sd rfl (WX.cS ?_));lk;exact(om T h).mono (λv σ' q=>by obtain⟨m,z,_⟩:=q;cases z) λu u q=>q.2
theorem BN{kz:List Int}(T:TabAt σ t d e E c)(hk:E.mapM (λp=>kW p.2)=some kz)(hn:E.length<=60)(hp:kz.Pairwise (·<·)) :
  W (gz [.obj t]) σ λv σ'=>∃ i,v=.obj i/\σ'[i]?=some (.list (E.map (·.2)))/\Ext [] σ σ':=by
 refine mh ?_;unfold jU;lk;refine cV T.inst T.sd rfl rfl ?_;lk;refine W.run (a:=()) (σ':=σ) (IL T.td) ?_;lk;refine W.run (a:=V.obj σ.length) (σ':=σ++[.list (E.map (·.2))]) (Ik T.td hk hn hp) ?_;lk;exact⟨_,rfl,aZ,Ext.new⟩
end
theorem tY{a b:Int}(h:b≠0):uF .Mod a b=some (a.fmod b):=if_pos h
theorem Lh{a b:Int}(h:b≠0/\b.natAbs<1073741824):uF .FloorDiv a b=some (a.fdiv b):=if_pos h
def fP(σ:ai)(ri:Nat):Prop:=∃ a b:Int,σ[ri]?=some (.list [.int a,.int b])
theorem fP.ext{σ σ':ai}{ri:Nat}{mods:List Nat}(R:fP σ ri)(x:Ext mods σ σ')(n:ri∉mods):fP σ' ri:=let⟨a,b,h⟩:=R;⟨a,b,x.get h n⟩
theorem gf{σ:ai}{ri m:Nat}(R:fP σ ri)(h0:0<m)(h1:m<=1000):W (cD [.obj ri,.int m]) σ λv σ'=>∃ k:Nat,k<m/\v=.int k/\Ext [ri] σ σ'/\fP σ' ri:=by
 revert R h0 h1;revert σ ri m;intros σ ri m;intro R h0 h1;injection R with R a b h
 refine fS ?_;unfold lB;lk;refine bS (n:=0) h rfl (by decide) ?_;lk;refine aW (b:=decide (0<a)) rfl ?_;have fm:∀ z:Int,∃ k:Nat,k<m/\z.fmod m=k:=λz=>by
  have h2:=Int.fmod_nonneg_of_pos z (b:=(m:Int)) (by omega);have h3:=Int.fmod_lt_of_pos z (b:=(m:Int)) (by omega);exact⟨(z.fmod m).toNat,by omega,by omega⟩
 by_cases ha:0<a
 ·rw[decide_eq_true ha];refine W.aX rfl ?_;lk;refine bS (n:=0) h rfl (by decide) ?_;lk;refine cU (z:=a.fmod m) (tY (by omega)) ?_;lk;refine bS (n:=0) h rfl (by decide) ?_;lk;refine cU (z:=a.fdiv m) (Lh (by omega)) ?_;lk;refine Fo (n:=0) h (by simp) (by decide) ?_;lk;injection fm a with x0 k hz;obtain⟨hk,e⟩:=hz
  exact⟨k,hk,by rw[gI,e],Ext.set,_,_,get_set (bB h)⟩
 ·rw[decide_eq_false ha];refine W.aS (by decide) ?_;lk;refine bS (n:=1) h rfl (by decide) ?_;lk;refine cU (z:=b*205) (if_pos (by right;decide)) ?_;lk;refine cU (z:=b*205+9973) rfl ?_;lk;refine cU (z:=(b*205+9973).fmod 65497) rfl ?_;lk;refine Fo (n:=1) h (by simp) (by decide) ?_;have h':(σ.set ri (.list ([V.int a,.int b].set 1 (.int ((b*205+9973).fmod 65497)))))[ri]?=some (.list [.int a,.int ((b*205+9973).fmod 65497)]):=get_set (bB h);lk;refine bS (n:=1) h' rfl (by decide) ?_;lk;refine cU (z:=((b*205+9973).fmod 65497).fdiv 8) rfl ?_;lk;refine cU (z:=(((b*205+9973).fmod 65497).fdiv 8).fmod m) (tY (by omega)) ?_;lk;injection fm (((b*205+9973).fmod 65497).fdiv 8) with x0 k hz;obtain⟨hk,e⟩:=hz
  exact⟨k,hk,by rw[gI,e],Ext.set,_,_,h'⟩
structure kj(σ:ai)(ci cd ri:Nat)(row:List Int)(k:Nat):Prop where
 inst:σ[ci]?=some (.inst 225 cd)
 sd:σ[cd]?=some (.sd [("row",.obj ri),("taken",.int k)])
 row:σ[ri]?=some (.list (row.map .int))
theorem kj.ext{σ σ':ai}{ci cd ri k:Nat}{row:List Int}{mods:List Nat}(C:kj σ ci cd ri row k)(x:Ext mods σ σ')(h1:ci∉mods)(h2:cd∉mods)(h3:ri∉mods):kj σ' ci cd ri row k:=⟨x.get C.inst h1,x.get C.sd h2,x.get C.row h3⟩
theorem HC{σ:ai}{ci n:Nat}(h:n<=1):W (gB [.obj ci,.int n]) σ λv σ'=>v=.int 0/\σ'=σ:=by
 refine fS ?_;unfold gF;lk;refine aW (b:=true) (by show some (decide ((n:Int)<=1))=_;rw[decide_eq_true (by lia)]) (W.aX rfl ?_);lk;exact⟨rfl,rfl⟩
theorem C5{row:List Int}{k:Nat}(h:k<row.length):(row.map V.int)[k]?=some (.int (row.getD k 0)):=by
 simp[List.getElem?_map,List.getElem?_eq_getElem h,List.getD_eq_getElem?_getD]
theorem pick_run{σ:ai}{ci cd ri k n:Nat}{row:List Int}(C:kj σ ci cd ri row k)(h:2<=n)(hn:n<=1000)(hr:row.length<=1000) :
  W (gB [.obj ci,.int n]) σ λv σ'=>v=.int ((row.getD k 0).fmod n)/\Ext [cd] σ σ'/\kj σ' ci cd ri row (k+1):=by
 revert C h hn hr;revert σ ci cd ri k n row;intros σ ci cd ri;intros k n row;intro C h hn hr;refine fS ?_;unfold gF;lk;refine aW (b:=false) (by show some (decide ((n:Int)<=1))=_;rw[decide_eq_false (by lia)]) (W.aS (by decide) ?_);lk;refine cV C.inst C.sd rfl rfl ?_;lk;refine cU (z:=k+1) rfl ?_;lk;refine iH C.inst C.sd (by simp) ?_;have n1:ci≠cd:=fy C.inst C.sd (by simp);have n2:ri≠cd:=fy C.row C.sd (by simp);have x:Ext [cd] σ (σ.set cd (.sd (gC "taken" (.int (k+1)) [("row",.obj ri),("taken",.int k)]))):=Ext.set;have C':kj (σ.set cd (.sd (gC "taken" (.int (k+1)) [("row",.obj ri),("taken",.int k)]))) ci cd ri row (k+1):=⟨x.get C.inst (by simpa using n1),get_set (bB C.sd),x.get C.row (by simpa using n2)⟩
 generalize σ.set cd (.sd (gC "taken" (.int (k+1)) [("row",.obj ri),("taken",.int k)]))=σ' at *;lk;refine cV C'.inst C'.sd rfl rfl ?_;lk;refine iG C'.row (by simpa using hr) ?_;lk;refine aW (b:=decide (k<row.length)) (by show some (decide ((k:Int)<((row.map V.int).length:Int)))=_;simp) ?_;by_cases hk:k<row.length
 ·rw[decide_eq_true hk];refine W.aX rfl ?_;lk;refine cV C'.inst C'.sd rfl rfl ?_;lk;refine bS C'.row (C5 hk) (by lia) ?_;lk;refine cU (z:=(row.getD k 0).fmod n) (tY (by lia)) ?_;lk;exact⟨rfl,x,C'⟩
 ·rw[decide_eq_false hk];refine W.aS (by decide) ?_;lk;have:row.getD k 0=0:=by rw[List.getD_eq_getElem?_getD,List.getElem?_eq_none (by lia)];rfl
  rw[this,Int.zero_fmod];exact⟨rfl,x,C'⟩
theorem tB{σ:ai}{li:Nat}{l:List V}{Q:Bool->ai->Prop}(hl:σ[li]?=some (.list l))(q:Q l.isEmpty (σ++[.list []])):W (bA .Eq (pure (.obj li)) (cG (pure []))) σ Q:=by
 lk;refine dR (by decide) (aW (b:=l.isEmpty) ?_ q);have h1:(σ++[aq.list []])[li]?=some (.list l):=Ext.new.bh hl;exact qg h1 aZ
structure LE where
 table:Nat
 place:Nat
 val:V
 put:Bool
instance:Nonempty LE:=⟨⟨0,0,.none,true⟩⟩
noncomputable def vP(e:LE):V:=.tup [.int e.table,.int e.place,e.val,.bool e.put]
structure SR where
 place:Nat
 came:Nat
 val:V
instance:Nonempty SR:=⟨⟨0,0,.none⟩⟩
noncomputable def fG(r:SR):Int×V:=(r.place,.tup [.int r.came,r.val])
noncomputable def sstep(n:Nat)(acc:List SR)(i:Nat)(e:LE):List SR:=
 if e.table=n then (if e.put=true then (if acc.any (λr=>r.place==e.place)=true then acc.map (λr=>if r.place=e.place then {r with val:=e.val} else r) else acc++[⟨e.place,i,e.val⟩]) else acc.filter (λr=>decide (r.place≠e.place))) else acc
noncomputable def iJ(n:Nat):Nat->List SR->List LE->List SR
 |_,acc,[]=>acc
 |i,acc,e::r=>iJ n (i+1) (sstep n acc i e) r
noncomputable def aY(n:Nat)(log:List LE):List SR:=iJ n 0 [] log
theorem pF(n:Nat):∀ (l:List LE) (i:Nat) (acc:List SR) (e:LE),iJ n i acc (l++[e])=sstep n (iJ n i acc l) (i+l.length) e
 |[],i,acc,e=>rfl
 |x::l,i,acc,e=>by
  show iJ n (i+1) (sstep n acc i x) (l++[e])=_;rw[pF n l];simp only[iJ,List.length_cons];congr 1;lia
theorem ku(n:Nat)(l:List LE)(e:LE):aY n (l++[e])=sstep n (aY n l) l.length e:=by
 unfold aY;rw[pF];simp
theorem zQ{n:Nat}{acc:List SR}{i:Nat}{e:LE}(h:(acc.map (·.place)).Nodup):((sstep n acc i e).map (·.place)).Nodup:=by
 unfold sstep;split
 ·split
  ·split
   ·have:(acc.map λr=>if r.place=e.place then {r with val:=e.val} else r).map (·.place)=acc.map (·.place):=by
     rw[List.map_map];apply List.map_congr_left;intro r _;simp only[Function.comp];split<;>rfl
    rw[this];exact h
   ·rename_i q;rw[List.map_append,List.nodup_append];refine⟨h,by simp,λa ha b hb=>?_⟩;simp at hb;subst hb;intro z;obtain⟨r,hr,rfl⟩:=List.mem_map.mp ha;exact q (List.any_eq_true.mpr ⟨r,hr,by simpa using z⟩)
  ·exact(List.Sublist.map _ List.filter_sublist).nodup h
 ·exact h
theorem FJ{n:Nat}{acc:List SR}{i:Nat}{e:LE}:(sstep n acc i e).length<=acc.length+1:=by
 unfold sstep;split
 ·split
  ·split<;>simp
  ·exact LZ (List.length_filter_le ..) (Nat.le_succ _)
 ·exact Nat.le_succ _
theorem n6{n:Nat}{log:List LE}{i:Nat}(h:i<log.length):aY n (log.take (i+1))=sstep n (aY n (log.take i)) i log[i]:=by
 rw[List.take_succ_eq_append_getElem h,ku];simp[Nat.min_eq_left (Nat.le_of_lt h)]
theorem jX(n:Nat):∀ (log:List LE),((aY n log).map (·.place)).Nodup/\(aY n log).length<=log.length:=by
 intro log;have key:∀ i,i<=log.length->((aY n (log.take i)).map (·.place)).Nodup/\(aY n (log.take i)).length<=i:=by
  intro i
  induction i with
  |zero=>intro _;simp[aY,iJ]
  |succ i ih=>
   intro hi;obtain⟨a,b⟩:=ih (by lia);rw[n6 (by lia)];exact⟨zQ a,LZ FJ (by lia)⟩
 have:=key log.length (LP _)
 rwa [List.take_length] at this
theorem BL{acc:List SR}{p:Nat}:((acc.map fG).any λq=>q.1==(p:Int))=acc.any λr=>r.place==p:=by
 rw[List.any_map];congr 1;funext r;simp only[Function.comp,fG];rw[Bool.eq_iff_iff];simp only[beq_iff_eq];omega
theorem pN{acc:List SR}(h:(acc.map (·.place)).Nodup){r:SR}(hr:r∈acc):bX (acc.map fG) (r.place:Int)=some (.tup [.int r.came,r.val]):=by
 unfold bX
 induction acc with
 |nil=>cases hr
 |cons a acc ih=>
  rw[List.map_cons,List.nodup_cons] at h;rw[List.map_cons,List.find?_cons];rcases Lx hr with rfl|hr
  ·simp[fG]
  ·have ne:a.place≠r.place:=λz=>h.1 (List.mem_map.mpr ⟨r,hr,z.symm⟩);have:decide ((fG a).1=(r.place:Int))=false:=decide_eq_false (by show ¬((a.place:Int)=r.place);lia);rw[this];exact ih h.2 hr
theorem ya:∀ {acc:List SR},(acc.map (·.place)).Nodup->∀ {q r:SR},q∈acc->r∈acc->q.place=r.place->q=r
 |a::acc,h,q,r,hq,hr,e=>by
  rw[List.map_cons,List.nodup_cons] at h;obtain⟨h1,h2⟩:=h;cases hq with
  |head=>
   cases hr with
   |head=>rfl
   |tail _ hr=>exact LW (List.mem_map.mpr ⟨r,hr,e.symm⟩) h1
  |tail _ hq=>
   cases hr with
   |head=>exact LW (List.mem_map.mpr ⟨q,hq,e⟩) h1
   |tail _ hr=>exact ya h2 hq hr e
theorem Kw{acc:List SR}(h:(acc.map (·.place)).Nodup){r:SR}(hr:r∈acc){v:V}:bN (acc.map fG) (r.place:Int) (.tup [.int r.came,v])=(acc.map (λq=>if q.place=r.place then {q with val:=v} else q)).map fG:=by
 unfold bN;rw[if_pos (List.any_eq_true.mpr ⟨fG r,List.mem_map.mpr ⟨r,hr,rfl⟩,by simp[fG]⟩),List.map_map,List.map_map];apply List.map_congr_left;intro q hq;show (if (fG q).1=(r.place:Int) then ((fG q).1,V.tup [.int r.came,v]) else fG q)=fG (if q.place=r.place then {q with val:=v} else q);by_cases z:q.place=r.place
 ·have:=ya h hq hr z;subst this;rw[if_pos (show (fG q).1=(q.place:Int) from rfl),if_pos rfl];rfl
 ·rw[if_neg (show ¬((fG q).1=(r.place:Int)) from λw=>z (by have w':(q.place:Int)=r.place:=w;lia)),if_neg z]
theorem JH{acc:List SR}{p i:Nat}{v:V}(h:acc.any (λr=>r.place==p)=false):bN (acc.map fG) (p:Int) (.tup [.int i,v])=(acc++[SR.mk p i v]).map fG:=by
 have:((acc.map fG).any λq=>decide (q.1=(p:Int)))=false:=by
  rw[<- h,<- BL];congr 1
 unfold bN;rw[this,if_neg (by decide),List.map_append];rfl
theorem F1{acc:List SR}{p:Nat}:cH (acc.map fG) (p:Int)=(acc.filter (λr=>decide (r.place≠p))).map fG:=by
 unfold cH;rw[List.filter_map];congr 1;apply List.filter_congr;intro r _;exact decide_eq_decide.mpr (by show ¬((r.place:Int)=p)↔¬(r.place=p);lia)
theorem mT{σ:ai}{lg n:Nat}{log:List LE}(h:σ[lg]?=some (.list (log.map vP)))(hn:log.length<=100) :
  W (fL [.obj lg,.int n]) σ λv σ'=>∃ fi ep,v=.obj fi/\σ'[fi]?=some (.idd ((aY n log).map fG) ep)/\Ext [] σ σ':=by
 revert h hn;revert σ lg n log;intros σ lg n log;intro h hn;refine fS ?_;unfold iV;lk;refine Be ?_;refine o7 ?_;have h1:(σ++[aq.idd [] 0])[lg]?=some (.list (log.map vP)):=Ext.new.bh h;have hlt:=bB h;lk;refine FA h1 ?_;refine tu (n:=log.length) (λi σ'=>i<=log.length/\Ext [] σ σ'/\∃ ep,σ'[σ.length]?=some (.idd ((aY n (log.take i)).map fG) ep)) ?_ ⟨LI _,Ext.new,0,by rw[aZ];rfl⟩ (by lia) ?_
 ·intros i σ1;intro J;obtain⟨hi,x,hz⟩:=J;injection hz with hz ep hfi
  have hlg:=x.bh h;by_cases q:i<log.length
  ·refine .inl ⟨q,.tup [.int i,vP log[i]],sU hlg (o:=some (vP log[i])) (by simp[q]),?_⟩;refine jr (g:=(.int i,.int log[i].table,.int log[i].place,log[i].val,.bool log[i].put)) rfl ?_;rw[n6 q];obtain⟨nd,ln⟩:=jX n (log.take i);have ln':(aY n (log.take i)).length<=100:=LZ ln (by simp;lia);generalize aY n (log.take i)=acc at *;generalize log[i]=e;have fin:∀ {σ2:ai} {l:List (Int×V)} {ep':Nat},Ext [] σ σ2->σ2[σ.length]?=some (.idd l ep')->∀ {l':List (Int×V)} {ep'':Nat},l'=(sstep n acc i e).map fG->Ext [] σ (σ2.set σ.length (.idd l' ep''))/\∃ ep,(σ2.set σ.length (.idd l' ep''))[σ.length]?=some (.idd ((sstep n acc i e).map fG) ep):=λy g l' ep'' z=>by
    subst z;exact⟨y.fresh Ext.set (by simp),_,get_set (bB g)⟩
   lk;refine aW (b:=decide ((e.table:Int)=n)) (by show some ((e.table:Int)==n)=_;rw[fN]) ?_;have tn:((e.table:Int)=n)↔e.table=n:=by lia
   by_cases ht:e.table=n
   ·rw[decide_eq_true (tn.mpr ht)];refine W.aX rfl ?_;lk;refine dH ?_;cases hp:e.put with
    |true=>
     refine W.aX rfl ?_;lk;refine W.aX rfl ?_;lk;refine aW (b:=acc.any λr=>r.place==e.place) ?_ ?_
     ·show gY σ1 (.int e.place) (.obj σ.length)=_;rw[qm hfi,BL]
     ·by_cases hany:(acc.any λr=>r.place==e.place)=true
      ·rw[hany];injection List.any_eq_true.mp hany with x0 r hz;obtain⟨hr,hrp⟩:=hz
       have hrp:r.place=e.place:=by simpa using hrp
       refine W.aX rfl ?_;lk;refine pH hfi (hrp▸pN nd hr) ?_;lk;refine cR (n:=0) rfl (by decide) ?_;lk;refine A5 hfi (by simp;lia) ?_;lk;refine⟨rfl,q,fin x hfi ?_⟩;rw[<- hrp,Kw nd hr];unfold sstep;rw[if_pos ht,if_pos hp,if_pos hany,hrp]
      ·rw[Bool.not_eq_true] at hany;rw[hany];refine W.aS (by decide) ?_;lk;refine A5 hfi (by simp;lia) ?_;lk;refine⟨rfl,q,fin x hfi ?_⟩;rw[JH hany];unfold sstep;rw[if_pos ht,if_pos hp,hany,if_neg (by decide)]
    |false=>
     refine W.aS (by decide) ?_;lk;refine W.aS (by decide) ?_;lk;refine aW (b:=decide ((e.table:Int)=n)) (by show some ((e.table:Int)==n)=_;rw[fN]) ?_;rw[decide_eq_true (tn.mpr ht)];refine W.aX rfl ?_;lk;refine KL hfi ?_;lk;have so:sstep n acc i e=acc.filter λr=>decide (r.place≠e.place):=by
      unfold sstep;rw[if_pos ht,hp,if_neg (by decide)]
     cases hlk:bX (acc.map fG) (e.place:Int) with
     |none=>
      refine W.run (a:=V.none) (σ':=σ1) (C7 hfi (by simp;lia) hlk) ?_;lk;refine⟨rfl,q,x,ep,?_⟩;rw[hfi,so,<- F1];congr 2;unfold bX at hlk;rw[Option.map_eq_none_iff,List.find?_eq_none] at hlk;unfold cH;rw[eq_comm,List.filter_eq_self];intros p;intro hp;have:=hlk p hp;simpa using this
     |some u=>
      revert u;intros u;intro hlk;refine W.run (a:=u) (σ':=σ1.set σ.length (.idd (cH (acc.map fG) (e.place:Int)) (ep+1))) (C7 hfi (by simp;lia) hlk) ?_;lk;exact⟨rfl,q,fin x hfi (by rw[F1,so])⟩
   ·rw[decide_eq_false (λz=>ht (tn.mp z))];refine W.aS (by decide) ?_;lk;refine W.aS (by decide) ?_;lk;refine aW (b:=decide ((e.table:Int)=n)) (by show some ((e.table:Int)==n)=_;rw[fN]) ?_;rw[decide_eq_false (λz=>ht (tn.mp z))];refine W.aS (by decide) ?_;lk;refine⟨rfl,q,x,ep,?_⟩;rw[hfi];unfold sstep;rw[if_neg ht]
  ·have:i=log.length:=by lia
   subst this;exact .inr ⟨rfl,sU hlg (o:=none) (by simp)⟩
 ·intros σ1;intro J;obtain⟨_,x,hz⟩:=J;injection hz with hz ep hfi
  rw[List.take_length] at hfi;refine⟨rfl,?_⟩;lk;exact⟨_,ep,rfl,hfi,x⟩
theorem o8{α:Type}{it:It}{R:List α}{src:α->V}{g:V->M (Option V)}{σ:ai}{Q:List V->ai->Prop}(I:ai->Prop)(p:α->Bool)(u:α->V)
 (next:∀ σ,I σ->∀ i,bF it i σ=some (.ok (R[i]?.map src),σ))(step:∀ r∈R,∀ σ,I σ->W (g (src r)) σ λo σ'=>o=(if p r=true then some (u r) else none)/\I σ')
 (h0:I σ)(hl:R.length<=900)(k:∀ σ',I σ'->Q ((R.filter p).map u) σ'):W (bV it g 1000 0 []) σ Q:=by
 refine sY (n:=R.length) (λi acc σ=>i<=R.length/\acc=((R.take i).filter p).map u/\I σ) (λi acc σ h=>?_) (λi acc σ h=>?_) ⟨LI _,by simp,h0⟩ (by lia) λacc σ' h=>?_
 ·obtain⟨hi,rfl,hi'⟩:=h;by_cases q:i<R.length
  ·refine .inl ⟨q,src R[i],by rw[next σ hi',List.getElem?_eq_getElem q];rfl,(step R[i] (List.getElem_mem q) σ hi').mono λo σ' z=>⟨q,?_,z.2⟩⟩;rw[z.1,List.take_succ_eq_append_getElem q,List.filter_append,List.map_append];congr 1;cases hp:p R[i]<;>simp[hp]
  ·have:i=R.length:=by lia
   subst this;exact .inr ⟨rfl,by rw[next σ hi',List.getElem?_eq_none (Nat.le_refl _)];rfl⟩
 ·obtain⟨_,rfl,_⟩:=h;rw[List.length_map];exact LZ (List.length_filter_le ..) (LZ (by simp;lia) hl)
 ·obtain⟨_,rfl,h⟩:=h;rw[List.take_length];exact k σ' h
theorem nV{α:Type}{j:Nat}{R:List α}{src:α->V}{σ:ai}(h:σ[j]?=some (.list (R.map src)))(i:Nat):bF (.list j) i σ=some (.ok (R[i]?.map src),σ):=by
 exact pK h (List.getElem?_map ..)
theorem yq{α:Type}{j ep n:Nat}{R:List α}{src:α->Int×V}{σ:ai}(h:σ[j]?=some (.idd (R.map src) ep))(hn:n=R.length)(i:Nat):bF (.keys j n ep) i σ=some (.ok (R[i]?.map λr=>.int (src r).1),σ):=by
 subst hn;exact(I5 h (List.length_map ..) (List.getElem?_map ..)).trans (by rw[Option.map_map];rfl)
noncomputable def tN(r:SR):V:=.tup [.int r.place,r.val,.int r.came]
noncomputable def lf(st:Nat)(tc:List Nat)(r:SR):Bool:=decide (r.came<st)&&!(tc.any λc=>c==r.came)
noncomputable def jy(l:List Nat):List V:=l.map λc:Nat=>V.int (c:Int)
theorem Jl{σ:ai}{tl:Nat}{tc:List Nat}{c:Nat}(h:σ[tl]?=some (.list (jy tc))):nG .NotIn σ (.int c) (.obj tl)=some (!(tc.any λx=>x==c)):=by
 show (gY σ (.int c) (.obj tl)).map (λr=>!r)=_;have e:gY σ (.int c) (.obj tl)=some (tc.any λx=>x==c):=by
  have q:(jy tc).all V.isInt=true:=List.all_eq_true.mpr λv hv=>by
   obtain⟨x,_,rfl⟩:=List.mem_map.mp hv;rfl
  rw[CA h q];congr 1;unfold jy;rw[List.any_map];congr 1;funext x;show ((x:Int)==(c:Int))=(x==c);rw[Bool.eq_iff_iff];simp only[beq_iff_eq];lia
 rw[e];rfl
theorem GS{σ:ai}{wl lg n st tl:Nat}{wi:V}{tc:List Nat}{log:List LE}(hw:σ[wl]?=some (.list [wi,.int n,.int st,.obj tl]))(ht:σ[tl]?=some (.list (jy tc)))(h:σ[lg]?=some (.list (log.map vP)))(hn:log.length<=100) :
  W (gb [.obj wl,.obj lg]) σ λv σ'=>∃ i,v=.obj i/\σ'[i]?=some (.list (((aY n log).filter (lf st tc)).map tN))/\Ext [] σ σ':=by
 revert hw ht h hn;revert σ wl lg n st tl wi tc log;intros σ wl lg n;intros st tl wi tc;intros log;intro hw ht h hn;revert hw ht h hn;revert σ wl lg n st tl wi tc log;apply F5;generalize pZ ai=σ,rU Nat=wl,uP Nat=lg,wQ Nat=n;apply F5;generalize pZ Nat=st,rU Nat=tl,uP V=wi,wQ (List Nat)=tc;apply n8;generalize A1 (List LE)=log;intro hw ht h hn;refine fS ?_;unfold mj;lk;refine bS (n:=1) hw rfl (by decide) ?_;lk;refine(mT h hn).mono ?_;apply uU;generalize nj V=v,oO ai=σ1;intro z;refine JV z ?_;clear z;generalize BD Nat=fi,Ds Nat=ep;intro hz;obtain⟨rfl,hf,x⟩:=hz;obtain⟨nd,ln⟩:=jX n log;generalize aY n log=R at *;refine W.bind (jL ?_);lk;refine C2 hf (by simp;lia) ?_;refine o8 (R:=R) (src:=λr=>.int (fG r).1) (λσ'=>Ext [] σ1 σ') (λu=>true) tN (λσ' y i=>yq (y.bh hf) (by simp) i) ?_ Ext.refl (by lia) ?_
 ·intros r;intro hr;intros σ';intro y;refine l9 (p:=.int (fG r).1) rfl ?_;lk;rw[if_pos rfl];lk;refine pH (y.bh hf) (pN nd hr) ?_;lk;refine cR (n:=1) rfl (by decide) ?_;lk;refine pH (y.bh hf) (pN nd hr) ?_;lk;refine cR (n:=0) rfl (by decide) ?_;lk;exact⟨rfl,y⟩
 ·intros σ2;intro y;rw[List.filter_eq_self.mpr (λu u=>rfl)];have h2:(σ2++[aq.list (R.map tN)])[σ2.length]?=some (.list (R.map tN)):=aZ;have X:Ext [] σ (σ2++[aq.list (R.map tN)]):=(x.trans y).trans Ext.new;generalize σ2++[aq.list (R.map tN)]=σ3 at *;generalize σ2.length=li at *;refine W.bind (jL ?_);lk;refine kJ h2 ?_;refine o8 (R:=R) (src:=tN) (λσ'=>Ext [] σ3 σ') (lf st tc) tN (λσ' y i=>nV (y.bh h2) i) ?_ Ext.refl (by lia) ?_
  ·intros r;intro hr;intros σ';intro y;refine l9 (p:=tN r) rfl ?_;have Xw:=X.trans y;lk;refine cR (n:=2) rfl (by decide) ?_;lk;refine bS (n:=2) (Xw.bh hw) rfl (by decide) ?_;lk;refine aW (b:=decide (r.came<st)) (by show some (decide ((r.came:Int)<(st:Int)))=_;simp) ?_;unfold lf;cases hc:decide (r.came<st) with
   |false=>
    refine W.aS (by decide) ?_;lk;exact⟨rfl,y⟩
   |true=>
    refine W.aX rfl ?_;lk;refine cR (n:=2) rfl (by decide) ?_;lk;refine bS (n:=3) (Xw.bh hw) rfl (by decide) ?_;lk;refine aW (Jl (Xw.bh ht)) ?_;cases hb:tc.any λx=>x==r.came with
    |true=>
     refine W.aS (by decide) ?_;lk;exact⟨rfl,y⟩
    |false=>
     refine W.aX rfl ?_;lk;rw[if_pos rfl];lk;exact⟨rfl,y⟩
  ·intros σ4;intro y;lk;exact⟨_,rfl,aZ,(X.trans y).trans Ext.new⟩
structure Row where
 place:Nat
 came:Nat
 num:Nat
 val:V
instance:Nonempty Row:=⟨⟨0,0,0,.none⟩⟩
noncomputable def Row.sr(r:Row):SR:=⟨r.place,r.came,r.val⟩
def mark(k:V):List V:=match bU 20 [k] [] with
 |some (some m)=>m
 |_=>[]
noncomputable def kR(key:Nat->V)(r:Row):V:=.tup [.int r.num,key r.place,r.val]
def ent(key:Nat->V)(r:Row):List V×V:=(mark (key r.place),kR key r)
def ents(key:Nat->V)(R:List Row):List (List V×V):=R.map (ent key)
theorem t9{key:Nat->V}:∀ R:List Row,(ents key R).mapM (λp=>kW p.2)=some (R.map λr=>(r.num:Int))
 |[]=>rfl
 |r::R=>by
  have ih:=t9 (key:=key) R;unfold ents at ih ⊢;rw[List.map_cons,List.mapM_cons,ih];rfl
theorem xE{key:Nat->V}(R:List Row):(ents key R).map (·.2)=R.map (kR key):=by
 unfold ents;rw[List.map_map];rfl
structure Wk where
 n:Nat
 st:Nat
 en:Nat
 tc:List Nat
 tn:List Nat
 wl:Nat
 wi:Nat
 wd:Nat
 to:Nat
 tl:Nat
instance:Nonempty Wk:=⟨⟨0,0,0,[],[],0,0,0,0,0⟩⟩
noncomputable def AZ(c:Nat):Int×V:=(c,.bool true)
noncomputable def qs(t en to:Nat):List (Str×V):=[("table",.obj t),("number",.none),("end",.int en),("told",.obj to)]
structure kP(σ:ai)(t:Nat)(w:Wk):Prop where
 list:σ[w.wl]?=some (.list [.obj w.wi,.int w.n,.int w.st,.obj w.tl])
 tl:σ[w.tl]?=some (.list (jy w.tc))
 inst:σ[w.wi]?=some (.inst 197 w.wd)
 sd:σ[w.wd]?=some (.sd (qs t w.en w.to))
 told:∃ ep,σ[w.to]?=some (.idd (w.tn.map AZ) ep)
theorem kP.ext{σ σ':ai}{t:Nat}{w:Wk}{mods:List Nat}(K:kP σ t w)(x:Ext mods σ σ')(h1:w.wl∉mods)(h2:w.wi∉mods)(h3:w.wd∉mods)(h4:w.to∉mods)(h5:w.tl∉mods):kP σ' t w:=
 ⟨x.get K.list h1,x.get K.tl h5,x.get K.inst h2,x.get K.sd h3,let⟨ep,h⟩:=K.told;⟨ep,x.get h h4⟩⟩
theorem kP.cO{σ σ':ai}{t:Nat}{w:Wk}(K:kP σ t w)(x:Ext [] σ σ'):kP σ' t w:=K.ext x (by simp) (by simp) (by simp) (by simp) (by simp)
noncomputable def wf(w:Wk)(r:Row):Bool:=decide (r.num<w.en)&&!(w.tn.any λc=>c==r.num)
theorem IY{σ:ai}{to ep:Nat}{tn:List Nat}{c:Nat}(h:σ[to]?=some (.idd (tn.map AZ) ep)):nG .NotIn σ (.int c) (.obj to)=some (!(tn.any λx=>x==c)):=by
 show (gY σ (.int c) (.obj to)).map (λr=>!r)=_;have e:gY σ (.int c) (.obj to)=some (tn.any λx=>x==c):=by
  rw[qm h];congr 1;rw[List.any_map];congr 1;funext x;show ((x:Int)==(c:Int))=(x==c);rw[Bool.eq_iff_iff];simp only[beq_iff_eq];lia
 rw[e];rfl
section
variable{σ:ai}{t d e c:Nat}{key:Nat->V}{R:List Row}{w:Wk}
theorem rC(T:TabAt σ t d e (ents key R) c)(K:kP σ t w)(hp:R.Pairwise λa b=>a.num<b.num)(hn:R.length<=60) :
  W (dG [.obj w.wi]) σ λv σ'=>∃ i,v=.obj i/\σ'[i]?=some (.list ((R.filter (wf w)).map (kR key)))/\Ext [] σ σ':=by
 revert T K hp hn;revert σ t d e c key R w;intros σ t d e;intros c key R w;intro T K hp hn;refine mh ?_;unfold fz;lk;refine cV K.inst K.sd rfl rfl ?_;lk;refine aW (b:=false) rfl (W.aS (by decide) ?_);refine W.bind (jL ?_);lk;refine cV K.inst K.sd rfl rfl ?_;lk;refine cW T.inst T.sd rfl ?_;lk;refine(BN T (kz:=R.map λr=>(r.num:Int)) (t9 R) (by simpa [ents] using hn) (by rw[List.pairwise_map];exact hp.imp λh=>by lia)).mono ?_;intros v σ1;intro z;injection z with z i hz;obtain⟨rfl,hi,x⟩:=hz
 rw[xE] at hi;refine kJ hi ?_;refine o8 (R:=R) (src:=kR key) (λσ'=>Ext [] σ1 σ') (wf w) (kR key) (λσ' y i=>nV (y.bh hi) i) ?_ Ext.refl (by lia) ?_
 ·intros r;intro hr;intros σ';intro y;refine l9 (p:=kR key r) rfl ?_;have K':=K.cO (x.trans y);lk;refine cR (n:=0) rfl (by decide) ?_;lk;refine cV K'.inst K'.sd rfl rfl ?_;refine aW (b:=decide (r.num<w.en)) (by show some (decide ((r.num:Int)<(w.en:Int)))=_;simp) ?_;unfold wf;cases hc:decide (r.num<w.en) with
  |false=>
   refine W.aS (by decide) ?_;lk;exact⟨rfl,y⟩
  |true=>
   refine W.aX rfl ?_;lk;refine cR (n:=0) rfl (by decide) ?_;lk;refine cV K'.inst K'.sd rfl rfl ?_;injection K'.told with x0 ep ht
   refine aW (IY ht) ?_;cases hb:w.tn.any λx=>x==r.num with
   |true=>
    refine W.aS (by decide) ?_;lk;exact⟨rfl,y⟩
   |false=>
    refine W.aX rfl ?_;lk;rw[if_pos rfl];lk;exact⟨rfl,y⟩
 ·intros σ2;intro y;lk;exact⟨_,rfl,aZ,(x.trans y).trans Ext.new⟩
end
noncomputable def mY(row:List Int)(k n:Nat):Nat:=if n<=1 then 0 else ((row.getD k 0).fmod n).toNat
noncomputable def tL(k n:Nat):Nat:=if n<=1 then k else k+1
theorem F3{row:List Int}{k n:Nat}(h:1<=n):mY row k n<n:=by
 unfold mY;split
 ·exact h
 ·have h2:=Int.fmod_nonneg_of_pos (row.getD k 0) (b:=(n:Int)) (by omega);have h3:=Int.fmod_lt_of_pos (row.getD k 0) (b:=(n:Int)) (by omega);omega
theorem BA{row:List Int}{k n:Nat}(h:2<=n):(row.getD k 0).fmod n=(mY row k n:Nat):=by
 have h2:=Int.fmod_nonneg_of_pos (row.getD k 0) (b:=(n:Int)) (by omega);unfold mY;rw[if_neg (by omega)];omega
theorem HR{σ:ai}{ci cd ri k n:Nat}{row:List Int}(C:kj σ ci cd ri row k)(hn:n<=1000)(hr:row.length<=1000) :
  W (gB [.obj ci,.int n]) σ λv σ'=>v=.int (mY row k n:Nat)/\Ext [cd] σ σ'/\kj σ' ci cd ri row (tL k n):=by
 by_cases h:n<=1
 ·refine(HC h).mono λv σ' z=>?_;obtain⟨rfl,rfl⟩:=z;unfold mY tL;rw[if_pos h,if_pos h];exact⟨rfl,Ext.refl,C⟩
 ·refine(pick_run C (by lia) hn hr).mono λv σ' z=>?_;rw[BA (by lia)] at z;unfold tL;rw[if_neg h];exact z
section
variable{σ:ai}{t d e c:Nat}{key:Nat->V}{R:List Row}{w:Wk}{ci cd ri k:Nat}{row:List Int}
theorem FD{tn:List Nat}{c:Nat}(h:(tn.any λx=>x==c)=false):bN (tn.map AZ) (c:Int) (.bool true)=(tn++[c]).map AZ:=by
 unfold bN;have e:((tn.map AZ).any λp=>decide (p.1=(c:Int)))=false:=by
  rw[<- h,List.any_map];congr 1;funext x;show decide ((x:Int)=(c:Int))=(x==c);rw[Bool.eq_iff_iff];simp only[beq_iff_eq,decide_eq_true_eq];lia
 rw[e,if_neg (by decide),List.map_append];rfl
theorem Gi(T:TabAt σ t d e (ents key R) c)(K:kP σ t w)(hp:R.Pairwise λa b=>a.num<b.num)(hn:R.length<=60)(hL:R.filter (wf w)=[]) :
  W (bJ [.obj w.wi,.obj ci]) σ λv σ'=>v=.none/\Ext [] σ σ':=by
 refine fS ?_;unfold dO;lk;refine cW K.inst K.sd rfl ?_;lk;refine(rC T K hp hn).mono λv σ1 z=>?_;obtain⟨i,rfl,hi,x⟩:=z;rw[hL] at hi;refine W.bind (tB hi ?_);refine W.aX rfl ?_;lk;exact⟨rfl,x.trans Ext.new⟩
theorem Gv{r:Row}(T:TabAt σ t d e (ents key R) c)(K:kP σ t w)(C:kj σ ci cd ri row k)(hp:R.Pairwise λa b=>a.num<b.num)(hn:R.length<=60)(hr:row.length<=1000)(ht:w.tn.length<=900)
 (hj:(R.filter (wf w))[mY row k (R.filter (wf w)).length]?=some r) :
  W (bJ [.obj w.wi,.obj ci]) σ λv σ'=>v=.tup [key r.place,r.val]/\Ext [cd,w.to] σ σ'/\kj σ' ci cd ri row (tL k (R.filter (wf w)).length)/\∃ ep,σ'[w.to]?=some (.idd ((w.tn++[r.num]).map AZ) ep):=by
 revert T K C hp hn hr ht hj;revert σ t d e c key R w ci cd ri k row r;apply b9;generalize cM=zt;generalize zt.1.1.1=σ,zt.1.1.2.1=t,zt.1.1.2.2=d,zt.1.2.1.1=e,zt.1.2.1.2=c,zt.1.2.2.1=key,zt.1.2.2.2=R,zt.2.1.1=w,zt.2.1.2.1=ci,zt.2.1.2.2=cd,zt.2.2.1.1=ri,zt.2.2.1.2=k,zt.2.2.2.1=row,zt.2.2.2.2=r;intro T K C hp hn hr ht hj;refine fS ?_;unfold dO;lk;refine cW K.inst K.sd rfl ?_;lk;refine(rC T K hp hn).mono ?_;intros v σ1;intro z;injection z with z i hz;obtain⟨rfl,hi,x⟩:=hz
 have hf:wf w r=true:=(List.mem_filter.mp (LG hj)).2;have hl:(R.filter (wf w)).length<=60:=LZ (List.length_filter_le ..) hn;generalize hLe:R.filter (wf w)=L at *;refine W.bind (tB hi ?_);have ne:(L.map (kR key)).isEmpty=false:=by
  cases L with
  |nil=>simp at hj
  |cons a l=>rfl
 rw[ne];refine W.aS (by decide) ?_;have C1a:=C.ext (x.trans (Ext.new (o:=aq.list []))) (by simp) (by simp) (by simp);have K1a:=K.cO (x.trans (Ext.new (o:=aq.list [])));have hi1a:(σ1++[aq.list []])[i]?=some (.list (L.map (kR key))):=Ext.new.bh hi;have X:Ext [] σ (σ1++[aq.list []]):=x.trans Ext.new;generalize σ1++[aq.list []]=σ2 at *;lk;refine cW C1a.inst C1a.sd rfl ?_;lk;refine iG hi1a (by simp;lia) ?_;lk;rw[List.length_map];refine(HR C1a (by lia) hr).mono ?_;intros v σ3;intro z;revert hLe hj hi hl ne C1a K1a hi1a X z;revert L σ2;intros L σ2;intro hLe hj hi hl ne C1a K1a hi1a X z;obtain⟨rfl,y,C3a⟩:=z;have n1:i≠cd:=fy hi1a C1a.sd (by simp);refine bS (n:=mY row k L.length) (y.get hi1a (by simpa using n1)) (v:=kR key r) (by rw[List.getElem?_map,hj];rfl) (by have:=(LA hj).1;lia) ?_;refine jr (g:=(.int r.num,key r.place,r.val)) rfl ?_;injection K1a.told with x0 ep htd
 have n2:w.to≠cd:=fy htd C1a.sd (by simp);have n3:w.wi≠cd:=fy K1a.inst C1a.sd (by simp);have n4:w.wd≠cd:=fy K1a.sd C1a.sd (by simp[qs]);have htd3:=y.get htd (by simpa using n2);have hin:=y.get K1a.inst (by simpa using n3);have hsd:=y.get K1a.sd (by simpa using n4);lk;refine cV hin hsd rfl rfl ?_;lk;refine A5 htd3 (by simp;lia) ?_;lk;have hfn:(w.tn.any λx=>x==r.num)=false:=by
  unfold wf at hf;rw[Bool.and_eq_true] at hf;simpa using hf.2
 rw[FD hfn];have m1:ci≠w.to:=λq=>by subst q;rw[C3a.inst] at htd3;cases htd3
 have m2:cd≠w.to:=λq=>n2 q.symm;have m3:ri≠w.to:=λq=>by subst q;rw[C3a.row] at htd3;cases htd3
 refine⟨rfl,⟨?_,?_⟩,C3a.ext Ext.set (by simpa using m1) (by simpa using m2) (by simpa using m3),_,get_set (bB htd3)⟩
 ·exact LZ X.1 (LZ y.1 (by simp))
 ·intros i' o;intro ni e';simp only[List.mem_cons,List.not_mem_nil,or_false,not_or] at ni;exact Ext.set.get (y.get (X.bh e') (by simpa using ni.1)) (by simpa using ni.2)
end
noncomputable def fc(t:List V)(v:V):V:=.tup [.str "face",.tup t,v]
noncomputable def arr(l:List V):V:=.tup [.str "array",.tup l]
noncomputable def CX(l:List V):V:=.tup [.str "struct",.tup l]
noncomputable def nN:List V:=[fc [.str "int",.str "int"] (.int 1),fc [.str "int",.str "int8"] (.int 1),fc [.str "bool"] (.bool true),.bytes #[97],.bytes #[],.none]
noncomputable def n7:List V:=[.tup [.str "ptr",.int 3,.tup [.int 1]],.tup [.str "ptr",.int 3,.tup []],CX [.int 1,.bool true],CX [.int 1,.int 1],arr [.int 1,.bool true]]
noncomputable def tG:List V:=[CX [arr [.int 1,.int 2],.int 3],CX [arr [.int 1],.int 2,.int 3]]
noncomputable def C0:List V:=[fc [.str "named",.str "main.T"] (CX [.int 0,.bytes #[97]])]
noncomputable def Aw:List V:=((nN++n7)++tG)++C0
noncomputable def Bq:List V:=[CX [.int 1,.tup [.str "slice",.int 4,.int 0,.int 1,.int 1]],fc [.str "func",.tup [],.tup [],.bool false] .none,.tup [.str "map",.int 2]]
theorem HA{σ:ai}:W (j3 []) σ λv σ'=>∃ i,v=.obj i/\σ'[i]?=some (.list Aw)/\Ext [] σ σ':=by
 revert σ;intros σ;refine H7 ?_;unfold lV;lk;refine dR (l:=nN) (by decide) ?_;have h1:(σ++[aq.list nN])[σ.length]?=some (.list nN):=aZ;have x1:Ext [] σ (σ++[aq.list nN]):=Ext.new;generalize σ++[aq.list nN]=σ1 at *;generalize σ.length=i1a at *;lk;refine dR (l:=n7) (by decide) ?_;have h2:(σ1++[aq.list n7])[σ1.length]?=some (.list n7):=aZ;have x2:Ext [] σ1 (σ1++[aq.list n7]):=Ext.new;have x2':=x1.trans x2;generalize σ1++[aq.list n7]=σ2 at *;generalize σ1.length=i2a at *;refine DQ (x2.bh h1) h2 (by decide) ?_;have h3:(σ2++[aq.list (nN++n7)])[σ2.length]?=some (.list (nN++n7)):=aZ;have x3:=x2'.trans (Ext.new (o:=aq.list (nN++n7)));generalize σ2++[aq.list (nN++n7)]=σ3 at *;generalize σ2.length=i3a at *;lk;refine dR (l:=tG) (by decide) ?_;have h4:(σ3++[aq.list tG])[σ3.length]?=some (.list tG):=aZ;have x4:Ext [] σ3 (σ3++[aq.list tG]):=Ext.new;have x4':=x3.trans x4;generalize σ3++[aq.list tG]=σ4 at *;generalize σ3.length=i4 at *;refine DQ (x4.bh h3) h4 (by decide) ?_;have h5:(σ4++[aq.list ((nN++n7)++tG)])[σ4.length]?=some (.list ((nN++n7)++tG)):=aZ;have x5:=x4'.trans (Ext.new (o:=aq.list ((nN++n7)++tG)));generalize σ4++[aq.list ((nN++n7)++tG)]=σ5 at *;generalize σ4.length=i5 at *;lk;refine dR (l:=C0) (by decide) ?_;have h6:(σ5++[aq.list C0])[σ5.length]?=some (.list C0):=aZ;have x6:Ext [] σ5 (σ5++[aq.list C0]):=Ext.new;have x6':=x5.trans x6;generalize σ5++[aq.list C0]=σ6 at *;generalize σ5.length=i6a at *;refine DQ (x6.bh h5) h6 (by decide) ?_;lk;exact⟨_,rfl,aZ,x6'.trans Ext.new⟩
theorem Fw{σ:ai}:W (oH []) σ λv σ'=>v=.obj σ.length/\σ'=σ++[.list Bq]:=by
 refine H7 ?_;unfold k9;lk;refine dR (l:=Bq) (by decide) ?_;lk;exact⟨rfl,rfl⟩
structure gU(key:Nat->V):Prop where
 walk:∀ p,p<5->bU 20 [key p] []=some (some (mark (key p)))
 ok:∀ p,p<5->j7 (mark (key p))=true
 eq:∀ p,p<5->dM 19 (key p) (key p)=some true
 inj:∀ p q,p<5->q<5->mark (key p)=mark (key q)->p=q
noncomputable def j9(f p:Nat):V:=Aw.getD ((f+3*p) % 14) .none
def Ed(key:Nat->V):Bool:=(List.range 5).all λp=>decide (bU 20 [key p] []=some (some (mark (key p))))&&j7 (mark (key p))&&decide (dM 19 (key p) (key p)=some true)&&(List.range 5).all λq=>decide (mark (key p)=mark (key q)->p=q)
theorem GU{key:Nat->V}(h:Ed key=true):gU key:=by
 unfold Ed at h;have g:∀ p,p<5->((bU 20 [key p] []=some (some (mark (key p)))/\j7 (mark (key p))=true)/\dM 19 (key p) (key p)=some true)/\∀ q,q<5->(mark (key p)=mark (key q)->p=q):=λp hp=>by
  have:=List.all_eq_true.mp h p (List.mem_range.mpr hp);simp only[Bool.and_eq_true,decide_eq_true_eq,List.all_eq_true,List.mem_range] at this;exact this
 exact⟨λp hp=>(g p hp).1.1.1,λp hp=>(g p hp).1.1.2,λp hp=>(g p hp).1.2,λp q hp hq=>(g p hp).2 q hq⟩
theorem Gq:((List.range 14).all λf=>Ed (j9 f))=true:=by decide
theorem Jg{f:Nat}(h:f<14):gU (j9 f):=GU (List.all_eq_true.mp Gq f (List.mem_range.mpr h))
theorem Dr{n:Nat}(h:n<3):∃ k,Bq[n]?=some k/\bU 20 [k] []=some none:=by
 match n,h with
 |0,_=>exact⟨_,rfl,by decide⟩
 |1,_=>exact⟨_,rfl,by decide⟩
 |2,_=>exact⟨_,rfl,by decide⟩
def xJ(v:V):Prop:=v=.none\/∃ i,v=.int i
theorem AP{v:V}(h:xJ v):dM 19 v v=some true:=by
 rcases h with rfl|⟨i,rfl⟩
 ·rfl
 ·show some (i==i)=some true;simp
section
variable{key:Nat->V}{R:List Row}{p c L:Nat}{v:V}
noncomputable def newVal(p:Nat)(v:V)(q:Row):Row:=if q.place=p then {q with val:=v} else q
theorem kG(K:gU key)(h5:∀ r∈R,r.place<5)(hp:p<5){r:Row}(hr:r∈R):mark (key r.place)=mark (key p)↔r.place=p:=
 ⟨K.inj _ _ (h5 r hr) hp,λe=>by rw[e]⟩
theorem yo(K:gU key)(h5:∀ r∈R,r.place<5)(hp:p<5):bX (ents key R) (mark (key p))=(R.find? λr=>decide (r.place=p)).map (kR key):=by
 unfold bX ents;rw[List.find?_map,Option.map_map];have:(R.find? ((λq:List V×V=>decide (q.1=mark (key p)))∘ent key))=R.find? λr=>decide (r.place=p):=by
  revert h5
  induction R with
  |nil=>intro _;rfl
  |cons a l ih=>
   intro h5;have e:((λq:List V×V=>decide (q.1=mark (key p)))∘ent key) a=decide (a.place=p):=decide_eq_decide.mpr (kG (R:=a::l) K h5 (by assumption) (.head _));rw[List.find?_cons,List.find?_cons,e,ih λr hr=>h5 r (.tail _ hr)]
 rw[this];rfl
theorem zZ(K:gU key)(h5:∀ r∈R,r.place<5)(hp:p<5):((ents key R).any λq=>decide (q.1=mark (key p)))=R.any λr=>decide (r.place=p):=by
 unfold ents;rw[List.any_map,Bool.eq_iff_iff,List.any_eq_true,List.any_eq_true];constructor
 ·rintro ⟨r,hr,e⟩;exact⟨r,hr,decide_eq_true ((kG K h5 hp hr).mp (of_decide_eq_true e))⟩
 ·rintro ⟨r,hr,e⟩;exact⟨r,hr,decide_eq_true ((kG K h5 hp hr).mpr (of_decide_eq_true e))⟩
theorem Ht(K:gU key)(h5:∀ r∈R,r.place<5)(hp:p<5)(nd:(R.map (·.place)).Nodup){r:Row}(hr:r∈R)(e:r.place=p):bN (ents key R) (mark (key p)) (.tup [.int r.num,key r.place,v])=ents key (R.map (newVal p v)):=by
 unfold bN;rw[zZ K h5 hp,if_pos (List.any_eq_true.mpr ⟨r,hr,decide_eq_true e⟩)];unfold ents;rw[List.map_map,List.map_map];apply List.map_congr_left;intro q hq;have hu:q.place=p->q=r:=λz=>by
  have:∀ l:List Row,(l.map (·.place)).Nodup->q∈l->r∈l->q=r:=by
   intro l
   induction l with
   |nil=>intro _ h;cases h
   |cons a l ih=>
    intro nd h1 h2;rw[List.map_cons,List.nodup_cons] at nd;cases h1 with
    |head=>
     cases h2 with
     |head=>rfl
     |tail _ h2=>exact LW (List.mem_map.mpr ⟨r,h2,e.trans z.symm⟩) nd.1
    |tail _ h1=>
     cases h2 with
     |head=>exact LW (List.mem_map.mpr ⟨q,h1,z.trans e.symm⟩) nd.1
     |tail _ h2=>exact ih nd.2 h1 h2
  exact this R nd hq hr
 show (if (ent key q).1=mark (key p) then ((ent key q).1,V.tup [.int r.num,key r.place,v]) else ent key q)=ent key (newVal p v q);by_cases z:q.place=p
 ·have:=hu z;subst this;rw[if_pos (show (ent key q).1=mark (key p) from (kG K h5 hp hq).mpr z)];unfold newVal;rw[if_pos z];rfl
 ·rw[if_neg (show ¬(ent key q).1=mark (key p) from λw=>z ((kG K h5 hp hq).mp w))];unfold newVal;rw[if_neg z]
theorem GV(K:gU key)(h5:∀ r∈R,r.place<5)(hp:p<5)(h:(R.any λr=>decide (r.place=p))=false):bN (ents key R) (mark (key p)) (.tup [.int c,key p,v])=ents key (R++[⟨p,L,c,v⟩]):=by
 unfold bN;rw[zZ K h5 hp,h,if_neg (by decide)];unfold ents;rw[List.map_append];rfl
theorem G5(K:gU key)(h5:∀ r∈R,r.place<5)(hp:p<5):cH (ents key R) (mark (key p))=ents key (R.filter λr=>decide (r.place≠p)):=by
 unfold cH ents;rw[List.filter_map];congr 1;apply List.filter_congr;intro r hr;exact decide_eq_decide.mpr (not_congr (kG K h5 hp hr))
theorem wD(K:gU key)(h5:∀ r∈R,r.place<5)(hp:p<5)(hn:R.length<=1000):iw (ents key R) (mark (key p))=true:=by
 unfold iw;rw[K.ok p hp,Bool.and_true,Bool.and_eq_true];refine⟨List.all_eq_true.mpr λq hq=>?_,decide_eq_true (by simpa [ents] using hn)⟩;obtain⟨r,hr,rfl⟩:=List.mem_map.mp hq;exact K.ok _ (h5 r hr)
end
structure gX(R:List Row)(c n:Nat)(log:List LE):Prop where
 st:aY n log=R.map Row.sr
 num:R.Pairwise λa b=>a.num<b.num
 same:∀ r∈R,∀ r'∈R,r.came=r'.came↔r.num=r'.num
 bnd:∀ r∈R,r.came<log.length/\r.num<c/\r.place<5/\xJ r.val
structure iz(R:List Row)(c L:Nat)(w:Wk):Prop where
 ag:∀ r∈R,(r.came<w.st↔r.num<w.en)/\(r.came∈w.tc↔r.num∈w.tn)
 st:w.st<=L
 en:w.en<=c
 tc:∀ x∈w.tc,x<L
 tn:∀ x∈w.tn,x<c
section
variable{R:List Row}{c n p L:Nat}{log:List LE}{v:V}{w:Wk}
theorem gX.nd(H:gX R c n log):(R.map (·.place)).Nodup:=by
 have:=(jX n log).1;rw[H.st,List.map_map] at this;exact this
theorem gX.len(H:gX R c n log):R.length<=log.length:=by
 have:=(jX n log).2;rw[H.st,List.length_map] at this;exact this
theorem gX.h5(H:gX R c n log):∀ r∈R,r.place<5:=λr hr=>(H.bnd r hr).2.2.1
theorem gX.other(H:gX R c n log){e:LE}(h:e.table≠n):gX R c n (log++[e]):=by
 refine⟨?_,H.num,H.same,λr hr=>?_⟩
 ·rw[ku,H.st];unfold sstep;rw[if_neg h]
 ·have:=H.bnd r hr;rw[List.length_append,List.length_singleton];exact⟨by lia,this.2⟩
theorem BH{R:List Row}:((R.map Row.sr).any λr=>r.place==p)=R.any λr=>decide (r.place=p):=by
 rw[List.any_map];congr 1
theorem gX.old(H:gX R c n log)(hv:xJ v)(h:(R.any λr=>decide (r.place=p))=true):gX (R.map (newVal p v)) c n (log++[⟨n,p,v,true⟩]):=by
 have sc:∀ q,(newVal p v q).came=q.came/\(newVal p v q).num=q.num/\(newVal p v q).place=q.place:=λq=>by
  unfold newVal;split<;>simp
 refine⟨?_,?_,λr hr r' hr'=>?_,λr hr=>?_⟩
 ·rw[ku,H.st];unfold sstep;rw[if_pos rfl,if_pos rfl,BH,if_pos h,List.map_map,List.map_map];apply List.map_congr_left;intro q _;show (if (Row.sr q).place=p then {Row.sr q with val:=v} else Row.sr q)=Row.sr (newVal p v q);unfold newVal;show (if q.place=p then _ else _)=_;split<;>rfl
 ·rw[List.pairwise_map];exact H.num.imp λ{a b} z=>by rw[(sc a).2.1,(sc b).2.1];exact z
 ·obtain⟨q,hq,rfl⟩:=List.mem_map.mp hr;obtain⟨q',hq',rfl⟩:=List.mem_map.mp hr';rw[(sc q).1,(sc q').1,(sc q).2.1,(sc q').2.1];exact H.same q hq q' hq'
 ·obtain⟨q,hq,rfl⟩:=List.mem_map.mp hr;have b:=H.bnd q hq;rw[(sc q).1,(sc q).2.1,(sc q).2.2,List.length_append,List.length_singleton];refine⟨by lia,b.2.1,b.2.2.1,?_⟩;unfold newVal;split
  ·exact hv
  ·exact b.2.2.2
theorem gX.new(H:gX R c n log)(hp:p<5)(hv:xJ v)(h:(R.any λr=>decide (r.place=p))=false):gX (R++[⟨p,log.length,c,v⟩]) (c+1) n (log++[⟨n,p,v,true⟩]):=by
 refine⟨?_,?_,λr hr r' hr'=>?_,λr hr=>?_⟩
 ·rw[ku,H.st];unfold sstep;rw[if_pos rfl,if_pos rfl,BH,h,if_neg (by decide),List.map_append];rfl
 ·rw[List.pairwise_append];refine⟨H.num,by simp,λa ha b hb=>?_⟩;rw[List.mem_singleton] at hb;subst hb;exact(H.bnd a ha).2.1
 ·rw[List.mem_append,List.mem_singleton] at hr hr';rcases hr with hr|rfl<;>rcases hr' with hr'|rfl
  ·exact H.same r hr r' hr'
  ·have:=H.bnd r hr;dsimp only;lia
  ·have:=H.bnd r' hr';dsimp only;lia
  ·simp
 ·rw[List.mem_append,List.mem_singleton] at hr;rw[List.length_append,List.length_singleton];rcases hr with hr|rfl
  ·have:=H.bnd r hr;exact⟨by lia,by lia,this.2.2⟩
  ·exact⟨by dsimp only;lia,by dsimp only;lia,hp,hv⟩
theorem gX.out(H:gX R c n log):gX (R.filter λr=>decide (r.place≠p)) c n (log++[⟨n,p,.none,false⟩]):=by
 refine⟨?_,H.num.filter _,λr hr r' hr'=>H.same r (List.mem_filter.mp hr).1 r' (List.mem_filter.mp hr').1,λr hr=>?_⟩
 ·rw[ku,H.st];unfold sstep;rw[if_pos rfl,if_neg (by simp),List.filter_map];rfl
 ·have:=H.bnd r (List.mem_filter.mp hr).1;rw[List.length_append,List.length_singleton];exact⟨by lia,this.2⟩
theorem iz.more(H:iz R c L w):iz R c (L+1) w:=⟨H.ag,Nat.le_succ_of_le H.st,H.en,λx hx=>Nat.lt_succ_of_lt (H.tc x hx),H.tn⟩
theorem iz.old(H:iz R c L w):iz (R.map (newVal p v)) c (L+1) w:=by
 refine⟨λr hr=>?_,Nat.le_succ_of_le H.st,H.en,λx hx=>Nat.lt_succ_of_lt (H.tc x hx),H.tn⟩;obtain⟨q,hq,rfl⟩:=List.mem_map.mp hr;have sc:(newVal p v q).came=q.came/\(newVal p v q).num=q.num:=by unfold newVal;split<;>simp
 rw[sc.1,sc.2];exact H.ag q hq
theorem iz.new(H:iz R c L w):iz (R++[⟨p,L,c,v⟩]) (c+1) (L+1) w:=by
 refine⟨λr hr=>?_,Nat.le_succ_of_le H.st,Nat.le_succ_of_le H.en,λx hx=>Nat.lt_succ_of_lt (H.tc x hx),λx hx=>Nat.lt_succ_of_lt (H.tn x hx)⟩;rw[List.mem_append,List.mem_singleton] at hr;rcases hr with hr|rfl
 ·exact H.ag r hr
 ·refine⟨?_,⟨λz=>LW (H.tc _ z) (LV _),λz=>LW (H.tn _ z) (LV _)⟩⟩;have:=H.st;have:=H.en;dsimp only;lia
theorem iz.out(H:iz R c L w):iz (R.filter λr=>decide (r.place≠p)) c (L+1) w:=
 ⟨λr hr=>H.ag r (List.mem_filter.mp hr).1,Nat.le_succ_of_le H.st,H.en,λx hx=>Nat.lt_succ_of_lt (H.tc x hx),H.tn⟩
theorem K3(H:iz R c L w){r:Row}(hr:r∈R):lf w.st w.tc r.sr=wf w r:=by
 obtain⟨h1,h2⟩:=H.ag r hr;unfold lf wf;rw[decide_eq_decide.mpr (show r.sr.came<w.st↔r.num<w.en from h1)];congr 2;rw[Bool.eq_iff_iff,List.any_eq_true,List.any_eq_true];constructor
 ·rintro ⟨x,hx,e⟩;have e:x=r.came:=eq_of_beq e;exact⟨_,h2.mp (e▸hx),by simp⟩
 ·rintro ⟨x,hx,e⟩;have e:x=r.num:=eq_of_beq e;exact⟨_,h2.mpr (e▸hx),by simp[Row.sr]⟩
theorem Fe(H:gX R c n log)(W:iz R c L w):(aY n log).filter (lf w.st w.tc)=(R.filter (wf w)).map Row.sr:=by
 rw[H.st,List.filter_map];congr 1;exact List.filter_congr λr hr=>K3 W hr
theorem iz.told(H:gX R c n log)(W:iz R c log.length w){r:Row}(hr:r∈R):iz R c log.length {w with tc:=w.tc++[r.came],tn:=w.tn++[r.num]}:=by
 have b:=H.bnd r hr;refine⟨λq hq=>⟨(W.ag q hq).1,?_⟩,W.st,W.en,λx hx=>?_,λx hx=>?_⟩
 ·show q.came∈w.tc++[r.came]↔q.num∈w.tn++[r.num];rw[List.mem_append,List.mem_append,List.mem_singleton,List.mem_singleton,(W.ag q hq).2,H.same q hq r hr]
 ·rcases Ly hx with hx|hx
  ·exact W.tc x hx
  ·rw[List.mem_singleton] at hx;subst hx;exact b.1
 ·rcases Ly hx with hx|hx
  ·exact W.tn x hx
  ·rw[List.mem_singleton] at hx;subst hx;exact b.2.1
theorem iz.fresh(H:gX R c n log)(h1:w.st=log.length)(h2:w.en=c)(h3:w.tc=[])(h4:w.tn=[]):iz R c log.length w:=by
 refine⟨λr hr=>?_,by lia,by lia,λx hx=>?_,λx hx=>?_⟩
 ·have:=H.bnd r hr;rw[h3,h4,h1,h2];exact⟨by lia,by simp⟩
 ·rw[h3] at hx;cases hx
 ·rw[h4] at hx;cases hx
end
noncomputable def ny:Str:="_law_refused.<locals>.<lambda>"
def gc(σ:ai):Prop:=∃ l,σ[(0:Nat)]?=some (.tab 297 l)/\∀ k i,l.lookup k=some i->σ[i]?=some (.code ny)
noncomputable def soft:aq->Bool
 |.tab ..=>false
 |.code _=>false
 |_=>true
def vI(σ:ai)(mods:List Nat):Prop:=∀ m∈mods,∃ o,σ[m]?=some o/\soft o=true
theorem d8{σ:ai}:vI σ []:=λu z=>nomatch z
theorem dj{σ:ai}{m:Nat}{ms:List Nat}{o:aq}(h:σ[m]?=some o)(s:soft o=true)(r:vI σ ms):vI σ (m::ms):=λi hi=>by
 cases hi with
 |head=>exact⟨o,h,s⟩
 |tail _ hi=>exact r i hi
theorem gc.ext{σ σ':ai}{mods:List Nat}(C:gc σ)(x:Ext mods σ σ')(h:vI σ mods):gc σ':=by
 obtain⟨l,h0,hl⟩:=C;have no:∀ {i o},σ[i]?=some o->soft o=false->i∉mods:=λe s z=>by
  obtain⟨o',e',s'⟩:=h _ z;rw[e] at e';cases e';rw[s] at s';cases s'
 exact⟨l,x.get h0 (no h0 rfl),λk i e=>x.get (hl k i e) (no (hl k i e) rfl)⟩
structure Ix where
 re:Nat
 ri:Nat
 ki:Nat
 cd:Nat
 ci:Nat
 bk:Nat
 ti:Nat
 lg:Nat
 wk:Nat
 t:Nat->Nat
 d:Nat->Nat
 e:Nat->Nat
instance:Nonempty Ix:=⟨⟨0,0,0,0,0,0,0,0,0,id,id,id⟩⟩
def Ix.ok(x:Ix):Prop:=x.re<x.ri/\x.ri<x.ki/\x.ki<x.cd/\x.cd<x.ci/\x.ci<x.bk/\x.bk<x.d 0/\x.d 0<x.t 0/\x.t 0<x.e 0/\x.e 0<x.d 1/\x.d 1<x.t 1/\x.t 1<x.e 1/\x.e 1<x.ti/\x.ti<x.lg/\x.lg<x.wk
def Wk.up(w:Wk)(wk:Nat):Prop:=wk<w.wd/\w.wd<w.wi/\w.wi<w.to/\w.to<w.tl/\w.tl<w.wl
structure St where
 R:Nat->List Row
 c:Nat->Nat
 log:List LE
 ws:List Wk
 k:Nat
instance:Nonempty St:=⟨⟨λu=>[],id,[],[],0⟩⟩
noncomputable def kB(x:Ix)(k:Nat):List (Str×V):=[("keys",.obj x.ki),("row",.obj x.ri),("choices",.obj x.ci),("tables",.obj x.ti),("log",.obj x.lg),("walks",.obj x.wk),("at",.int k)]
noncomputable def Ix.at(x:Ix):Nat->Nat
 |0=>x.re
 |1=>x.ri
 |2=>x.ki
 |3=>x.cd
 |4=>x.ci
 |5=>x.bk
 |6=>x.d 0
 |7=>x.t 0
 |8=>x.e 0
 |9=>x.d 1
 |10=>x.t 1
 |11=>x.e 1
 |12=>x.ti
 |13=>x.lg
 |k+14=>x.wk+k
noncomputable def Wk.at(w:Wk):Nat->Nat
 |0=>w.wd
 |1=>w.wi
 |2=>w.to
 |3=>w.tl
 |k+4=>w.wl+k
theorem Dw{f:Nat->Nat}(h:∀ i,f i<f (i+1)){i j:Nat}(q:i<j):f i<f j:=by
 induction q with
 |refl=>exact h i
 |step _ ih=>exact Nat.lt_trans ih (h _)
theorem qu{f:Nat->Nat}(h:∀ i,f i<f (i+1)){i j:Nat}(q:i<=j):f i<=f j:=by
 rcases Nat.lt_or_eq_of_le q with l|rfl
 ·exact Nat.le_of_lt (Dw h l)
 ·exact LP _
theorem Ij{f:Nat->Nat}(h:∀ i,f i<f (i+1))(i:Nat)(js:List Nat)(q:js.all (λj=>!(i==j))=true):f i∉js.map f:=λz=>by
 obtain⟨j,hj,e⟩:=List.mem_map.mp z;have:=List.all_eq_true.mp q j hj;rcases Nat.lt_trichotomy i j with l|l|l
 ·exact L7 (Dw h l) e
 ·simp[l] at this
 ·exact Nat.ne_of_lt (Dw h l) e
theorem Ix.ok.up{x:Ix}(o:x.ok):∀ i,x.at i<x.at (i+1)
 |0=>o.1
 |1=>o.2.1
 |2=>o.2.2.1
 |3=>o.2.2.2.1
 |4=>o.2.2.2.2.1
 |5=>o.2.2.2.2.2.1
 |6=>o.2.2.2.2.2.2.1
 |7=>o.2.2.2.2.2.2.2.1
 |8=>o.2.2.2.2.2.2.2.2.1
 |9=>o.2.2.2.2.2.2.2.2.2.1
 |10=>o.2.2.2.2.2.2.2.2.2.2.1
 |11=>o.2.2.2.2.2.2.2.2.2.2.2.1
 |12=>o.2.2.2.2.2.2.2.2.2.2.2.2.1
 |13=>o.2.2.2.2.2.2.2.2.2.2.2.2.2
 |_+14=>Nat.lt_succ_self _
theorem Ix.ok.no{x:Ix}(o:x.ok)(i:Nat)(js:List Nat)(q:js.all (λj=>!(i==j))=true):x.at i∉js.map x.at:=Ij o.up i js q
theorem Wk.up.go{w:Wk}{k:Nat}(u:w.up k):∀ i,w.at i<w.at (i+1)
 |0=>u.2.1
 |1=>u.2.2.1
 |2=>u.2.2.2.1
 |3=>u.2.2.2.2
 |_+4=>Nat.lt_succ_self _
theorem Wk.up.no{w:Wk}{k:Nat}(u:w.up k)(i:Nat)(js:List Nat)(q:js.all (λj=>!(i==j))=true):w.at i∉js.map w.at:=Ij u.go i js q
theorem Wk.up.gt{w:Wk}{k:Nat}(u:w.up k)(i:Nat):k<w.at i:=LS u.1 (qu u.go (i:=0) (LI i))
theorem Ix.ok.le{x:Ix}(o:x.ok){i:Nat}(h:Nat.ble i 14=true):x.at i<=x.wk:=qu o.up (j:=14) (LD h)
theorem Wk.up.sF{x:Ix}{w:Wk}(u:w.up x.wk)(o:x.ok)(i:Nat)(js:List Nat)(q:js.all (Nat.ble · 14)=true):w.at i∉js.map x.at:=λz=>by
 obtain⟨j,hj,e⟩:=List.mem_map.mp z;exact Nat.ne_of_lt (L8 (o.le (List.all_eq_true.mp q j hj)) (u.gt i)) e
theorem Wk.up.Bv{x:Ix}{w:Wk}(u:w.up x.wk)(o:x.ok)(i:Nat)(h:Nat.ble i 14=true)(js:List Nat):x.at i∉js.map w.at:=λz=>by
 obtain⟨j,_,e⟩:=List.mem_map.mp z;exact L7 (L8 (o.le h) (u.gt j)) e
theorem Wk.up.Lg{u w:Wk}{k:Nat}(a:u.up k)(b:w.up k)(sp:u.wl<w.wd\/w.wl<u.wd)(i:Nat)(h:Nat.ble i 4=true)(js:List Nat)(q:js.all (Nat.ble · 4)=true):u.at i∉js.map w.at:=λz=>by
 obtain⟨j,hj,e⟩:=List.mem_map.mp z;have h1:u.at i<=u.wl:=qu a.go (j:=4) (LD h);have h2:w.at j<=w.wl:=qu b.go (j:=4) (LD (List.all_eq_true.mp q j hj));have h3:w.wd<=w.at j:=qu b.go (i:=0) (LI j);have h4:u.wd<=u.at i:=qu a.go (i:=0) (LI i);exact sp.elim (λl=>L7 (L8 h1 (LS l h3)) e) λl=>Nat.ne_of_lt (L8 h2 (LS l h4)) e
theorem ng{a:Nat}{l m:List Nat}(h1:a∉l)(h2:a∉m):a∉l++m:=λz=>(Ly z).elim h1 h2
structure bL(σ:ai)(x:Ix)(key:Nat->V)(row:List Int)(s:St):Prop where
 ok:x.ok
 code:gc σ
 reel:fP σ x.re
 keys:σ[x.ki]?=some (.list ((List.range 5).map key))
 ch:kj σ x.ci x.cd x.ri row s.k
 book:σ[x.bk]?=some (.sd (kB x s.k))
 tabs:σ[x.ti]?=some (.list [.obj (x.t 0),.obj (x.t 1)])
 log:σ[x.lg]?=some (.list (s.log.map vP))
 tab:∀ n,n<2->TabAt σ (x.t n) (x.d n) (x.e n) (ents key (s.R n)) (s.c n)
 wks:σ[x.wk]?=some (.list (s.ws.map λw=>.obj w.wl))
 wat:∀ w∈s.ws,w.n<2/\w.up x.wk/\kP σ (x.t w.n) w
 sep:∀ u∈s.ws,∀ w∈s.ws,u=w\/u.wl<w.wd\/w.wl<u.wd
noncomputable def upd{α:Type}(f:Nat->α)(n:Nat)(a:α):Nat->α:=λm=>if m=n then a else f m
theorem vR{α:Type}{f:Nat->α}{n:Nat}{a:α}:upd f n a n=a:=if_pos rfl
theorem wj{α:Type}{f:Nat->α}{n m:Nat}{a:α}(h:m≠n):upd f n a m=f m:=if_neg h
section
variable{σ σ':ai}{x:Ix}{key:Nat->V}{row:List Int}{s:St}{n:Nat}
theorem bL.cO(W:bL σ x key row s)(y:Ext [] σ σ'):bL σ' x key row s where
 ok:=W.ok
 code:=W.code.ext y d8
 reel:=W.reel.ext y (by simp)
 keys:=y.bh W.keys
 ch:=W.ch.ext y (by simp) (by simp) (by simp)
 book:=y.bh W.book
 tabs:=y.bh W.tabs
 log:=y.bh W.log
 tab m hm:=(W.tab m hm).cO y
 wks:=y.bh W.wks
 wat w hw:=⟨(W.wat w hw).1,(W.wat w hw).2.1,(W.wat w hw).2.2.cO y⟩
 sep:=W.sep
theorem bL.wJ{mods:List Nat}(W:bL σ x key row s)(hn:n<2)(y:Ext mods σ σ')(h7:x.t 0∉mods)(h6:x.d 0∉mods)(h8:x.e 0∉mods)(h10:x.t 1∉mods)(h9:x.d 1∉mods)(h11:x.e 1∉mods):TabAt σ' (x.t n) (x.d n) (x.e n) (ents key (s.R n)) (s.c n):=
 match n,hn with
 |0,hn=>(W.tab 0 hn).ext y h7 h6 h8
 |1,hn=>(W.tab 1 hn).ext y h10 h9 h11
theorem bL.ue{mods:List Nat}(W:bL σ x key row s){w:Wk}(hw:w∈s.ws)(y:Ext mods σ σ')(N:w.up x.wk->∀ i,w.at i∉mods):w.n<2/\w.up x.wk/\kP σ' (x.t w.n) w:=
 let⟨h1,h2,h3⟩:=W.wat w hw
 have N:=N h2
 ⟨h1,h2,h3.ext y (N 4) (N 1) (N 0) (N 2) (N 3)⟩
theorem bL.ji(W:bL σ x key row s)(y:Ext [x.re] σ σ')(h:fP σ' x.re):bL σ' x key row s:=
 have N:=λi h=>W.ok.no i [0] h
 let⟨a,b,hr⟩:=W.reel
 ⟨W.ok,W.code.ext y (dj hr rfl d8),h,y.get W.keys (N 2 rfl),W.ch.ext y (N 4 rfl) (N 3 rfl) (N 1 rfl),y.get W.book (N 5 rfl),y.get W.tabs (N 12 rfl),y.get W.log (N 13 rfl),λm hm=>W.wJ hm y (N 7 rfl) (N 6 rfl) (N 8 rfl) (N 10 rfl) (N 9 rfl) (N 11 rfl),y.get W.wks (N 14 rfl),λw hw=>W.ue hw y λu i=>u.sF W.ok i [0] rfl,W.sep⟩
theorem bL.Lc{l:List LE}(W:bL σ x key row s)(y:Ext [x.lg] σ σ')(h:σ'[x.lg]?=some (.list (l.map vP))):bL σ' x key row {s with log:=l}:=
 have N:=λi h=>W.ok.no i [13] h
 ⟨W.ok,W.code.ext y (dj W.log rfl d8),W.reel.ext y (N 0 rfl),y.get W.keys (N 2 rfl),W.ch.ext y (N 4 rfl) (N 3 rfl) (N 1 rfl),y.get W.book (N 5 rfl),y.get W.tabs (N 12 rfl),h,λm hm=>W.wJ hm y (N 7 rfl) (N 6 rfl) (N 8 rfl) (N 10 rfl) (N 9 rfl) (N 11 rfl),y.get W.wks (N 14 rfl),λw hw=>W.ue hw y λu i=>u.sF W.ok i [13] rfl,W.sep⟩
theorem bL.Ew{R':List Row}{c':Nat}(W:bL σ x key row s)(hn:n<2)(y:Ext [x.d n,x.e n] σ σ')(h:TabAt σ' (x.t n) (x.d n) (x.e n) (ents key R') c'):bL σ' x key row {s with R:=upd s.R n R',c:=upd s.c n c'}:=by
 have T:=W.tab n hn;have sf:vI σ [x.d n,x.e n]:=dj T.sd rfl (dj T.td rfl d8)
 match n,hn,y,h,sf with
 |0,_,y,h,sf=>
  have N:=λi h=>W.ok.no i [6,8] h;refine⟨W.ok,W.code.ext y sf,W.reel.ext y (N 0 rfl),y.get W.keys (N 2 rfl),W.ch.ext y (N 4 rfl) (N 3 rfl) (N 1 rfl),y.get W.book (N 5 rfl),y.get W.tabs (N 12 rfl),y.get W.log (N 13 rfl),λm hm=>?_,y.get W.wks (N 14 rfl),λw hw=>W.ue hw y λu i=>u.sF W.ok i [6,8] rfl,W.sep⟩
  match m,hm with
  |0,_=>exact h
  |1,hm=>exact(W.tab 1 hm).ext y (N 10 rfl) (N 9 rfl) (N 11 rfl)
 |1,_,y,h,sf=>
  have N:=λi h=>W.ok.no i [9,11] h;refine⟨W.ok,W.code.ext y sf,W.reel.ext y (N 0 rfl),y.get W.keys (N 2 rfl),W.ch.ext y (N 4 rfl) (N 3 rfl) (N 1 rfl),y.get W.book (N 5 rfl),y.get W.tabs (N 12 rfl),y.get W.log (N 13 rfl),λm hm=>?_,y.get W.wks (N 14 rfl),λw hw=>W.ue hw y λu i=>u.sF W.ok i [9,11] rfl,W.sep⟩
  match m,hm with
  |0,hm=>exact(W.tab 0 hm).ext y (N 7 rfl) (N 6 rfl) (N 8 rfl)
  |1,_=>exact h
theorem bL.lt(W:bL σ x key row s):x.wk<σ.length/\∀ w∈s.ws,w.wl<σ.length:=⟨bB W.wks,λw hw=>bB (W.wat w hw).2.2.list⟩
theorem bL.Jw{w:Wk}(W:bL σ x key row s)(y:Ext [x.wk] σ σ')(hn:w.n<2)(u:w.up x.wk)(hd:∀ w'∈s.ws,w'.wl<w.wd)(K:kP σ' (x.t w.n) w)(h:σ'[x.wk]?=some (.list ((s.ws++[w]).map λw=>.obj w.wl))) :
  bL σ' x key row {s with ws:=s.ws++[w]}:=by
 have N:=λi h=>W.ok.no i [14] h;refine⟨W.ok,W.code.ext y (dj W.wks rfl d8),W.reel.ext y (N 0 rfl),y.get W.keys (N 2 rfl),W.ch.ext y (N 4 rfl) (N 3 rfl) (N 1 rfl),y.get W.book (N 5 rfl),y.get W.tabs (N 12 rfl),y.get W.log (N 13 rfl),λm hm=>W.wJ hm y (N 7 rfl) (N 6 rfl) (N 8 rfl) (N 10 rfl) (N 9 rfl) (N 11 rfl),h,λw' hw=>?_,λa ha' b hb'=>?_⟩
 ·rcases Ly hw with hw|hw
  ·exact W.ue hw y λu i=>u.sF W.ok i [14] rfl
  ·cases Lz hw;exact⟨hn,u,K⟩
 ·rcases Ly ha' with ha|ha<;>rcases Ly hb' with hb|hb
  ·exact W.sep a ha b hb
  ·cases Lz hb;exact .inr (.inl (hd a ha))
  ·cases Lz ha;exact .inr (.inr (hd b hb))
  ·exact .inl ((Lz ha).trans (Lz hb).symm)
noncomputable def Wk.tell(w:Wk)(r:Row):Wk:={w with tc:=w.tc++[r.came],tn:=w.tn++[r.num]}
noncomputable def fD(wl:Nat)(r:Row)(w:Wk):Wk:=if w.wl=wl then w.tell r else w
theorem jR{w u:Wk}{r:Row}:(fD w.wl r u).wl=u.wl/\(fD w.wl r u).wd=u.wd/\(fD w.wl r u).wi=u.wi/\(fD w.wl r u).to=u.to/\(fD w.wl r u).tl=u.tl/\(fD w.wl r u).n=u.n:=by
 unfold fD;split<;>exact⟨rfl,rfl,rfl,rfl,rfl,rfl⟩
theorem bL.JC{w:Wk}{r:Row}{k':Nat}(W:bL σ x key row s)(hw:w∈s.ws)(y:Ext [x.bk,x.cd,w.to,w.tl] σ σ')(C:kj σ' x.ci x.cd x.ri row k')(hb:σ'[x.bk]?=some (.sd (kB x k')))
 (h1:∃ ep,σ'[w.to]?=some (.idd ((w.tn++[r.num]).map AZ) ep))(h2:σ'[w.tl]?=some (.list (jy (w.tc++[r.came])))):bL σ' x key row {s with ws:=s.ws.map (fD w.wl r),k:=k'}:=by
 obtain⟨wn,wu,K⟩:=W.wat w hw;obtain⟨ep,hto⟩:=K.told;have N:=λi g h=>ng (W.ok.no i [5,3] h) (wu.Bv W.ok i g [2,3]);refine⟨W.ok,W.code.ext y (dj W.book rfl (dj W.ch.sd rfl (dj hto rfl (dj K.tl rfl d8)))),W.reel.ext y (N 0 rfl rfl),y.get W.keys (N 2 rfl rfl),C,hb,y.get W.tabs (N 12 rfl rfl),
  y.get W.log (N 13 rfl rfl),λm hm=>W.wJ hm y (N 7 rfl rfl) (N 6 rfl rfl) (N 8 rfl rfl) (N 10 rfl rfl) (N 9 rfl rfl) (N 11 rfl rfl),?_,λu' hu'=>?_,λa' ha' b' hb'=>?_⟩
 ·rw[y.get W.wks (N 14 rfl rfl),List.map_map];congr 2;exact List.map_congr_left λu o=>by simp only[Function.comp,jR.1]
 ·obtain⟨u,hu,rfl⟩:=List.mem_map.mp hu';obtain⟨un,uu,Ku⟩:=W.wat u hu;obtain⟨e1,e2,e3,e4,e5,e6⟩:=jR (w:=w) (u:=u) (r:=r);refine⟨by rw[e6];exact un,by unfold Wk.up;rw[e1,e2,e3,e4,e5];exact uu,?_⟩;rcases W.sep u hu w hw with rfl|sp
  ·rw[show fD u.wl r u=u.tell r from if_pos rfl];have N:=λi h=>ng (uu.sF W.ok i [5,3] rfl) (uu.no i [2,3] h);exact⟨y.get Ku.list (N 4 rfl),h2,y.get Ku.inst (N 1 rfl),y.get Ku.sd (N 0 rfl),h1⟩
  ·rw[show fD w.wl r u=u from if_neg λe=>uu.Lg wu sp 4 rfl [4] rfl (List.mem_singleton.mpr e)];have N:=λi h=>ng (uu.sF W.ok i [5,3] rfl) (uu.Lg wu sp i h [2,3] rfl);exact Ku.ext y (N 4 rfl) (N 1 rfl) (N 0 rfl) (N 2 rfl) (N 3 rfl)
 ·obtain⟨a,ha,rfl⟩:=List.mem_map.mp ha';obtain⟨b,hb,rfl⟩:=List.mem_map.mp hb';rw[jR.1,jR.2.1,jR.1,jR.2.1];rcases W.sep a ha b hb with rfl|q
  ·exact .inl rfl
  ·exact .inr q
end
structure dw(s:St)(m B:Nat):Prop where
 rok:∀ n,n<2->gX (s.R n) (s.c n) n s.log
 wok:∀ w∈s.ws,iz (s.R w.n) (s.c w.n) s.log.length w/\w.tc.length<=B/\w.tn.length<=B
 len:s.log.length<=m/\s.ws.length<=m
theorem AJ{a b:V}(h1:dM 19 a a=some true)(h2:dM 19 b b=some true):dM 20 (.tup [a,b]) (.tup [a,b])=some true:=by
 rw[vB,iE,iE,h1,h2];rfl
def EH(r:Row):V:=tN r.sr
section
variable{σ:ai}{x:Ix}{key:Nat->V}{row:List Int}{s:St}{m B:Nat}{w:Wk}
theorem mJ{p:Nat}(Z:bL σ x key row s)(h:p<5):((List.range 5).map key)[p]?=some (key p):=by
 rw[List.getElem?_map,List.getElem?_range h];rfl
theorem r6(Z:bL σ x key row s)(H:dw s m B)(hm:m<=50)(hw:w∈s.ws):W (gb [.obj w.wl,.obj x.lg]) σ λv σ'=>∃ i,v=.obj i/\σ'[i]?=some (.list (((s.R w.n).filter (wf w)).map EH))/\Ext [] σ σ':=by
 obtain⟨wn,wu,K⟩:=Z.wat w hw;refine(GS K.list K.tl Z.log (by have:=H.len.1;lia)).mono λv σ' z=>?_;rw[Fe (H.rok _ wn) (H.wok w hw).1,List.map_map] at z;exact z
theorem Hl{σ1:ai}{li:Nat}{jv:V}(Z:bL σ1 x key row s)(H:dw s m B)(hm:m<=50)(hw:w∈s.ws)(hL:(s.R w.n).filter (wf w)=[])(hi:σ1[li]?=some (.list [])){Q:ay->ai->Prop}(q:∀ σ',Ext [] σ1 σ'->Q (.ret (.bool true)) σ') :
  W (cQ (bZ 197 "next_row" (aA (pure (.obj w.wl)) (pure (.int 0))) (af (aA (pure (.obj x.bk)) (pure (.str "choices"))) (pure [])) bJ) (λv3=>eH (bA .Eq (pure (.obj li)) (cG (pure []))) (bz (fU .Is (pure v3) (pure .none))) (lK (aA (pure (.obj li)) (pure jv)) jE (λv4=>d7 (fE "list" (aA (pure (.obj w.wl)) (pure (.int 3))) (af (pure v4.2.2) (pure [])) cB) (bz (Bm (fU .Eq (pure v3) (aV (af (aA (aA (pure (.obj x.bk)) (pure (.str "keys"))) (pure v4.1)) (af (pure v4.2.1) (pure []))))) (fU .Eq (dK 225 (aA (pure (.obj x.bk)) (pure (.str "choices"))) "taken") (aA (pure (.obj x.bk)) (pure (.str "at")))))))))) σ1 Q:=by
 revert Z H hm hw hL hi q;revert Q;revert x key row s m B w σ1 li jv;apply cK;generalize dm=zt;generalize zt.1.1.1=x,zt.1.1.2=key,zt.1.2.1=row,zt.1.2.2.1=s,zt.1.2.2.2=m,zt.2.1.1=B,zt.2.1.2=w,zt.2.2.1=σ1,zt.2.2.2.1=li,zt.2.2.2.2=jv;intros Q;intro Z H hm hw hL hi q;obtain⟨wn,wu,K⟩:=Z.wat w hw;have T:=Z.tab _ wn;have R:=H.rok _ wn;have hl:=H.len.1;have hrl:=R.len;lk;refine bS (n:=0) K.list rfl (by decide) ?_;lk;refine cW K.inst K.sd rfl ?_;lk;refine bE Z.book rfl ?_;lk;refine(Gi T K R.num (by lia) hL).mono ?_;intros v σ2;intro z;obtain⟨rfl,y⟩:=z;refine W.bind (tB (y.bh hi) ?_);refine W.aX rfl ?_;lk;refine aW (b:=true) rfl ?_;lk;exact q _ (y.trans Ext.new)
theorem xH{σ1:ai}{li:Nat}{r:Row}(KK:gU key)(Z:bL σ x key row s)(H:dw s m B)(hm:m<=50)(hB:B<=500)(hr:row.length<=100)(hw:w∈s.ws)(y:Ext [x.bk] σ σ1)(hbk:σ1[x.bk]?=some (.sd (kB x (tL s.k ((s.R w.n).filter (wf w)).length))))
 (hi:σ1[li]?=some (.list (((s.R w.n).filter (wf w)).map EH)))(hj:((s.R w.n).filter (wf w))[mY row s.k ((s.R w.n).filter (wf w)).length]?=some r){Q:ay->ai->Prop}
 (q:∀ σ',bL σ' x key row {s with ws:=s.ws.map (fD w.wl r),k:=tL s.k ((s.R w.n).filter (wf w)).length}->Q (.ret (.bool true)) σ') :
  W (cQ (bZ 197 "next_row" (aA (pure (.obj w.wl)) (pure (.int 0))) (af (aA (pure (.obj x.bk)) (pure (.str "choices"))) (pure [])) bJ) (λv3=>eH (bA .Eq (pure (.obj li)) (cG (pure []))) (bz (fU .Is (pure v3) (pure .none))) (lK (aA (pure (.obj li)) (pure (.int (mY row s.k ((s.R w.n).filter (wf w)).length:Nat)))) jE (λv4=>d7 (fE "list" (aA (pure (.obj w.wl)) (pure (.int 3))) (af (pure v4.2.2) (pure [])) cB) (bz (Bm (fU .Eq (pure v3) (aV (af (aA (aA (pure (.obj x.bk)) (pure (.str "keys"))) (pure v4.1)) (af (pure v4.2.1) (pure []))))) (fU .Eq (dK 225 (aA (pure (.obj x.bk)) (pure (.str "choices"))) "taken") (aA (pure (.obj x.bk)) (pure (.str "at")))))))))) σ1 Q:=by
 revert KK Z H hm hB hr hw y hbk hi hj q;revert r Q;revert σ x key row s m B w σ1 li;apply cK;generalize dm=zt;generalize zt.1.1.1=σ,zt.1.1.2=x,zt.1.2.1=key,zt.1.2.2.1=row,zt.1.2.2.2=s,zt.2.1.1=m,zt.2.1.2=B,zt.2.2.1=w,zt.2.2.2.1=σ1,zt.2.2.2.2=li;intros r Q;intro KK Z H hm hB hr hw y hbk hi hj q;obtain⟨wn,wu,K⟩:=Z.wat w hw;have T:=Z.tab _ wn;have R:=H.rok _ wn;have hl:=H.len.1;have hrl:=R.len;have o:=Z.ok;have C:=Z.ch;have ht:=(H.wok w hw).2;have K1a:kP σ1 (x.t w.n) w:=(Z.ue hw y λu i=>u.sF o i [5] rfl).2.2;have C1a:kj σ1 x.ci x.cd x.ri row s.k:=C.ext y (o.no 4 [5] rfl) (o.no 3 [5] rfl) (o.no 1 [5] rfl);have T1a:TabAt σ1 (x.t w.n) (x.d w.n) (x.e w.n) (ents key (s.R w.n)) (s.c w.n):=Z.wJ wn y (o.no 7 [5] rfl) (o.no 6 [5] rfl) (o.no 8 [5] rfl) (o.no 10 [5] rfl) (o.no 9 [5] rfl) (o.no 11 [5] rfl);have hky1:=y.get Z.keys (o.no 2 [5] rfl);have hmem:=List.mem_filter.mp (LG hj);have hlen:((s.R w.n).filter (wf w)).length<=60:=LZ (List.length_filter_le ..) (by lia);have hjl:=(LA hj).1;lk;refine bS (n:=0) K1a.list rfl (by decide) ?_;lk;refine cW K1a.inst K1a.sd rfl ?_;lk;refine bE hbk rfl ?_;lk;refine(Gv T1a K1a C1a R.num (by lia) (by lia) (by lia) hj).mono ?_;intros v σ2;intro z;obtain⟨rfl,y2,C2a,hto⟩:=z;generalize hLL:(s.R w.n).filter (wf w)=L at *;injection K1a.told with x0 ep hto1
 revert L;intros L;intro hLL hbk hi hj q hlen hjl C2a;have n1:li≠x.cd:=fy hi C1a.sd (by simp);have n2:li≠w.to:=fy hi hto1 (by simp);have hi2a:=y2.get hi (by simp[n1,n2]);refine W.bind (tB hi2a ?_);have ne:(L.map EH).isEmpty=false:=by
  cases L with
  |nil=>simp at hj
  |cons a l=>rfl
 rw[ne];refine W.aS (by decide) ?_;have y3:Ext [] σ2 (σ2++[aq.list []]):=Ext.new;generalize σ2++[aq.list []]=σ3 at *;have X:Ext [x.bk,x.cd,w.to,w.tl] σ σ3:=((y.mono (by simp)).trans (y2.mono (by simp))).trans y3.up;lk;refine bS (n:=mY row s.k L.length) (y3.bh hi2a) (v:=EH r) (by rw[List.getElem?_map,hj];rfl) (by lia) ?_;refine jr (g:=(.int r.place,r.val,.int r.came)) rfl ?_;have hwl3:=X.get K.list (ng (wu.sF o 4 [5,3] rfl) (wu.no 4 [2,3] rfl));have htl3:=y3.bh (y2.get (y.get K.tl (wu.sF o 3 [5] rfl)) (ng (wu.sF o 3 [3] rfl) (wu.no 3 [2] rfl)));lk;refine bS (n:=3) hwl3 rfl (by decide) ?_;lk;refine lu htl3 ?_;lk;refine iF htl3 (by simp[jy];lia) ?_;have e4:jy w.tc++[.int (r.came:Int)]=jy (w.tc++[r.came]):=by unfold jy;rw[List.map_append];rfl
 rw[e4];have y4:Ext [w.tl] σ3 (σ3.set w.tl (.list (jy (w.tc++[r.came])))):=Ext.set;have htl4:(σ3.set w.tl (.list (jy (w.tc++[r.came]))))[w.tl]?=some (.list (jy (w.tc++[r.came]))):=get_set (bB htl3);generalize σ3.set w.tl (.list (jy (w.tc++[r.came])))=σ4 at *;have X4:Ext [x.bk,x.cd,w.to,w.tl] σ σ4:=X.trans (y4.mono (by simp));have hb4:=y4.get (y3.bh (y2.get hbk (ng (o.no 5 [3] rfl) (wu.Bv o 5 rfl [2])))) (wu.Bv o 5 rfl [3]);have C4a:=(C2a.ext y3 (by simp) (by simp) (by simp)).ext y4 (wu.Bv o 4 rfl [3]) (wu.Bv o 3 rfl [3]) (wu.Bv o 1 rfl [3]);have hp:=(R.bnd r hmem.1).2.2;lk;refine bE hb4 rfl ?_;lk;refine bS (n:=r.place) (X4.get Z.keys (ng (o.no 2 [5,3] rfl) (wu.Bv o 2 rfl [2,3]))) (mJ Z hp.1) (by lia) ?_;lk;refine aW (b:=true) (uQ (AJ (KK.eq _ hp.1) (AP hp.2))) ?_;lk;refine dH (W.aX rfl ?_);lk;refine bE hb4 rfl ?_;refine cV C4a.inst C4a.sd rfl rfl ?_;lk;refine bE hb4 rfl ?_;lk;refine aW (b:=true) (by show some (((tL s.k L.length:Nat):Int)==((tL s.k L.length:Nat):Int))=_;simp) ?_;lk;refine q _ (Z.JC hw X4 C4a hb4 ?_ htl4);injection hto with hto ep' hto
 revert y3 X hwl3 htl3 y4 htl4 X4 hb4 C4a;revert σ3 σ4;intros σ3 σ4;intro y3 X hwl3 htl3 y4 htl4 X4 hb4 C4a;exact⟨ep',y4.get (y3.bh hto) (wu.no 2 [3] rfl)⟩
end
section
variable{σ:ai}{x:Ix}{key:Nat->V}{row:List Int}{s:St}{m B:Nat}{w:Wk}
theorem dw.step(Z:bL σ x key row s)(H:dw s m B)(hw:w∈s.ws){r:Row}(hr:r∈s.R w.n){k':Nat}:dw {s with ws:=s.ws.map (fD w.wl r),k:=k'} m (B+1):=by
 refine⟨H.rok,λu' hu'=>?_,?_⟩
 ·obtain⟨u,hu,rfl⟩:=List.mem_map.mp hu';have h:=H.wok u hu;unfold fD;by_cases e:u.wl=w.wl
  ·have:u=w:=by
    have uu:=(Z.wat u hu).2.1;have wu:=(Z.wat w hw).2.1;unfold Wk.up at uu wu;rcases Z.sep u hu w hw with q|q|q
    ·exact q
    ·lia
    ·lia
   subst this;rw[if_pos rfl];refine⟨(h.1.told (H.rok _ (Z.wat u hu).1) hr),?_,?_⟩
   ·show (u.tc++[r.came]).length<=_;have:=h.2.1;rw[List.length_append,List.length_singleton];lia
   ·show (u.tn++[r.num]).length<=_;have:=h.2.2;rw[List.length_append,List.length_singleton];lia
  ·rw[if_neg e];exact⟨h.1,by lia,by lia⟩
 ·show s.log.length<=m/\(s.ws.map _).length<=m;rw[List.length_map];exact H.len
theorem dw.mono{m' B':Nat}(H:dw s m B)(h1:m<=m')(h2:B<=B'):dw s m' B':=⟨H.rok,λw hw=>⟨(H.wok w hw).1,by have:=(H.wok w hw).2;lia⟩,by have:=H.len;lia⟩
theorem An{r:Row}{wl:Nat}(ws:List Wk):(ws.map (fD wl r)).map (·.wl)=ws.map (·.wl):=by
 rw[List.map_map];apply List.map_congr_left;intro u _;show (fD wl r u).wl=u.wl;unfold fD;split<;>rfl
theorem Ir{k k':Nat}:bN (kB x k) "at" (.int (k':Int))=kB x k':=rfl
theorem tR(KK:gU key)(Z:bL σ x key row s)(H:dw s m B)(hm:m<=50)(hB:B<=500)(hr:row.length<=100)(hw:w∈s.ws) :
  W (fZ [.obj x.bk,.obj w.wl]) σ λv σ'=>v=.bool true/\∃ s',bL σ' x key row s'/\dw s' m (B+1)/\s'.ws.map (·.wl)=s.ws.map (·.wl)/\s'.log=s.log:=by
 revert KK Z H hm hB hr hw;revert σ x key row s m B w;intros σ x key row;intros s m B w;intro KK Z H hm hB hr hw;refine fS ?_;unfold jl;lk;refine bE Z.book rfl ?_;lk;refine(r6 Z H hm hw).mono ?_;intros v σ1;intro z;injection z with z li hz;obtain⟨rfl,hi,y⟩:=hz
 have Z1:=Z.cO y;have R:=H.rok _ (Z.wat w hw).1;have hlen:((s.R w.n).filter (wf w)).length<=60:=by
  have:=List.length_filter_le (wf w) (s.R w.n);have:=R.len;have:=H.len.1;lia
 lk;refine jr (g:=(.obj li,.int 0)) rfl ?_;lk;refine iG hi (by rw[List.length_map];lia) ?_;lk;rw[List.length_map];refine aW (b:=decide (1<((s.R w.n).filter (wf w)).length)) (by show some (decide ((1:Int)<_))=_;congr 1;exact decide_eq_decide.mpr (by lia)) ?_;by_cases h1:1<((s.R w.n).filter (wf w)).length
 ·rw[decide_eq_true h1];refine W.aX rfl ?_;have hk:tL s.k ((s.R w.n).filter (wf w)).length=s.k+1:=if_neg (by lia);obtain⟨r,hj⟩:∃ r,((s.R w.n).filter (wf w))[mY row s.k ((s.R w.n).filter (wf w)).length]?=some r:=⟨_,List.getElem?_eq_getElem (F3 (by lia))⟩
  revert r;intros r;intro hj;have val:W (bM .Mod (n9 (bA .Lt (aA (pure (.obj x.bk)) (pure (.str "at"))) (aG (pure (.bi "len")) (.bi "len") (af (aA (pure (.obj x.bk)) (pure (.str "row"))) (pure [])) c8)) (aA (aA (pure (.obj x.bk)) (pure (.str "row"))) (aA (pure (.obj x.bk)) (pure (.str "at")))) (pure (.int 0))) (aG (pure (.bi "len")) (.bi "len") (af (pure (.obj li)) (pure [])) c8)) σ1 λv σ'=>v=.int (mY row s.k ((s.R w.n).filter (wf w)).length:Nat)/\σ'=σ1:=by
   lk;refine bE Z1.book rfl ?_;lk;refine bE Z1.book rfl ?_;lk;refine iG Z1.ch.row (by rw[List.length_map];lia) ?_;lk;rw[List.length_map];refine aW (b:=decide (s.k<row.length)) (by show some (decide ((s.k:Int)<(row.length:Int)))=_;congr 1;exact decide_eq_decide.mpr (by lia)) ?_;by_cases h2:s.k<row.length
   ·rw[decide_eq_true h2];refine W.aX rfl ?_;lk;refine bE Z1.book rfl ?_;lk;refine bE Z1.book rfl ?_;refine bS Z1.ch.row (C5 h2) (by lia) ?_;lk;refine iG hi (by rw[List.length_map];lia) ?_;rw[List.length_map];lk;refine cU (z:=(row.getD s.k 0).fmod ((s.R w.n).filter (wf w)).length) (tY (by lia)) ?_;rw[BA (by lia)];exact⟨rfl,rfl⟩
   ·rw[decide_eq_false h2];refine W.aS (by decide) ?_;lk;refine iG hi (by rw[List.length_map];lia) ?_;rw[List.length_map];lk;refine cU (z:=(0:Int).fmod ((s.R w.n).filter (wf w)).length) (tY (by lia)) ?_;have e:row.getD s.k 0=0:=by rw[List.getD_eq_getElem?_getD,List.getElem?_eq_none (by lia)];rfl
    rw[<- e,BA (by lia)];exact⟨rfl,rfl⟩
  refine W.bind (val.mono ?_);intros v σ2;intro z;obtain⟨rfl,rfl⟩:=z;lk;refine bE Z1.book rfl ?_;lk;refine cU (z:=((s.k+1:Nat):Int)) rfl ?_;lk;refine Jy Z1.book (by simp[kB]) ?_;rw[Ir];refine xH KK Z H hm hB hr hw (y.up.trans Ext.set) (by rw[hk];exact get_set (bB Z1.book)) ?_ hj λσ' Z'=>?_
  ·exact Ext.set.get hi (by simpa using fy hi Z1.book (by simp))
  ·exact⟨rfl,_,Z',H.step Z hw (List.mem_filter.mp (LG hj)).1,An _,rfl⟩
 ·rw[decide_eq_false h1];refine W.aS (by decide) ?_;by_cases h0:(s.R w.n).filter (wf w)=[]
  ·rw[h0] at hi;exact Hl Z1 H hm hw h0 hi λσ' y'=>⟨rfl,s,Z1.cO y',H.mono (LP _) (Nat.le_succ _),rfl,rfl⟩
  ·have hp:=List.length_pos_iff.mpr h0;obtain⟨r,hj⟩:∃ r,((s.R w.n).filter (wf w))[mY row s.k ((s.R w.n).filter (wf w)).length]?=some r:=⟨_,List.getElem?_eq_getElem (F3 (by lia))⟩
   revert r;intros r;intro hj;have hk:tL s.k ((s.R w.n).filter (wf w)).length=s.k:=if_pos (by lia);have hz:mY row s.k ((s.R w.n).filter (wf w)).length=0:=if_pos (by lia);have step:=xH (Q:=λc σ'=>(gI c=.bool true/\∃ s',bL σ' x key row s'/\dw s' m (B+1)/\s'.ws.map (·.wl)=s.ws.map (·.wl)/\s'.log=s.log)) KK Z H hm hB hr hw y.up (by rw[hk];exact Z1.book) hi hj λσ' Z'=>
    ⟨rfl,_,Z',H.step Z hw (List.mem_filter.mp (LG hj)).1,An _,rfl⟩
   rw[hz] at step;exact step
end
section
variable{σ:ai}{x:Ix}{key:Nat->V}{row:List Int}{s:St}{m B n p:Nat}
theorem wg{f:Nat->Nat}(h:n<2):([V.obj (f 0),.obj (f 1)])[n]?=some (.obj (f n)):=by
 rcases(show n=0\/n=1 by lia) with rfl|rfl<;>rfl
theorem sq(KK:gU key)(Z:bL σ x key row s)(H:dw s m B)(hm:m<=50)(hn:n<2)(hp:p<5) :
  W (bQ [.obj x.bk,.int n,.int p]) σ λv σ'=>v=.bool true/\Ext [] σ σ':=by
 revert KK Z H hm hn hp;revert σ x key row s m B n p;intros σ x key row;intros s m B n;intros p;intro KK Z H hm hn hp;have R:=H.rok _ hn;have hl:=H.len.1;have hrl:=R.len;refine zw ?_;unfold gr;lk;refine bE Z.book rfl ?_;lk;refine(mT Z.log (by lia)).mono ?_;intros v σ1;intro z;injection z with z fi ep hz;obtain⟨rfl,hf,y⟩:=hz
 have Z1:=Z.cO y;have T:=Z1.tab _ hn;rw[R.st] at hf;have any:nG .In σ1 (.int p) (.obj fi)=some ((s.R n).any λr=>decide (r.place=p)):=by
  show gY σ1 (.int p) (.obj fi)=_;rw[qm hf,BL,BH]
 have look:=yo (key:=key) (R:=s.R n) KK R.h5 hp;have tok:=wD (key:=key) (R:=s.R n) KK R.h5 hp (by lia);have nd:(((s.R n).map Row.sr).map (·.place)).Nodup:=by rw[List.map_map];exact R.nd
 lk;refine aW any ?_;cases hfd:(s.R n).find? λr=>decide (r.place=p) with
 |none=>
  rw[hfd] at look;have e:((s.R n).any λr=>decide (r.place=p))=false:=by
   rw[List.find?_eq_none] at hfd;rw[Bool.eq_false_iff];intro z;obtain⟨r,hr,hrp⟩:=List.any_eq_true.mp z;exact hfd r hr hrp
  rw[e];refine W.aS (by decide) ?_;lk;refine bE Z1.book rfl ?_;lk;refine bS Z1.tabs (wg hn) (by lia) ?_;lk;refine cW T.inst T.sd rfl ?_;lk;refine bE Z1.book rfl ?_;lk;refine bS Z1.keys (mJ Z1 hp) (by lia) ?_;lk;refine(Aj T (KK.walk _ hp) tok look).mono ?_;intros v σ2;intro z;obtain⟨rfl,y2⟩:=z;lk;refine aW (b:=true) rfl ?_;lk;exact⟨rfl,y.trans y2⟩
 |some r=>
  revert r;intros r;intro hfd;rw[hfd] at look;have hr:=List.mem_of_find?_eq_some hfd;have hrp:r.place=p:=by simpa using List.find?_some hfd
  have e:((s.R n).any λr=>decide (r.place=p))=true:=List.any_eq_true.mpr ⟨r,hr,decide_eq_true hrp⟩;have lk:=pN nd (List.mem_map.mpr ⟨r,hr,rfl⟩);rw[show (Row.sr r).place=p from hrp] at lk;rw[e];refine W.aX rfl ?_;lk;refine pH hf lk ?_;lk;refine cR (n:=1) rfl (by decide) ?_;lk;refine bE Z1.book rfl ?_;lk;refine bS Z1.tabs (wg hn) (by lia) ?_;lk;refine cW T.inst T.sd rfl ?_;lk;refine bE Z1.book rfl ?_;lk;refine bS Z1.keys (mJ Z1 hp) (by lia) ?_;lk;refine(As T (KK.walk _ hp) tok look).mono ?_;intros v σ2;intro z;obtain⟨rfl,y2⟩:=z;lk;refine aW (b:=true) (uQ (AJ (AP (R.bnd r hr).2.2.2) rfl)) ?_;lk;exact⟨rfl,y.trans y2⟩
end
noncomputable def i6(key:Nat->V)(r:Row):V:=.tup [key r.place,r.val]
theorem xT{n:Nat}:∀ {l:List V},(∀ v∈l,dM n v v=some true)->jx n l l=some true
 |[],_=>rfl
 |a::l,h=>by rw[iE,h a (.head _),xT λv hv=>h v (.tail _ hv)];rfl
theorem ux{σ:ai}{i j:Nat}{l:List V}(h1:σ[i]?=some (.list l))(h2:σ[j]?=some (.list l))(h:∀ v∈l,dM 20 v v=some true):iT σ (.obj i) (.obj j)=some true:=by
 rw[qY h1 h2,if_pos rfl];exact xT h
theorem zU{key:Nat->V}{L:List Row}(KK:gU key)(h:∀ r∈L,r.place<5/\xJ r.val):∀ v∈L.map (i6 key),dM 20 v v=some true:=λv hv=>by
 obtain⟨r,hr,rfl⟩:=List.mem_map.mp hv;exact AJ (KK.eq _ (h r hr).1) (AP (h r hr).2)
theorem wc{σ:ai}{mi:M It}{key:Nat->V}{L:List Row}(hl:L.length<=900)(h:W mi σ λit σ'=>∃ j,it=.list j/\σ'[j]?=some (.list (L.map (kR key)))/\Ext [] σ σ') :
  W (fR mi cA (λp=>pure true) (λp=>pe (pure p))) σ λv σ'=>∃ j,v=.obj j/\σ'[j]?=some (.list (L.map (i6 key)))/\Ext [] σ σ':=by
 refine jL (h.mono λit σ1 z=>?_);obtain⟨j,rfl,hj,y⟩:=z;refine o8 (R:=L) (src:=kR key) (λσ'=>Ext [] σ1 σ') (λu=>true) (i6 key) (λσ' y i=>nV (y.bh hj) i) (λr hr σ' y=>?_) Ext.refl hl λσ2 y2=>?_
 ·refine l9 (p:=kR key r) rfl ?_;lk;rw[if_pos rfl];lk;refine IC (by simp) ?_;exact⟨rfl,y⟩
 ·rw[List.filter_eq_self.mpr (λu u=>rfl)];exact⟨_,rfl,aZ,(y.trans y2).trans Ext.new⟩
section
variable{σ:ai}{x:Ix}{key:Nat->V}{row:List Int}{s:St}{m B:Nat}
theorem EB{n:Nat}(KK:gU key)(Z:bL σ x key row s)(H:dw s m B)(hm:m<=50)(hn:n<2){c:ay} :
  W (cQ (aG (pure (.ref 271)) (.ref 271) (af (aA (pure (.obj x.bk)) (pure (.str "log"))) (af (pure (.int n)) (pure []))) fL) (λv3=>eH (kF (bA .NotEq (bZ 156 "size" (pure (.obj (x.t n))) (pure []) jW) (aG (pure (.bi "len")) (.bi "len") (af (pure v3) (pure [])) c8)) (kF (bA .NotEq (fR (i9 (bZ 156 "rows" (pure (.obj (x.t n))) (pure []) gz)) cA (λp=>pure true) (λp=>pe (pure p))) (fR (i9 (pure v3)) cA (λp=>pure true) (λp=>aV (af (aA (pure (.obj x.ki)) (pure p)) (af (aA (aA (pure v3) (pure p)) (pure (.int 1))) (pure [])))))) (pure false))) (bz (pure (.bool false))) (pure c))) σ λd σ'=>d=c/\Ext [] σ σ':=by
 revert KK Z H hm hn;revert σ x key row s m B n c;intros σ x key row;intros s m B n;intros c;intro KK Z H hm hn;revert KK Z H hm hn;revert σ x key row s m B n c;apply F5;generalize pZ ai=σ,rU Ix=x,uP (Nat->V)=key,wQ (List Int)=row;apply F5;generalize pZ St=s,rU Nat=m,uP Nat=B,wQ Nat=n;apply n8;generalize A1 ay=c;intro KK Z H hm hn;have R:=H.rok _ hn;have hl:=H.len.1;have hrl:=R.len;lk;refine bE Z.book rfl ?_;lk;refine(mT Z.log (by lia)).mono ?_;apply uU;generalize nj V=v,oO ai=σ1;intro z;refine JV z ?_;clear z;generalize BD Nat=fi,Ds Nat=ep;intro hz;obtain⟨rfl,hf,y⟩:=hz;have Z1:=Z.cO y;have T:=Z1.tab _ hn;rw[R.st] at hf;have nd:(((s.R n).map Row.sr).map (·.place)).Nodup:=by rw[List.map_map];exact R.nd
 lk;refine cW T.inst T.sd rfl ?_;lk;refine(Hy T (by simp[ents];lia)).mono ?_;apply uU;generalize nj V=v,oO ai=σ2;intro z;obtain⟨rfl,rfl⟩:=z;lk;refine Ka hf (by simp;lia) ?_;lk;refine aW (b:=false) (by show (some (_==_)).map (λr=>!r)=_;simp[ents]) (W.aS (by decide) ?_);refine W.bind (W.bind ((wc (key:=key) (L:=s.R n) (by lia) ?_).mono ?_))
 ·lk;refine cW T.inst T.sd rfl ?_;lk;refine(BN T (t9 _) (by simp[ents];lia) (by rw[List.pairwise_map];exact R.num.imp λh=>by lia)).mono ?_;apply uU;generalize nj V=v,oO ai=σ2;intro z;refine lU z ?_;clear z;generalize zp Nat=i;intro hz;obtain⟨rfl,hi,y2⟩:=hz;rw[xE] at hi;exact kJ hi ⟨_,rfl,hi,y2⟩
 ·intros v σ2;intro z;refine lU z ?_;clear z;generalize zp Nat=j;intro hz;obtain⟨rfl,hj,y2⟩:=hz;revert σ2;apply n8;generalize A1 ai=σ2;intro hj y2;have hf2:=y2.bh hf;refine W.bind (jL ?_);lk;refine C2 hf2 (by simp;lia) ?_;refine o8 (R:=s.R n) (src:=λr=>.int (fG r.sr).1) (λσ'=>Ext [] σ2 σ') (λu=>true) (i6 key) ?_ ?_ Ext.refl (by lia) ?_
  ·intros σ';intro y;intros i;have:=yq (R:=s.R n) (src:=λr=>fG r.sr) (n:=(((s.R n).map Row.sr).map fG).length) (by rw[y.bh hf2,List.map_map];rfl) (by simp) i;exact this
  ·intros r;intro hr;intros σ';intro y3;refine l9 (p:=.int (fG r.sr).1) rfl ?_;have lk:=pN nd (List.mem_map.mpr ⟨r,hr,rfl⟩);have b:=(R.bnd r hr).2.2;lk;rw[if_pos rfl];lk;refine bS (n:=r.place) ((y2.trans y3).bh Z1.keys) (mJ Z1 b.1) (by lia) ?_;lk;refine pH (y3.bh hf2) lk ?_;lk;refine cR (n:=1) rfl (by decide) ?_;lk;exact⟨rfl,y3⟩
  ·intros σ3;intro y3;rw[List.filter_eq_self.mpr (λu u=>rfl)];have y4:=y3.trans (Ext.new (o:=aq.list ((s.R n).map (i6 key))));have hk:(σ3++[aq.list ((s.R n).map (i6 key))])[σ3.length]?=some (.list ((s.R n).map (i6 key))):=aZ;generalize σ3++[aq.list ((s.R n).map (i6 key))]=σ4 at *;refine aW (b:=false) ?_ (W.aS (by decide) ?_)
   ·show (iT σ4 _ _).map (λr=>!r)=_;rw[ux (y4.bh hj) hk (zU KK λr hr=>(R.bnd r hr).2.2)];rfl
   ·lk;refine W.aS (by decide) ?_;lk;exact⟨rfl,(y.trans y2).trans y4⟩
theorem CP{w:Wk}(KK:gU key)(Z:bL σ x key row s)(H:dw s m B)(hm:m<=50)(hw:w∈s.ws){c:ay} :
  W (cQ (fR (i9 (aG (pure (.ref 276)) (.ref 276) (af (pure (.obj w.wl)) (af (aA (pure (.obj x.bk)) (pure (.str "log"))) (pure []))) gb)) jE (λp=>pure true) (λp=>aV (af (aA (pure (.obj x.ki)) (pure p.1)) (af (pure p.2.1) (pure []))))) (λv5=>eH (bA .NotEq (fR (i9 (bZ 197 "left_rows" (aA (pure (.obj w.wl)) (pure (.int 0))) (pure []) dG)) cA (λp=>pure true) (λp=>pe (pure p))) (pure v5)) (bz (pure (.bool false))) (pure c))) σ λd σ'=>d=c/\Ext [] σ σ':=by
 revert KK Z H hm hw;revert σ x key row s m B w c;intros σ x key row;intros s m B w;intros c;intro KK Z H hm hw;have R:=H.rok _ (Z.wat w hw).1;have hl:=H.len.1;have hrl:=R.len;have hfl:=List.length_filter_le (wf w) (s.R w.n);refine W.bind (jL ?_);lk;refine bE Z.book rfl ?_;lk;refine(r6 Z H hm hw).mono ?_;intros v σ1;intro z;injection z with z li hz;obtain⟨rfl,hi,y⟩:=hz
 have Z1:=Z.cO y;have hb:∀ r∈(s.R w.n).filter (wf w),r.place<5/\xJ r.val:=λr hr=>(R.bnd r (List.mem_filter.mp hr).1).2.2;refine kJ hi ?_;refine o8 (R:=(s.R w.n).filter (wf w)) (src:=EH) (λσ'=>Ext [] σ1 σ') (λu=>true) (i6 key) (λσ' y i=>nV (y.bh hi) i) (λr hr σ' y2=>?_) Ext.refl (by lia) λσ2 y2=>?_
 ·refine l9 (p:=(.int r.place,r.val,.int r.came)) rfl ?_;lk;rw[if_pos rfl];lk;refine bS (n:=r.place) (y2.bh Z1.keys) (mJ Z1 (hb r hr).1) (by have:=(hb r hr).1;lia) ?_;lk;exact⟨rfl,y2⟩
 ·rw[List.filter_eq_self.mpr (λu u=>rfl)];have y3:=y2.trans (Ext.new (o:=aq.list (((s.R w.n).filter (wf w)).map (i6 key))));have hk:(σ2++[aq.list (((s.R w.n).filter (wf w)).map (i6 key))])[σ2.length]?=some (.list (((s.R w.n).filter (wf w)).map (i6 key))):=aZ;generalize σ2++[aq.list (((s.R w.n).filter (wf w)).map (i6 key))]=σ3 at *;have Z3:=Z1.cO y3;obtain⟨wn,wu,K⟩:=Z3.wat w hw;revert y2 y3 hk Z3 K;revert σ2 σ3;intros σ2 σ3;intro y2 y3 hk Z3 K;refine W.bind (W.bind ((wc (key:=key) (L:=(s.R w.n).filter (wf w)) (by lia) ?_).mono λv σ4 z=>?_))
  ·lk;refine bS (n:=0) K.list rfl (by decide) ?_;lk;refine cW K.inst K.sd rfl ?_;lk;refine(rC (Z3.tab _ wn) K R.num (by lia)).mono ?_;intros v σ4;intro z;injection z with z i hz;obtain⟨rfl,hi,y4⟩:=hz
   exact kJ hi ⟨_,rfl,hi,y4⟩
  ·injection z with z j hz;obtain⟨rfl,hj,y4⟩:=hz
   revert σ4;intros σ4;intro hj y4;lk;refine aW (b:=false) ?_ (W.aS (by decide) ?_)
   ·show (iT σ4 _ _).map (λr=>!r)=_;rw[ux hj (y4.bh hk) (zU KK hb)];rfl
   ·lk;exact⟨rfl,(y.trans y3).trans y4⟩
theorem ED(KK:gU key)(Z:bL σ x key row s)(H:dw s m B)(hm:m<=50):W (kq [.obj x.bk]) σ λv σ'=>v=.bool true/\Ext [] σ σ':=by
 revert KK Z H hm;revert σ x key row s m B;intros σ x key row;intros s m B;intro KK Z H hm;refine mh ?_;unfold j8;lk;refine bE Z.book rfl ?_;refine o7 ?_;lk;refine bE Z.book rfl ?_;lk;refine FA Z.tabs ?_;refine tu (n:=2) (λi σ'=>i<=2/\Ext [] σ σ') ?_ ⟨LI _,Ext.refl⟩ (by decide) λσ1 J=>⟨rfl,?_⟩
 ·intros i σ1;intro J;have Z1:=Z.cO J.2;by_cases q:i<2
  ·refine .inl ⟨q,.tup [.int i,.obj (x.t i)],sU Z1.tabs (wg q),?_⟩;refine jr (g:=(.int i,.obj (x.t i))) rfl ?_;exact(EB KK Z1 H hm q).mono λc σ2 z=>⟨z.1,q,J.2.trans z.2⟩
  ·have e:i=2:=by lia
   subst e;exact .inr ⟨rfl,sU Z1.tabs (o:=none) rfl⟩
 ·have Z1:=Z.cO J.2;have hwl:=H.len.2;refine o7 ?_;lk;refine bE Z1.book rfl ?_;refine kJ Z1.wks ?_;refine tu (n:=s.ws.length) (λi σ'=>i<=s.ws.length/\Ext [] σ σ') ?_ ⟨LI _,J.2⟩ (by lia) λσ2 J2a=>⟨rfl,?_⟩
  ·intros i σ2;intro J2a;have Z2:=Z.cO J2a.2;by_cases q:i<s.ws.length
   ·refine .inl ⟨q,.obj s.ws[i].wl,pK Z2.wks (by simp[q]),?_⟩;refine jr (g:=.obj s.ws[i].wl) rfl ?_;exact(CP KK Z2 H hm (List.getElem_mem q)).mono λc σ3 z=>⟨z.1,q,J2a.2.trans z.2⟩
   ·have e:i=s.ws.length:=by lia
    subst e;exact .inr ⟨rfl,pK Z2.wks (by simp)⟩
  ·lk;exact⟨rfl,J2a.2⟩
end
theorem xd{σ:ai}{pos:Pos}(C:gc σ):∃ i σ',m7 297 pos ny σ=some (.ok i,σ')/\σ'[i]?=some (.code ny)/\Ext [0] σ σ'/\gc σ':=by
 revert C;revert σ pos;intros σ pos;intro C;injection C with C l hz;obtain⟨h0,hl⟩:=hz
 cases hk:l.lookup (pos.line,pos.col) with
 |some i=>
  revert i;intros i;intro hk;exact⟨i,σ,Hz h0 hk (hl _ _ hk),hl _ _ hk,Ext.refl,l,h0,hl⟩
 |none=>
  have hlt:=bB h0;have y:Ext [0] σ (σ.set 0 (.tab 297 (l++[((pos.line,pos.col),σ.length)]))++[.code ny]):=Ext.set.trans Ext.new;have hc:(σ.set 0 (.tab 297 (l++[((pos.line,pos.col),σ.length)]))++[aq.code ny])[σ.length]?=some (.code ny):=by
   rw[List.getElem?_append_right (by simp)];simp
  refine⟨σ.length,σ.set 0 (.tab 297 (l++[((pos.line,pos.col),σ.length)]))++[aq.code ny],GZ h0 hk,hc,y,l++[((pos.line,pos.col),σ.length)],?_,λk i e=>?_⟩
  ·rw[List.getElem?_append_left (by simpa using hlt)];exact get_set hlt
  ·rw[List.lookup_append] at e;cases hk':l.lookup k with
   |some j=>
    revert e hk';revert k i j;intros k i j;intro e hk';rw[hk'] at e;cases e;exact y.get (hl _ _ hk') (by simpa using fy (hl _ _ hk') h0 (by simp))
   |none=>
    rw[hk'] at e;rw[Option.none_or,List.lookup_cons] at e;split at e
    ·cases e;exact hc
    ·cases e
abbrev hdl(vi:Nat):V->M ay:=λv=>d7 (fE "list" (pure (.obj vi)) (af (aA (Fc 64 (pure v) "value") (pure (.int 2))) (pure [])) cB) (pure .next)
theorem wN{σ:ai}{m:M V}{vi:Nat}{l:List V}(hm:WX m σ (λu u=>False) (λv σ'=>Ext [] σ σ'/\nU σ' v))(hv:σ[vi]?=some (.list l))(hl:l.length<=100) :
  ∃ σ',nK 64 m (hdl vi) σ=some (.ok .next,σ')/\Ext [vi] σ σ'/\σ'[vi]?=some (.list (l++[.bytes cy])):=by
 revert hm hv hl;revert σ m vi l;intros σ m vi l;intro hm hv hl;injection hm with hm r σ1 hz;obtain⟨e,q1,q2⟩:=hz
 cases r with
 |ok a=>
  revert a;intros a;intro e q1 q2;exact(q1 a rfl).elim
 |error v=>
  revert v;intros v;intro e q1 q2;obtain⟨y,hz⟩:=q2 v rfl;injection hz with hz i d hz;obtain⟨rfl,h1,h2⟩:=hz
  have hv1a:=y.bh hv;have h:W (hdl vi (.obj i)) σ1 λc σ'=>c=.next/\σ'=σ1.set vi (.list (l++[.bytes cy])):=by
   unfold hdl;lk;refine lu hv1a ?_;lk;refine W.run (a:=V.tup [.str "face",gT,.bytes cy]) (σ':=σ1) (IX h1 h2 rfl rfl) ?_;lk;refine cR (n:=2) rfl (by decide) ?_;lk;refine iF hv1a (by lia) ?_;lk;exact⟨rfl,rfl⟩
  injection h with h c σ' hz;obtain⟨e',rfl,rfl⟩:=hz
  exact⟨_,IW e h1 e',y.up.trans Ext.set,get_set (bB hv1a)⟩
section
variable{σ:ai}{x:Ix}{key:Nat->V}{row:List Int}{s:St}{n:Nat}
theorem bL.pos(Z:bL σ x key row s):0<x.re:=by
 obtain⟨l,h0,_⟩:=Z.code;obtain⟨a,b,hr⟩:=Z.reel;have:=fy h0 hr (by simp);lia
theorem Ix.ok.F2{x:Ix}(o:x.ok)(h:0<x.re)(i:Nat):x.at i∉[0]:=λz=>L7 (LS h (qu o.up (i:=0) (LI i))) (Lz z)
theorem bL.DR{σ':ai}(Z:bL σ x key row s)(y:Ext [0] σ σ')(hn:n<2):TabAt σ' (x.t n) (x.d n) (x.e n) (ents key (s.R n)) (s.c n):=by
 have N:=λi=>Z.ok.F2 Z.pos i;exact Z.wJ hn y (N 7) (N 6) (N 8) (N 10) (N 9) (N 11)
theorem bL.ofCode{σ':ai}(Z:bL σ x key row s)(y:Ext [0] σ σ')(C:gc σ'):bL σ' x key row s:=by
 have N:=λi=>Z.ok.F2 Z.pos i;exact⟨Z.ok,C,Z.reel.ext y (N 0),y.get Z.keys (N 2),Z.ch.ext y (N 4) (N 3) (N 1),y.get Z.book (N 5),y.get Z.tabs (N 12),
  y.get Z.log (N 13),λm hm=>Z.DR y hm,y.get Z.wks (N 14),λw hw=>Z.ue hw y λu i z=>L7 (L8 (LI _) (u.gt i)) (Lz z),Z.sep⟩
theorem Ext.Af{a:Nat}{σ σ1 σ':ai}{vi:Nat}(x:Ext [a] σ σ1)(y:Ext [vi] σ1 σ')(h:σ.length<=vi):Ext [a] σ σ':=
 ⟨LZ x.1 y.1,λi o n e=>y.get (x.get e n) (by have:=bB e;simp only[List.mem_singleton];lia)⟩
theorem Cf{k:V}(Z:bL σ x key row s)(hn:n<2)(hk:bU 20 [k] []=some none):W (lN [.obj (x.t n),k]) σ λv σ'=>v=.bool true/\bL σ' x key row s:=by
 revert Z hn hk;revert σ x key row s n k;intros σ x key row;intros s n k;intro Z hn hk;refine fS ?_;unfold jm;lk;refine dR (l:=[]) (by decide) ?_;have y1:Ext [] σ (σ++[aq.list []]):=Ext.new;have hv1a:(σ++[aq.list []])[σ.length]?=some (.list []):=aZ;have C1a:=(Z.cO y1).code;generalize σ++[aq.list []]=σ1 at *;obtain⟨vi,hvi⟩:∃ vi,vi=σ.length:=⟨_,rfl⟩
 revert vi;intros vi;intro hvi;rw[<- hvi] at hv1a ⊢;injection xd (pos:=⟨178,0,178,22⟩) C1a with x0 i1 σ2 hz;obtain⟨e1,c1,z1,C2a⟩:=hz
 injection xd (pos:=⟨179,0,179,25⟩) C2a with x0 i2 σ3 hz;obtain⟨e2,c2,z2,C3a⟩:=hz
 injection xd (pos:=⟨180,0,180,25⟩) C3a with x0 i3 σ4 hz;obtain⟨e3,c3,z3,C4a⟩:=hz
 have hv0:vi≠0:=by
  obtain⟨l,h0,_⟩:=C1a;exact fy hv1a h0 (by simp)
 have F2:∀ {τ:ai} {i:Nat},gc τ->τ[i]?=some (.code ny)->i∉[0]:=λC e=>by
  obtain⟨l,h0,_⟩:=C;simpa using fy e h0 (by simp)
 have c1':=(z2.trans z3).get c1 (F2 C2a c1);have c2':=z3.get c2 (F2 C3a c2);have hv4:=((z1.trans z2).trans z3).get hv1a (by simpa using hv0);have y4:Ext [0] σ σ4:=y1.up.trans ((z1.trans z2).trans z3);have T4:=Z.DR y4 hn;have nov:∀ {τ:ai} {i:Nat} {l:List V},τ[vi]?=some (.list l)->τ[i]?=some (.code ny)->i∉[vi]:=λh e=>by simpa using fy e h (by simp)
 obtain⟨σ5,t1,u1,hv5⟩:=wN (m:=bZ 156 "get" (pure (.obj (x.t n))) (af (pure k) (pure [])) fK) (l:=[]) (by
  refine WX.cS (W.pure (WX.cS (cW T4.inst T4.sd rfl (WX.cS ?_))));lk;exact B8 T4 hk) hv4 (by simp)
 have y5:=y4.Af u1 (by lia);have T5:=Z.DR y5 hn;obtain⟨σ6,t2,u2,hv6⟩:=wN (m:=bZ 156 "put" (pure (.obj (x.t n))) (af (pure k) (af (pure (.int 1)) (pure []))) cY) (by
  refine WX.cS (W.pure (WX.cS (cW T5.inst T5.sd rfl (WX.cS ?_))));lk;exact B9 T5 hk) hv5 (by simp)
 have y6:=y5.Af u2 (by lia);have T6:=Z.DR y6 hn;obtain⟨σ7,t3,u3,hv7⟩:=wN (m:=bZ 156 "remove" (pure (.obj (x.t n))) (af (pure k) (pure [])) dI) (by
  refine WX.cS (W.pure (WX.cS (cW T6.inst T6.sd rfl (WX.cS ?_))));lk;exact xe T6 hk) hv6 (by simp)
 have y7:=y6.Af u3 (by lia);have c25:=u1.get c2' (nov hv4 c2');have c35:=u1.get c3 (nov hv4 c3);have c36:=u2.get c35 (nov hv5 c35);have C7a:gc σ7:=C4a.ext ((u1.trans u2).trans u3) (dj hv4 rfl d8);have Z7:=Z.ofCode y7 C7a;refine W.bind (W.run (a:=ay.next) (σ':=σ7) ?_ ?_)
 ·show (oh 297 ny _ σ1).bind _=_;rw[rm e1 (rm e2 (rm e3 rfl))];show (iR 64 ny _ _ _ _).map _=_;rw[p8 c1' t1,p8 c25 t2,p8 c36 t3];rfl
 ·lk;refine dR (by decide) ?_;have y8:Ext [] σ7 (σ7++[aq.list [V.bytes #[104,97,115,104,32,111,102,32,117,110,104,97,115,104,97,98,108,101,32,116,121,112,101]]]):=Ext.new;have h8:(σ7++[aq.list [V.bytes #[104,97,115,104,32,111,102,32,117,110,104,97,115,104,97,98,108,101,32,116,121,112,101]]])[σ7.length]?=some (.list [V.bytes cy]):=aZ;generalize σ7++[aq.list [V.bytes #[104,97,115,104,32,111,102,32,117,110,104,97,115,104,97,98,108,101,32,116,121,112,101]]]=σ8 at *;generalize σ7.length=j at *;lk;refine W.run (a:=V.obj σ8.length) (σ':=σ8++[.list [.bytes cy,.bytes cy,.bytes cy]]) (Jj (k:=3) h8 (by decide)) ?_;have y9a:Ext [] σ8 (σ8++[.list [.bytes cy,.bytes cy,.bytes cy]]):=Ext.new;lk;refine aW (b:=true) ?_ ?_
  ·refine ux (y9a.bh (y8.bh hv7)) aZ ?_;intros v;intro hv;revert t1 u1 hv5 y5 T5 t2 u2 hv6 y6 T6 t3 u3 hv7 y7 c25 c35 c36 C7a Z7 y8;revert σ5 σ6 σ7;intros σ5 σ6 σ7;intro t1 u1 hv5 y5 T5 t2 u2 hv6 y6 T6 t3 u3 hv7 y7 c25 c35 c36 C7a Z7 y8;have:v=.bytes cy:=by simpa using hv
   subst this;decide
  ·lk;exact⟨rfl,Z7.cO (y8.trans y9a)⟩
end
section
variable{σ:ai}{x:Ix}{key:Nat->V}{row:List Int}{s:St}{m B n p:Nat}{v:V}
theorem dw.change{R':List Row}{c':Nat}{e:LE}(H:dw s m B)(hn:n<2)(he:e.table=n)(h1:gX R' c' n (s.log++[e]))(h2:∀ w,iz (s.R n) (s.c n) s.log.length w->iz R' c' (s.log.length+1) w) :
  dw {s with R:=upd s.R n R',c:=upd s.c n c',log:=s.log++[e]} (m+1) B:=by
 refine⟨λk hk=>?_,λw hw=>?_,?_⟩
 ·by_cases q:k=n
  ·subst q;show gX (upd s.R k R' k) (upd s.c k c' k) k _;rw[vR,vR];exact h1
  ·show gX (upd s.R n R' k) (upd s.c n c' k) k _;rw[wj q,wj q];exact(H.rok k hk).other (by lia)
 ·obtain⟨a,b⟩:=H.wok w hw;refine⟨?_,b⟩;show iz (upd s.R n R' w.n) (upd s.c n c' w.n) (s.log++[e]).length w;rw[List.length_append,List.length_singleton];by_cases q:w.n=n
  ·rw[q,vR,vR];rw[q] at a;exact h2 w a
  ·rw[wj q,wj q];exact a.more
 ·have:=H.len;show (s.log++[e]).length<=_/\_;rw[List.length_append,List.length_singleton];exact⟨by lia,by show s.ws.length<=_;lia⟩
theorem K8(KK:gU key)(Z:bL σ x key row s)(H:dw s m B)(hm:m<=50)(hn:n<2)(hp:p<5)(hv:xJ v) :
  W (cY [.obj (x.t n),key p,v]) σ λu σ'=>u=.none/\∃ R' c',bL σ' x key row {s with R:=upd s.R n R',c:=upd s.c n c'}/\dw {s with R:=upd s.R n R',c:=upd s.c n c',log:=s.log++[⟨n,p,v,true⟩]} (m+1) B:=by
 revert KK Z H hm hn hp hv;revert σ x key row s m B n p v;apply cK;generalize dm=zt;generalize zt.1.1.1=σ,zt.1.1.2=x,zt.1.2.1=key,zt.1.2.2.1=row,zt.1.2.2.2=s,zt.2.1.1=m,zt.2.1.2=B,zt.2.2.1=n,zt.2.2.2.1=p,zt.2.2.2.2=v;intro KK Z H hm hn hp hv;have R:=H.rok _ hn;have hl:=H.len.1;have hrl:=R.len;have T:=Z.tab _ hn;have look:=yo (key:=key) (R:=s.R n) KK R.h5 hp;have tok:=wD (key:=key) (R:=s.R n) KK R.h5 hp (by lia);cases hfd:(s.R n).find? λr=>decide (r.place=p) with
 |none=>
  rw[hfd] at look;have e:((s.R n).any λr=>decide (r.place=p))=false:=by
   rw[List.find?_eq_none] at hfd;rw[Bool.eq_false_iff];intro z;obtain⟨r,hr,hrp⟩:=List.any_eq_true.mp z;exact hfd r hr hrp
  refine(CC T (KK.walk _ hp) tok look).mono ?_;intros u σ';intro z;obtain⟨rfl,y,T'⟩:=z;rw[GV (L:=s.log.length) KK R.h5 hp e] at T';exact⟨rfl,_,_,Z.Ew hn y T',H.change hn rfl (R.new hp hv e) λw h=>h.new⟩
 |some r=>
  revert r;intros r;intro hfd;rw[hfd] at look;have hr:=List.mem_of_find?_eq_some hfd;have hrp:r.place=p:=by simpa using List.find?_some hfd
  have e:((s.R n).any λr=>decide (r.place=p))=true:=List.any_eq_true.mpr ⟨r,hr,decide_eq_true hrp⟩;refine(Cj T (KK.walk _ hp) tok look).mono ?_;intros u σ';intro z;obtain⟨rfl,y,T'⟩:=z;rw[Ht KK R.h5 hp R.nd hr hrp] at T';exact⟨rfl,_,_,Z.Ew hn y T',H.change hn rfl (R.old hv e) λw h=>h.old⟩
theorem Hp(KK:gU key)(Z:bL σ x key row s)(H:dw s m B)(hm:m<=50)(hn:n<2)(hp:p<5) :
  W (dI [.obj (x.t n),key p]) σ λu σ'=>u=.none/\∃ R' c',bL σ' x key row {s with R:=upd s.R n R',c:=upd s.c n c'}/\dw {s with R:=upd s.R n R',c:=upd s.c n c',log:=s.log++[⟨n,p,.none,false⟩]} (m+1) B:=by
 have R:=H.rok _ hn;have hl:=H.len.1;have hrl:=R.len;have tok:=wD (key:=key) (R:=s.R n) KK R.h5 hp (by lia);refine(DA (Z.tab _ hn) (KK.walk _ hp) tok).mono λu σ' z=>?_;obtain⟨rfl,y,T'⟩:=z;rw[G5 KK R.h5 hp] at T';exact⟨rfl,_,_,Z.Ew hn y T',H.change hn rfl R.out λw h=>h.out⟩
theorem BU{e:LE}(KK:gU key)(Z:bL σ x key row s)(hs:dw {s with log:=s.log++[e]} m B)(hm:m<=50)(hn:n<2)(hp:p<5) :
  W (d7 (fE "list" (aA (pure (.obj x.bk)) (pure (.str "log"))) (af (aV (af (pure (.int e.table)) (af (pure (.int e.place)) (af (pure e.val) (af (pure (.bool e.put)) (pure [])))))) (pure [])) cB) (bz (aG (pure (.ref 295)) (.ref 295) (af (pure (.obj x.bk)) (af (pure (.int n)) (af (pure (.int p)) (pure [])))) bQ))) σ
   λc σ'=>gI c=.bool true/\∃ s',bL σ' x key row s'/\dw s' m B:=by
 revert KK Z hs hm hn hp;revert σ x key row s m B n p e;apply cK;generalize dm=zt;generalize zt.1.1.1=σ,zt.1.1.2=x,zt.1.2.1=key,zt.1.2.2.1=row,zt.1.2.2.2=s,zt.2.1.1=m,zt.2.1.2=B,zt.2.2.1=n,zt.2.2.2.1=p,zt.2.2.2.2=e;intro KK Z hs hm hn hp;have hl:(s.log++[e]).length<=m:=hs.len.1;rw[List.length_append,List.length_singleton] at hl;lk;refine bE Z.book rfl ?_;lk;refine lu Z.log ?_;lk;refine iF Z.log (by rw[List.length_map];lia) ?_;have e4:s.log.map vP++[.tup [.int e.table,.int e.place,e.val,.bool e.put]]=(s.log++[e]).map vP:=by rw[List.map_append];rfl
 rw[e4];have Z':=Z.Lc (l:=s.log++[e]) Ext.set (get_set (bB Z.log));lk;refine(sq KK Z' hs hm hn hp).mono ?_;intros u σ';intro z;obtain⟨rfl,y⟩:=z;lk;exact⟨rfl,_,Z'.cO y,hs⟩
theorem Ho{t d e c:Nat}{E:List (List V×V)}(T:TabAt σ t d e E c):W (gk [.obj t]) σ λv σ'=>∃ wi wd to,v=.obj wi/\σ.length<=wd/\wd<wi/\wi<to/\σ'[wi]?=some (.inst 197 wd)/\σ'[wd]?=some (.sd (qs t c to))/\σ'[to]?=some (.idd [] 0)/\Ext [] σ σ':=by
 revert T;revert σ t d e c E;intros σ t d e;intros c E;intro T;refine zR ?_;have y:Ext [] σ (σ++[aq.sd []]++[aq.inst 197 σ.length]):=Ext.new.trans Ext.new;have hi:(σ++[aq.sd []]++[aq.inst 197 σ.length])[σ.length+1]?=some (.inst 197 σ.length):=by simp
 have hd:(σ++[aq.sd []]++[aq.inst 197 σ.length])[σ.length]?=some (.sd []):=by simp
 have T:=T.cO y;have hl:(σ++[aq.sd []]++[aq.inst 197 σ.length]).length=σ.length+2:=by simp
 generalize σ++[aq.sd []]++[aq.inst 197 σ.length]=σ1 at *;have nt:t∉[σ.length]:=by simpa using fy T.inst hd (by simp)
 have nd:d∉[σ.length]:=by simpa using fy T.sd hd (by simp[oU])
 have ne:e∉[σ.length]:=by simpa using fy T.td hd (by simp)
 have ni:σ.length+1∉[σ.length]:=by simp
 refine fS ?_;unfold gP;lk;refine iH hi hd (by simp) ?_;have y1:Ext [σ.length] σ1 (σ1.set σ.length (.sd [("table",.obj t)])):=Ext.set;have hd1a:(σ1.set σ.length (.sd [("table",.obj t)]))[σ.length]?=some (.sd [("table",.obj t)]):=get_set (bB hd);show W _ (σ1.set σ.length (.sd [("table",.obj t)])) _;generalize σ1.set σ.length (.sd [("table",.obj t)])=σ2 at *;lk;refine iH (y1.get hi ni) hd1a (by simp) ?_;have y2:Ext [σ.length] σ1 (σ2.set σ.length (.sd [("table",.obj t),("number",.none)])):=y1.trans Ext.set;have hd2a:(σ2.set σ.length (.sd [("table",.obj t),("number",.none)]))[σ.length]?=some (.sd [("table",.obj t),("number",.none)]):=get_set (bB hd1a);show W _ (σ2.set σ.length (.sd [("table",.obj t),("number",.none)])) _;generalize σ2.set σ.length (.sd [("table",.obj t),("number",.none)])=σ3 at *;have T3:=T.ext y2 nt nd ne;lk;refine aW (b:=false) rfl (W.aS (by decide) ?_);lk;refine cV T3.inst T3.sd rfl rfl ?_;lk;refine iH (y2.get hi ni) hd2a (by simp) ?_;have y3:Ext [σ.length] σ1 (σ3.set σ.length (.sd [("table",.obj t),("number",.none),("end",.int c)])):=y2.trans Ext.set;have hd3:(σ3.set σ.length (.sd [("table",.obj t),("number",.none),("end",.int c)]))[σ.length]?=some (.sd [("table",.obj t),("number",.none),("end",.int c)]):=get_set (bB hd2a);show W _ (σ3.set σ.length (.sd [("table",.obj t),("number",.none),("end",.int c)])) _;generalize σ3.set σ.length (.sd [("table",.obj t),("number",.none),("end",.int c)])=σ4 at *;lk;refine Be ?_;have y4:Ext [σ.length] σ1 (σ4++[aq.idd [] 0]):=y3.trans Ext.new;have hd4:(σ4++[aq.idd [] 0])[σ.length]?=some (.sd [("table",.obj t),("number",.none),("end",.int c)]):=Ext.new.bh hd3;have ht4:(σ4++[aq.idd [] 0])[σ4.length]?=some (.idd [] 0):=aZ;have hto:σ.length+1<σ4.length:=by have:=y3.1;lia
 generalize σ4++[aq.idd [] 0]=σ5 at *;generalize σ4.length=to at *;lk;refine iH (y4.get hi ni) hd4 (by simp) ?_;have y5:Ext [σ.length] σ1 (σ5.set σ.length (.sd (qs t c to))):=y4.trans Ext.set;have hd5:(σ5.set σ.length (.sd (qs t c to)))[σ.length]?=some (.sd (qs t c to)):=get_set (bB hd4);have ht5:(σ5.set σ.length (.sd (qs t c to)))[to]?=some (.idd [] 0):=Ext.set.get ht4 (by simp;lia);show W _ (σ5.set σ.length (.sd (qs t c to))) _;generalize σ5.set σ.length (.sd (qs t c to))=σ6 at *;lk;exact⟨rfl,_,_,to,rfl,LP _,Nat.lt_succ_self _,hto,y5.get hi ni,hd5,ht5,y.fresh y5 (by simp)⟩
end
theorem eq_nil{σ:ai}{li:Nat}{l:List V}(hl:σ[li]?=some (.list l)):nG .Eq (σ++[aq.list []]) (.obj li) (.obj σ.length)=some l.isEmpty:=by
 have h1:(σ++[aq.list []])[li]?=some (.list l):=Ext.new.bh hl;exact qg h1 aZ
section
variable{σ:ai}{x:Ix}{key:Nat->V}{row:List Int}{s:St}{m B n p:Nat}{v:V}
theorem Gz(KK:gU key)(Z:bL σ x key row s)(H:dw s m B)(hm:m<=40)(hn:n<2)(hp:p<5) :
  W (d7 (fE "list" (aA (pure (.obj x.bk)) (pure (.str "walks"))) (af (cG (af (aG (pure (.ref 197)) (.ref 197) (af (pure (.obj (x.t n))) (pure [])) gk) (af (pure (.int n)) (af (aG (pure (.bi "len")) (.bi "len") (af (aA (pure (.obj x.bk)) (pure (.str "log"))) (pure [])) c8) (af (cG (pure [])) (pure [])))))) (pure [])) cB) (bz (aG (pure (.ref 295)) (.ref 295) (af (pure (.obj x.bk)) (af (pure (.int n)) (af (pure (.int p)) (pure [])))) bQ))) σ
   λc σ'=>gI c=.bool true/\∃ s',bL σ' x key row s'/\dw s' (m+1) B:=by
 revert KK Z H hm hn hp;revert σ x key row s m B n p;intros σ x key row;intros s m B n;intros p;intro KK Z H hm hn hp;have hl:=H.len;have R:=H.rok _ hn;have hlt:=Z.lt;lk;refine bE Z.book rfl ?_;lk;refine lu Z.wks ?_;lk;refine(Ho (Z.tab _ hn)).mono ?_;intros u σ1;intro z;injection z with z wi wd to hz;obtain⟨rfl,g1,g2,g3,hwi,hwd,hto,y1⟩:=hz
 have hto':=bB hto;lk;refine bE (y1.bh Z.book) rfl ?_;lk;refine iG (y1.bh Z.log) (by rw[List.length_map];lia) ?_;rw[List.length_map];lk;refine dR (l:=[]) (by decide) ?_;have y2:Ext [] σ1 (σ1++[aq.list []]):=Ext.new;have htl:(σ1++[aq.list []])[σ1.length]?=some (.list (jy [])):=aZ;have hlen2:(σ1++[aq.list []]).length=σ1.length+1:=by simp
 generalize σ1++[aq.list []]=σ2 at *;generalize σ1.length=tl at *;lk;refine dR (by simp) ?_;obtain⟨w,hw⟩:∃ w:Wk,w=⟨n,s.log.length,s.c n,[],[],σ2.length,wi,wd,to,tl⟩:=⟨_,rfl⟩
 revert y2 hto' htl hlen2 hw;revert σ2 tl w;intros σ2 tl w;intro y2 hto' htl hlen2 hw;have y3:Ext [] σ2 (σ2++[aq.list [.obj wi,.int n,.int s.log.length,.obj tl]]):=Ext.new;have hwl:(σ2++[aq.list [.obj wi,.int n,.int s.log.length,.obj tl]])[σ2.length]?=some (.list [.obj wi,.int n,.int s.log.length,.obj tl]):=aZ;generalize σ2++[aq.list [.obj wi,.int n,.int s.log.length,.obj tl]]=σ3 at *;generalize σ2.length=wl at *;have y13:=(y1.trans y2).trans y3;have Z3:=Z.cO y13;lk;refine iF Z3.wks (by rw[List.length_map];lia) ?_;have ew:s.ws.map (λw=>V.obj w.wl)++[.obj wl]=(s.ws++[w]).map λw=>V.obj w.wl:=by rw[List.map_append,hw];rfl
 rw[ew];have yS:Ext [x.wk] σ3 (σ3.set x.wk (.list ((s.ws++[w]).map λw=>V.obj w.wl))):=Ext.set;have Z4:bL (σ3.set x.wk (.list ((s.ws++[w]).map λw=>V.obj w.wl))) x key row {s with ws:=s.ws++[w]}:=by
  refine Z3.Jw yS (by rw[hw];exact hn) ?_ (λw' hw'=>?_) ?_ (get_set (bB Z3.wks))
  ·subst hw;unfold Wk.up;dsimp only;lia
  ·subst hw;have:=hlt.2 w' hw';dsimp only;lia
  ·subst hw;exact⟨yS.get hwl (by simp only[List.mem_singleton];lia),yS.get (y3.bh htl) (by simp only[List.mem_singleton];lia),yS.get ((y2.trans y3).bh hwi) (by simp only[List.mem_singleton];lia),yS.get ((y2.trans y3).bh hwd) (by simp only[List.mem_singleton];lia),0,yS.get ((y2.trans y3).bh hto) (by simp only[List.mem_singleton];lia)⟩
 have H4:dw {s with ws:=s.ws++[w]} (m+1) B:=by
  refine⟨H.rok,λu hu=>?_,?_⟩
  ·rcases Ly hu with hu|hu
   ·exact H.wok u hu
   ·rw[List.mem_singleton] at hu;subst hu;subst hw;exact⟨iz.fresh R rfl rfl rfl rfl,LI _,LI _⟩
  ·show s.log.length<=_/\(s.ws++[w]).length<=_;rw[List.length_append,List.length_singleton];lia
 generalize σ3.set x.wk (.list ((s.ws++[w]).map λw=>V.obj w.wl))=σ4 at *;lk;refine(sq KK Z4 H4 (by lia) hn hp).mono ?_;intros u σ';intro z;revert y3 hlen2 hw hwl y13 Z3 ew yS Z4 z;revert σ3 wl σ4;intros σ3 wl σ4;intro y3 hlen2 hw hwl y13 Z3 ew yS Z4 z;obtain⟨rfl,y⟩:=z;lk;exact⟨rfl,_,Z4.cO y,H4⟩
theorem yt(KK:gU key)(Z:bL σ x key row s)(H:dw s m B)(hm:m<=40)(hB:B<=500)(hr:row.length<=100)(h0:0<s.ws.length) :
  W (bz (aG (pure (.ref 283)) (.ref 283) (af (pure (.obj x.bk)) (af (aA (aA (pure (.obj x.bk)) (pure (.str "walks"))) (aG (pure (.ref 243)) (.ref 243) (af (pure (.obj x.re)) (af (aG (pure (.bi "len")) (.bi "len") (af (aA (pure (.obj x.bk)) (pure (.str "walks"))) (pure [])) c8) (pure []))) cD)) (pure []))) fZ)) σ
   λc σ'=>gI c=.bool true/\∃ s',bL σ' x key row s'/\dw s' (m+1) (B+1):=by
 revert KK Z H hm hB hr h0;revert σ x key row s m B;intros σ x key row;intros s m B;intro KK Z H hm hB hr h0;have hl:=H.len;lk;refine bE Z.book rfl ?_;lk;refine bE Z.book rfl ?_;lk;refine iG Z.wks (by rw[List.length_map];lia) ?_;rw[List.length_map];lk;refine(gf Z.reel h0 (by lia)).mono ?_;intros u σ1;intro z;injection z with z k hz;obtain⟨hk,rfl,y,hre⟩:=hz
 have Z1:=Z.ji y hre;refine bS (n:=k) Z1.wks (v:=.obj s.ws[k].wl) (by simp[hk]) (by lia) ?_;lk;refine(tR KK Z1 H (by lia) hB hr (List.getElem_mem hk)).mono ?_;intros u σ2;intro z;obtain⟨rfl,hz⟩:=z;injection hz with hz s' hz;obtain⟨Z',H',_⟩:=hz
 lk;exact⟨rfl,s',Z',H'.mono (Nat.le_succ _) (LP _)⟩
theorem Hx{turn:Nat}(KK:gU key)(Z:bL σ x key row s)(H:dw s m B)(hm:m<=40)(hB:B<=500)(hr:row.length<=100) :
  W (l5 [.obj x.re,.obj x.bk,.int turn]) σ λv σ'=>v=.bool true/\∃ s',bL σ' x key row s'/\dw s' (m+1) (B+1):=by
 revert KK Z H hm hB hr;revert σ x key row s m B turn;intros σ x key row;intros s m B turn;intro KK Z H hm hB hr;have hl:=H.len;refine zw ?_;unfold l6;lk;refine(gf (m:=2) Z.reel (by decide) (by decide)).mono ?_;intros u σ1;intro z;injection z with z n hz;obtain⟨hn,rfl,y,hre⟩:=hz
 have Z1:=Z.ji y hre;clear y hre;lk;refine(gf (m:=9) Z1.reel (by decide) (by decide)).mono ?_;intros u σ2;intro z;injection z with z way hz;obtain⟨hway,rfl,y,hre⟩:=hz
 have Z2:=Z1.ji y hre;clear y hre;lk;refine(gf (m:=5) Z2.reel (by decide) (by decide)).mono ?_;intros u σ3;intro z;injection z with z p hz;obtain⟨hp,rfl,y,hre⟩:=hz
 have Z3:=Z2.ji y hre;clear y hre;lk;refine jr (g:=(.int n,.int way,.int p)) rfl ?_;lk;refine bE Z3.book rfl ?_;lk;refine bS Z3.tabs (wg hn) (by lia) ?_;lk;refine bE Z3.book rfl ?_;lk;refine bS Z3.keys (mJ Z3 hp) (by lia) ?_;lk;refine jr (g:=(.obj (x.t n),key p)) rfl ?_;lk;refine aW (b:=decide (way<4)) (by show some (decide ((way:Int)<4))=_;congr 1;exact decide_eq_decide.mpr (by lia)) ?_;by_cases h4:way<4
 ·rw[decide_eq_true h4];refine W.aX rfl ?_;lk;refine(gf (m:=5) Z3.reel (by decide) (by decide)).mono ?_;intros u σ4;intro z;injection z with z k hz;obtain⟨hk,rfl,y,hre⟩:=hz
  have Z4:=Z3.ji y hre;clear y hre;have put:∀ v,xJ v->W (d7 (bZ 156 "put" (pure (.obj (x.t n))) (af (pure (key p)) (af (pure v) (pure []))) cY) (d7 (fE "list" (aA (pure (.obj x.bk)) (pure (.str "log"))) (af (aV (af (pure (.int n)) (af (pure (.int p)) (af (pure v) (af (pure (.bool true)) (pure [])))))) (pure [])) cB) (bz (aG (pure (.ref 295)) (.ref 295) (af (pure (.obj x.bk)) (af (pure (.int n)) (af (pure (.int p)) (pure [])))) bQ)))) σ4
    λc σ'=>gI c=.bool true/\∃ s',bL σ' x key row s'/\dw s' (m+1) (B+1):=λv hv=>by
   have T:=Z4.tab _ hn;lk;refine cW T.inst T.sd rfl ?_;lk;refine(K8 KK Z4 H (by lia) hn hp hv).mono λu σ5 z=>?_;obtain⟨rfl,R',c',Z5,H5⟩:=z;refine Ab ?_;refine W.mono (m:=d7 _ _) (BU (e:=⟨n,p,v,true⟩) KK Z5 H5 (by lia) hn hp) λc σ' z=>?_;obtain⟨e,s',Z',H'⟩:=z;exact⟨e,s',Z',H'.mono (LP _) (Nat.le_succ _)⟩
  lk;refine aW (b:=decide (k=0)) (by show some ((k:Int)==0)=_;congr 1;rw[fN];exact decide_eq_decide.mpr (by lia)) ?_;by_cases hk0:k=0
  ·rw[decide_eq_true hk0];exact W.aX rfl (W.pure (put _ (.inl rfl)))
  ·rw[decide_eq_false hk0];exact W.aS (by decide) (W.pure (put _ (.inr ⟨_,rfl⟩)))
 rw[decide_eq_false h4];refine W.aS (by decide) ?_;lk;refine aW (b:=decide (way=4)) (by show some ((way:Int)==4)=_;congr 1;rw[fN];exact decide_eq_decide.mpr (by lia)) ?_;by_cases h5:way=4
 ·rw[decide_eq_true h5];refine W.aX rfl ?_;have T:=Z3.tab _ hn;lk;refine cW T.inst T.sd rfl ?_;lk;refine(Hp KK Z3 H (by lia) hn hp).mono ?_;intros u σ5;intro z;obtain⟨rfl,hz⟩:=z;injection hz with hz R' c' hz;obtain⟨Z5,H5⟩:=hz
  refine Ab ?_;refine W.mono (m:=d7 _ _) (BU (e:=⟨n,p,.none,false⟩) KK Z5 H5 (by lia) hn hp) ?_;intros c σ';intro z;obtain⟨e,hz⟩:=z;injection hz with hz s' hz;obtain⟨Z',H'⟩:=hz
  exact⟨e,s',Z',H'.mono (LP _) (Nat.le_succ _)⟩
 rw[decide_eq_false h5];refine W.aS (by decide) ?_;lk;refine aW (b:=decide (way=5)) (by show some ((way:Int)==5)=_;congr 1;rw[fN];exact decide_eq_decide.mpr (by lia)) ?_;by_cases h6:way=5
 ·rw[decide_eq_true h6];refine W.aX rfl ?_;lk;refine Fw.mono ?_;intros u σ4;intro z;obtain⟨rfl,rfl⟩:=z;lk;refine cU (z:=((p % 3:Nat):Int)) (by rw[tY (by decide)];congr 1;rw[Int.fmod_eq_emod_of_nonneg _ (by decide)];lia) ?_;injection Dr (n:=p % 3) (by lia) with x0 k hz;obtain⟨hk,hw⟩:=hz
  refine bS (n:=p % 3) aZ hk (by lia) ?_;lk;refine(Cf (Z3.cO Ext.new) hn hw).mono ?_;intros u σ5;intro z;obtain⟨rfl,Z5⟩:=z;lk;exact⟨rfl,s,Z5,H.mono (Nat.le_succ _) (Nat.le_succ _)⟩
 rw[decide_eq_false h6];refine W.aS (by decide) ?_;lk;refine bE Z3.book rfl ?_;lk;refine dR (l:=[]) (by decide) ?_;lk;refine aW (eq_nil Z3.wks) ?_;have Z4:=Z3.cO (Ext.new (o:=aq.list []));generalize σ3++[aq.list []]=σ4 at *;have make:∀ {τ:ai},bL τ x key row s->W (d7 (fE "list" (aA (pure (.obj x.bk)) (pure (.str "walks"))) (af (cG (af (aG (pure (.ref 197)) (.ref 197) (af (pure (.obj (x.t n))) (pure [])) gk) (af (pure (.int n)) (af (aG (pure (.bi "len")) (.bi "len") (af (aA (pure (.obj x.bk)) (pure (.str "log"))) (pure [])) c8) (af (cG (pure [])) (pure [])))))) (pure [])) cB) (bz (aG (pure (.ref 295)) (.ref 295) (af (pure (.obj x.bk)) (af (pure (.int n)) (af (pure (.int p)) (pure [])))) bQ))) τ
   λc σ'=>gI c=.bool true/\∃ s',bL σ' x key row s'/\dw s' (m+1) (B+1):=λZt=>(Gz KK Zt H hm hn hp).mono λc σ' z=>by
  obtain⟨e,s',Z',H'⟩:=z;exact⟨e,s',Z',H'.mono (LP _) (Nat.le_succ _)⟩
 cases hws:(s.ws.map λw=>V.obj w.wl).isEmpty with
 |true=>
  refine W.aX rfl ?_;refine W.pure (W.aX rfl ?_);exact make Z4
 |false=>
  have hpos:0<s.ws.length:=by
   cases h:s.ws with
   |nil=>rw[h] at hws;cases hws
   |cons a l=>simp
  refine W.aS (by decide) ?_;lk;refine aW (b:=decide (way=6)) (by show some ((way:Int)==6)=_;congr 1;rw[fN];exact decide_eq_decide.mpr (by lia)) ?_;by_cases h7:way=6
  ·rw[decide_eq_true h7];refine W.aX rfl ?_;lk;refine bE Z4.book rfl ?_;lk;refine iG Z4.wks (by rw[List.length_map];lia) ?_;rw[List.length_map];lk;refine aW (b:=decide (s.ws.length<3)) (by show some (decide ((s.ws.length:Int)<3))=_;congr 1;exact decide_eq_decide.mpr (by lia)) ?_;by_cases h8:s.ws.length<3
   ·rw[decide_eq_true h8];refine W.aX rfl ?_;lk;refine W.aX rfl ?_;lk;refine W.aX rfl ?_;exact make Z4
   ·rw[decide_eq_false h8];refine W.aS (by decide) ?_;lk;refine W.aS (by decide) ?_;lk;refine W.aS (by decide) ?_;exact yt KK Z4 H hm hB hr hpos
  ·rw[decide_eq_false h7];refine W.aS (by decide) ?_;lk;refine W.aS (by decide) ?_;lk;refine W.aS (by decide) ?_;exact yt KK Z4 H hm hB hr hpos
end
def KC:Option ai:=(jz (gq [] [.tab 297 []])).bind λp=>p.1.qV.bind λb=>if b=true then some p.2 else none
theorem GW:(KC.bind λσ=>(σ[(0:Nat)]?.bind aq.zu).bind λp=>if p=(297,[]) then some () else none).isSome=true:=by decide +kernel
theorem Fl:W (gq []) [.tab 297 []] λv σ'=>v=.bool true/\gc σ':=by
 obtain⟨u,h⟩:=Option.isSome_iff_exists.mp GW;obtain⟨σ',h1,h⟩:=Lv h;obtain⟨p,h2,h⟩:=Lv h;obtain⟨o,h3,h4⟩:=Lv h2;obtain⟨v,τ,e,h1⟩:=iL h1;obtain⟨b,hb,h1⟩:=Lv h1;have hp:=(aE h).1;have hb':=(aE h1).1;refine⟨v,τ,e,(V.wB hb).trans (LH V.bool hb'),[],?_,λk i z=>nomatch z⟩;rw[show τ=σ' from Option.some.inj (aE h1).2,h3,aq.tab_of h4,hp]
theorem GQ{sc:Addr}{z:Int}{r:List Int}{σ:ai}:W (qv sc (z::r) [.ref sc]) σ λv σ'=>∃ ri,v=.obj ri/\fP σ' ri/\Ext [] σ σ':=by
 revert sc z r σ;intros sc z r σ;refine mh ?_;unfold lX;lk;refine W.run (a:=V.int ((z::r).length:Nat)) (σ':=σ) (if_pos rfl) ?_;lk;refine aW (b:=true) (by show some (decide ((0:Int)<_))=_;congr 1;exact decide_eq_true (by simp)) (W.aX rfl ?_);lk;refine W.run (a:=V.int z) (σ':=σ) (if_pos ⟨rfl,rfl⟩) ?_;lk;have big:∀ y:Int,W (bz (cG (af (n9 (bA .GtE (pure (.int y)) (bM .Pow (pure (.int 10)) (pure (.int 16)))) (pure (.int y)) (pure (.int 0))) (af (bM .Mod (bM .Add (bM .Add (bM .Mult (bM .Mod (pure (.int y)) (pure (.int 999727))) (pure (.int 4))) (aG (pure (.ty "int")) (.ty "int") (af (fU .Lt (pure (.int z)) (pure (.int 0))) (pure [])) DZ)) (pure (.int 33))) (pure (.int 65497))) (pure []))))) σ λc σ'=>∃ ri,gI c=.obj ri/\fP σ' ri/\Ext [] σ σ':=λy=>by
  have tail:∀ y0:Int,W (af (bM .Mod (bM .Add (bM .Add (bM .Mult (bM .Mod (pure (.int y)) (pure (.int 999727))) (pure (.int 4))) (aG (pure (.ty "int")) (.ty "int") (af (fU .Lt (pure (.int z)) (pure (.int 0))) (pure [])) DZ)) (pure (.int 33))) (pure (.int 65497))) (pure [])) σ λl σ'=>W (mV (.int y0::l)) σ' λv σ'=>W (pure (ay.ret v)) σ' λc σ'=>∃ ri,gI c=.obj ri/\fP σ' ri/\Ext [] σ σ':=λy0=>by
   lk;refine cU (z:=y.fmod 999727) rfl ?_;lk;refine cU (z:=y.fmod 999727*4) (if_pos (by right;decide)) ?_;lk;refine aW (b:=decide (z<0)) rfl ?_;lk;refine W.run (a:=V.int (if decide (z<0)=true then 1 else 0)) (σ':=σ) rfl ?_;lk;refine cU (z:=_) rfl ?_;lk;refine cU (z:=_) rfl ?_;lk;refine cU (z:=_) rfl ?_;lk;refine dR (by simp) ?_;lk;exact⟨_,rfl,⟨_,_,aZ⟩,Ext.new⟩
  lk;refine cU (z:=10^16) rfl ?_;lk;refine aW (b:=decide ((10^16:Int)<=y)) rfl ?_;by_cases h:(10^16:Int)<=y
  ·rw[decide_eq_true h];exact W.aX rfl (W.pure (tail _))
  ·rw[decide_eq_false h];exact W.aS (by decide) (W.pure (tail _))
 refine aW (b:=decide (0<=z)) rfl ?_;by_cases h:0<=z
 ·rw[decide_eq_true h];exact W.aX rfl (W.pure (big _))
 ·rw[decide_eq_false h];refine W.aS (by decide) ?_;lk;refine cU (z:=2*z) (show (if (2:Int).natAbs<2^64\/z.natAbs<2^64 then some (2*z) else none)=_ from if_pos (.inl (by decide))) ?_;lk;refine cU (z:=19 - 2*z) rfl ?_;exact big _
theorem yi{σ:ai}:W (kH [.ref 250]) σ λv σ'=>∃ e,v=.obj (σ.length+1)/\TabAt σ' (σ.length+1) σ.length e [] 0/\σ.length+1<e/\Ext [] σ σ':=by
 revert σ;intros σ;refine zR ?_;have y:Ext [] σ (σ++[aq.sd []]++[aq.inst 156 σ.length]):=Ext.new.trans Ext.new;have hi:(σ++[aq.sd []]++[aq.inst 156 σ.length])[σ.length+1]?=some (.inst 156 σ.length):=by simp
 have hd:(σ++[aq.sd []]++[aq.inst 156 σ.length])[σ.length]?=some (.sd []):=by simp
 generalize σ++[aq.sd []]++[aq.inst 156 σ.length]=σ1 at *;have ni:σ.length+1∉[σ.length]:=by simp
 refine fS ?_;unfold jV;lk;refine iH hi hd (by simp) ?_;have y1:Ext [σ.length] σ1 (σ1.set σ.length (.sd [("may_compare",.ref 250)])):=Ext.set;have hd1a:(σ1.set σ.length (.sd [("may_compare",.ref 250)]))[σ.length]?=some (.sd [("may_compare",.ref 250)]):=get_set (bB hd);show W _ (σ1.set σ.length (.sd [("may_compare",.ref 250)])) _;generalize σ1.set σ.length (.sd [("may_compare",.ref 250)])=σ2 at *;lk;refine Be ?_;have y2:Ext [σ.length] σ1 (σ2++[aq.td []]):=y1.trans Ext.new;have hd2a:(σ2++[aq.td []])[σ.length]?=some (.sd [("may_compare",.ref 250)]):=Ext.new.bh hd1a;have he2:(σ2++[aq.td []])[σ2.length]?=some (.td []):=aZ;have hlt:σ.length+1<σ2.length:=by have:=bB (y1.get hi ni);omega
 generalize σ2++[aq.td []]=σ3 at *;generalize σ2.length=e at *;lk;refine iH (y2.get hi ni) hd2a (by simp) ?_;have y3:Ext [σ.length] σ1 (σ3.set σ.length (.sd [("may_compare",.ref 250),("entries",.obj e)])):=y2.trans Ext.set;have hd3:(σ3.set σ.length (.sd [("may_compare",.ref 250),("entries",.obj e)]))[σ.length]?=some (.sd [("may_compare",.ref 250),("entries",.obj e)]):=get_set (bB hd2a);have he3:(σ3.set σ.length (.sd [("may_compare",.ref 250),("entries",.obj e)]))[e]?=some (.td []):=Ext.set.get he2 (by simp;omega);show W _ (σ3.set σ.length (.sd [("may_compare",.ref 250),("entries",.obj e)])) _;generalize σ3.set σ.length (.sd [("may_compare",.ref 250),("entries",.obj e)])=σ4 at *;lk;refine iH (y3.get hi ni) hd3 (by simp) ?_;have y4:Ext [σ.length] σ1 (σ4.set σ.length (.sd (oU e 0))):=y3.trans Ext.set;have hd4:(σ4.set σ.length (.sd (oU e 0)))[σ.length]?=some (.sd (oU e 0)):=get_set (bB hd3);have he4:(σ4.set σ.length (.sd (oU e 0)))[e]?=some (.td []):=Ext.set.get he3 (by simp;omega);show W _ (σ4.set σ.length (.sd (oU e 0))) _;generalize σ4.set σ.length (.sd (oU e 0))=σ5 at *;lk;exact⟨rfl,e,rfl,⟨y4.get hi ni,hd4,he4⟩,hlt,y.fresh y4 (by simp)⟩
theorem CL{σ:ai}{ri:Nat}{row:List Int}(h:σ[ri]?=some (.list (row.map .int))):W (lH [.obj ri]) σ λv σ'=>v=.obj (σ.length+1)/\kj σ' (σ.length+1) σ.length ri row 0/\Ext [] σ σ':=by
 revert h;revert σ ri row;intros σ ri row;intro h;refine zR ?_;have y:Ext [] σ (σ++[aq.sd []]++[aq.inst 225 σ.length]):=Ext.new.trans Ext.new;have hi:(σ++[aq.sd []]++[aq.inst 225 σ.length])[σ.length+1]?=some (.inst 225 σ.length):=by simp
 have hd:(σ++[aq.sd []]++[aq.inst 225 σ.length])[σ.length]?=some (.sd []):=by simp
 generalize σ++[aq.sd []]++[aq.inst 225 σ.length]=σ1 at *;have ni:σ.length+1∉[σ.length]:=by simp
 refine fS ?_;unfold iX;lk;refine iH hi hd (by simp) ?_;have y1:Ext [σ.length] σ1 (σ1.set σ.length (.sd [("row",.obj ri)])):=Ext.set;have hd1a:(σ1.set σ.length (.sd [("row",.obj ri)]))[σ.length]?=some (.sd [("row",.obj ri)]):=get_set (bB hd);show W _ (σ1.set σ.length (.sd [("row",.obj ri)])) _;generalize σ1.set σ.length (.sd [("row",.obj ri)])=σ2 at *;lk;refine iH (y1.get hi ni) hd1a (by simp) ?_;have y2:Ext [σ.length] σ1 (σ2.set σ.length (.sd [("row",.obj ri),("taken",.int 0)])):=y1.trans Ext.set;have hd2a:(σ2.set σ.length (.sd [("row",.obj ri),("taken",.int 0)]))[σ.length]?=some (.sd [("row",.obj ri),("taken",.int 0)]):=get_set (bB hd1a);show W _ (σ2.set σ.length (.sd [("row",.obj ri),("taken",.int 0)])) _;generalize σ2.set σ.length (.sd [("row",.obj ri),("taken",.int 0)])=σ3 at *;lk;have z:=y.fresh y2 (by simp);exact⟨rfl,rfl,⟨y2.get hi ni,hd2a,z.bh h⟩,z⟩
noncomputable def s0:St:=⟨λu=>[],λu=>0,[],[],0⟩
theorem Li:dw s0 0 0:=⟨λn u=>⟨rfl,.nil,(λu h=>nomatch h),(λu h=>nomatch h)⟩,(λu h=>nomatch h),LP _,LP _⟩
theorem gc.ji{σ σ':ai}{re:Nat}(C:gc σ)(R:fP σ re)(y:Ext [re] σ σ'):gc σ':=by
 obtain⟨a,b,h⟩:=R;exact C.ext y (dj h rfl d8)
theorem F7{σ:ai}{first:Nat}{Q:V->ai->Prop}(q:∀ σ',Ext [] σ σ'->Q (.obj σ'.length) (σ'++[.list ((List.range 5).map (j9 first))])) :
  W (fR (gv (af (pure (.int 5)) (pure []))) cA (λp=>pure true) (λp=>aA (aG (pure (.ref 257)) (.ref 257) (pure []) j3) (bM .Mod (bM .Add (pure (.int first)) (bM .Mult (pure (.int 3)) (pure p))) (pure (.int 14))))) σ Q:=by
 revert q;revert σ first Q
 intros σ first Q
 intro q;refine jL ?_;lk;refine mG (n:=5) (by decide) ?_;refine sY (n:=5) (λi acc σ'=>i<=5/\acc=(List.range i).map (j9 first)/\Ext [] σ σ') ?_ ?_ ⟨LI _,rfl,Ext.refl⟩ (by decide) ?_
 ·intros i acc σ1;intro J;obtain⟨hi,rfl,y⟩:=J;by_cases h:i<5
  ·refine .inl ⟨h,.int i,kI (by lia),?_⟩;refine l9 (p:=.int i) rfl ?_;lk;rw[if_pos rfl];lk;refine HA.mono ?_;intros u σ2;intro z;injection z with z j hz;obtain⟨rfl,hj,y2⟩:=hz
   lk;refine cU (z:=3*(i:Int)) (show (if (3:Int).natAbs<2^64\/(i:Int).natAbs<2^64 then some (3*(i:Int)) else none)=_ from if_pos (.inl (by decide))) ?_;lk;refine cU (z:=first+3*(i:Int)) rfl ?_;lk;refine cU (z:=(((first+3*i) % 14:Nat):Int)) (by rw[tY (by decide)];congr 1;rw[Int.fmod_eq_emod_of_nonneg _ (by decide)];lia) ?_;refine bS (n:=(first+3*i) % 14) hj (v:=j9 first i) ?_ (by lia) ?_
   ·unfold j9;rw[List.getD_eq_getElem?_getD,List.getElem?_eq_getElem (show (first+3*i) % 14<Aw.length from Nat.mod_lt _ (by decide))];rfl
   ·refine⟨h,?_,y.trans y2⟩;rw[List.range_succ,List.map_append];rfl
  ·have e:i=5:=by lia
   subst e;exact .inr ⟨rfl,mK (by decide)⟩
 ·intros i acc σ1;intro J;obtain⟨hi,rfl,_⟩:=J;simp;lia
 ·intros acc σ1;intro J;obtain⟨_,rfl,y⟩:=J;exact q _ y
theorem GL{σ:ai}{re n:Nat}{Q:List V->ai->Prop}(hn:n<6)(R:fP σ re)(q:∀ σ' (row:List Int),row.length<=6->Ext [re] σ σ'->fP σ' re->Q (row.map .int) σ') :
  W (bV (.range n) (λv=>bR cA v (eg (λp=>pure true) (λp=>aG (pure (.ref 243)) (.ref 243) (af (pure (.obj re)) (af (pure (.int 6)) (pure []))) cD))) 1000 0 []) σ Q:=by
 revert hn R q;revert σ re n Q;intros σ re n Q;intro hn R q;refine sY (n:=n) (λi acc σ'=>i<=n/\∃ row:List Int,acc=row.map .int/\row.length=i/\Ext [re] σ σ'/\fP σ' re) ?_ ?_ ⟨LI _,[],rfl,rfl,Ext.refl,R⟩ (by lia) ?_
 ·intros i acc σ1;intro J;obtain⟨hi,hz⟩:=J;injection hz with hz row hz;obtain⟨rfl,hl,y,R1⟩:=hz
  by_cases h:i<n
  ·refine .inl ⟨h,.int i,kI (by lia),?_⟩;refine l9 (p:=.int i) rfl ?_;lk;rw[if_pos rfl];lk;refine(gf (m:=6) R1 (by decide) (by decide)).mono ?_;intros u σ2;intro z;injection z with z k hz;obtain⟨hk,rfl,y2,R2⟩:=hz
   refine⟨h,row++[(k:Int)],?_,by simp[hl],y.trans y2,R2⟩;rw[List.map_append];rfl
  ·have e:i=n:=by lia
   subst e;exact .inr ⟨rfl,mK (by lia)⟩
 ·intros i acc σ1;intro J;obtain⟨hi,hz⟩:=J;injection hz with hz row hz;obtain⟨rfl,hl,_⟩:=hz
  rw[List.length_map];lia
 ·intros acc σ1;intro J;obtain⟨_,hz⟩:=J;injection hz with hz row hz;obtain⟨rfl,hl,y,R1⟩:=hz
  exact q σ1 row (by lia) y R1
theorem Hg{σ:ai}{re ri first:Nat}{row:List Int}{Q:ay->ai->Prop}{f:V->M ay}(C:gc σ)(R:fP σ re)(hri:σ[ri]?=some (.list (row.map .int)))(hlt:re<ri)
 (k:∀ x σ',bL σ' x (j9 first) row s0->x.re=re->W (f (.obj x.bk)) σ' Q) :
  W (cQ (HZ ["keys","row","choices"] (af (fR (gv (af (pure (.int 5)) (pure []))) cA (λp=>pure true) (λp=>aA (aG (pure (.ref 257)) (.ref 257) (pure []) j3) (bM .Mod (bM .Add (pure (.int first)) (bM .Mult (pure (.int 3)) (pure p))) (pure (.int 14))))) (af (pure (.obj ri)) (af (aG (pure (.ref 225)) (.ref 225) (af (pure (.obj ri)) (pure [])) lH) (pure []))))) (λv3=>d7 (fE "dict" (pure v3) (af (HZ ["tables","log","walks","at"] (af (cG (af (aG (pure (.ref 156)) (.ref 156) (af (pure (.ref 250)) (pure [])) kH) (af (aG (pure (.ref 156)) (.ref 156) (af (pure (.ref 250)) (pure [])) kH) (pure [])))) (af (cG (pure [])) (af (cG (pure [])) (af (pure (.int 0)) (pure [])))))) (pure [])) sI) (f v3))) σ Q:=by
 revert C R hri hlt k;revert σ re ri first row Q f
 intros σ re ri first
 intros row Q f;intro C R hri hlt k;have b0:=bB hri;lk;refine F7 ?_;intros σ1;intro y1;have hk:(σ1++[aq.list ((List.range 5).map (j9 first))])[σ1.length]?=some (.list ((List.range 5).map (j9 first))):=aZ;have Y1:Ext [] σ (σ1++[aq.list ((List.range 5).map (j9 first))]):=y1.trans Ext.new;have b1:σ.length<=σ1.length:=y1.1;have b1':=bB hk;generalize σ1++[aq.list ((List.range 5).map (j9 first))]=σ2 at *;generalize σ1.length=ki at *;lk;refine(CL (Y1.bh hri)).mono ?_;intros u σ3;intro z;obtain⟨rfl,Ch,y3⟩:=z;have Y3:=Y1.trans y3;have b2:=bB Ch.inst;have hk3:=y3.bh hk;generalize σ2.length=cd at *;lk;refine W.run (a:=V.obj σ3.length) (σ':=σ3++[.sd [("keys",.obj ki),("row",.obj ri),("choices",.obj (cd+1))]]) rfl ?_;have hb:(σ3++[aq.sd [("keys",.obj ki),("row",.obj ri),("choices",.obj (cd+1))]])[σ3.length]?=some (.sd [("keys",.obj ki),("row",.obj ri),("choices",.obj (cd+1))]):=aZ;have y4:Ext [] σ3 (σ3++[aq.sd [("keys",.obj ki),("row",.obj ri),("choices",.obj (cd+1))]]):=Ext.new;have b3:=bB hb;have Ch4:=Ch.ext y4 (by simp) (by simp) (by simp);have hk4:=y4.bh hk3;have Y4:=Y3.trans y4;generalize σ3++[aq.sd [("keys",.obj ki),("row",.obj ri),("choices",.obj (cd+1))]]=σ4 at *;generalize σ3.length=bk at *;lk;refine KI hb ?_;lk;refine yi.mono ?_;intros u σ5;intro z;injection z with z e0 hz;obtain⟨rfl,T0,b4,y5⟩:=hz
 have b4':=bB T0.td;generalize σ4.length=d0 at *;lk;refine yi.mono ?_;intros u σ6;intro z;injection z with z e1 hz;obtain⟨rfl,T1,b5,y6⟩:=hz
 have b5':=bB T1.td;have T0:=T0.cO y6;generalize σ5.length=d1 at *;lk;refine dR (l:=[.obj (d0+1),.obj (d1+1)]) (by simp) ?_;have hti:(σ6++[aq.list [.obj (d0+1),.obj (d1+1)]])[σ6.length]?=some (.list [.obj (d0+1),.obj (d1+1)]):=aZ;have y7:Ext [] σ6 (σ6++[aq.list [.obj (d0+1),.obj (d1+1)]]):=Ext.new;have b6:=bB hti;generalize σ6++[aq.list [.obj (d0+1),.obj (d1+1)]]=σ7 at *;generalize σ6.length=ti at *;lk;refine dR (l:=[]) (by decide) ?_;have hlg:(σ7++[aq.list []])[σ7.length]?=some (.list []):=aZ;have y8:Ext [] σ7 (σ7++[aq.list []]):=Ext.new;have b7:=bB hlg;generalize σ7++[aq.list []]=σ8 at *;generalize σ7.length=lg at *;lk;refine dR (l:=[]) (by decide) ?_;have hwk:(σ8++[aq.list []])[σ8.length]?=some (.list []):=aZ;have y9a:Ext [] σ8 (σ8++[aq.list []]):=Ext.new;have b8:=bB hwk;generalize σ8++[aq.list []]=σ9 at *;generalize σ8.length=wk at *;lk;refine W.run (a:=V.obj σ9.length) (σ':=σ9++[.sd [("tables",.obj ti),("log",.obj lg),("walks",.obj wk),("at",.int 0)]]) rfl ?_;have hp:(σ9++[aq.sd [("tables",.obj ti),("log",.obj lg),("walks",.obj wk),("at",.int 0)]])[σ9.length]?=some (.sd [("tables",.obj ti),("log",.obj lg),("walks",.obj wk),("at",.int 0)]):=aZ;have y10:Ext [] σ9 (σ9++[aq.sd [("tables",.obj ti),("log",.obj lg),("walks",.obj wk),("at",.int 0)]]):=Ext.new;generalize σ9++[aq.sd [("tables",.obj ti),("log",.obj lg),("walks",.obj wk),("at",.int 0)]]=σ10 at *;generalize σ9.length=tp at *;have y4x:Ext [] σ4 σ10:=((((y5.trans y6).trans y7).trans y8).trans y9a).trans y10;have hb10:=y4x.bh hb
 let x:Ix:=⟨re,ri,ki,cd,cd+1,bk,ti,lg,wk,λn=>if n=0 then d0+1 else d1+1,λn=>if n=0 then d0 else d1,λn=>if n=0 then e0 else e1⟩
 lk;refine W.run (a:=V.none) (σ':=σ10.set bk (.sd (kB x 0))) (E9 hb10 hp ⟨by lia,by simp⟩) ?_;have yS:Ext [bk] σ10 (σ10.set bk (.sd (kB x 0))):=Ext.set;have hbS:(σ10.set bk (.sd (kB x 0)))[bk]?=some (.sd (kB x 0)):=get_set (bB hb10);generalize σ10.set bk (.sd (kB x 0))=σ11 at *;lk;have Y:=(Y4.trans y4x)
 have y7x:=(y8.trans y9a).trans y10;have y6x:=y7.trans y7x;have f1:=(R.ext Y (by simp)).ext yS (by simp;lia);have f2:=yS.get (y4x.bh hk4) (by simp;lia);have f3:=(Ch4.ext y4x (by simp) (by simp) (by simp)).ext yS (by simp;lia) (by simp;lia) (by simp;lia);have f4:=yS.get (y7x.bh hti) (by simp;lia);have f5:=yS.get ((y9a.trans y10).bh hlg) (by simp;lia);have f6:=yS.get (y10.bh hwk) (by simp;lia);have f7:=(T0.cO y6x).ext yS (by simp;lia) (by simp;lia) (by simp;lia);have f8:=(T1.cO y6x).ext yS (by simp;lia) (by simp;lia) (by simp;lia);refine k x σ11 ⟨?_,(C.ext Y d8).ext yS (dj hb10 rfl d8),f1,f2,f3,hbS,f4,f5,λn hn=>?_,f6,(λy h=>nomatch h),(λy h=>nomatch h)⟩ rfl
 ·show re<ri/\ri<ki/\ki<cd/\cd<cd+1/\cd+1<bk/\bk<d0/\d0<d0+1/\d0+1<e0/\e0<d1/\d1<d1+1/\d1+1<e1/\e1<ti/\ti<lg/\lg<wk;omega
 ·rcases(show n=0\/n=1 by lia) with hz|hz
  ·obtain rfl:=hz;exact f7
  ·obtain rfl:=hz;exact f8
theorem I4{it:It}{mi:V->M It}{g:V->V->M (Option V)}{n f1 fuel:Nat}{σ:ai}{Q:List V->ai->Prop}(J:Nat->ai->Prop)
 (next:∀ i σ,J i σ->(i<n/\∃ v,bF it i σ=some (.ok (some v),σ)/\W (mi v) σ λit1 σ'=>W (bV it1 (g v) f1 0 []) σ' λl σ''=>l=[]/\J (i+1) σ'')\/(i=n/\bF it i σ=some (.ok none,σ)))
 (h0:J 0 σ)(hf:n<fuel)(k:∀ σ',J n σ'->Q [] σ'):W (dX it mi g f1 fuel 0 []) σ Q:=by
 have key:∀ (fuel i:Nat) (σ:ai),i<=n->n - i<fuel->J i σ->W (dX it mi g f1 fuel i []) σ Q:=by
  intro fuel
  induction fuel with
  |zero=>intro i σ _ h;omega
  |succ f ih=>
   intro i σ hi hf hJ;rcases next i σ hJ with ⟨hlt,v,e,it1,σ',e',l,σ'',e'',rfl,hJ'⟩|⟨rfl,e⟩
   ·obtain⟨a,σ3,e2,q⟩:=ih (i+1) σ'' hlt (by omega) hJ';exact⟨a,σ3,(Cp e e' e'').trans e2,q⟩
   ·exact⟨[],σ,Dn e,k σ hJ⟩
 exact key fuel 0 σ (LI _) (by omega) h0
section
variable{σ:ai}{x:Ix}{key:Nat->V}{row:List Int}{s:St}{m B:Nat}
def Done(c:ay)(σ:ai):Prop:=gI c=.bool true/\∃ l,σ[(0:Nat)]?=some (.tab 297 l)
theorem F6(KK:gU key)(Z:bL σ x key row s)(H:dw s m B)(hm:m<=50) :
  W (bz (fU .Eq (EP (gv (af (pure (.int 2)) (pure []))) (λu=>gv (af (pure (.int 5)) (pure []))) (λu p=>m8 (jF (aG (pure (.ref 295)) (.ref 295) (af (pure (.obj x.bk)) (af (pure u) (af (pure p) (pure [])))) bQ))) (λu p=>pure (.int 1))) (cG (pure [])))) σ Done:=by
 revert KK Z H hm;revert σ x key row s m B;intros σ x key row;intros s m B;intro KK Z H hm;lk;refine C8 (W.bind ?_);lk;refine mG (n:=2) (by decide) ?_;refine I4 (n:=2) (λi σ'=>i<=2/\Ext [] σ σ') ?_ ⟨LI _,Ext.refl⟩ (by decide) ?_
 ·intros i σ1;intro J;obtain⟨hi,y⟩:=J;by_cases h:i<2
  ·refine .inl ⟨h,.int i,kI (by lia),?_⟩;lk;refine mG (n:=5) (by decide) ?_;refine sY (n:=5) (λj acc σ'=>j<=5/\acc=[]/\Ext [] σ σ') ?_ ?_ ⟨LI _,rfl,y⟩ (by decide) ?_
   ·intros j acc σ2;intro J;obtain⟨hj,rfl,y2⟩:=J;by_cases h':j<5
    ·refine .inl ⟨h',.int j,kI (by lia),?_⟩;refine l9 (p:=.int j) rfl ?_;lk;refine(sq KK (Z.cO y2) H hm h h').mono ?_;intros u σ3;intro z;obtain⟨rfl,y3⟩:=z;lk;refine dH ?_;lk;rw[if_neg (by decide)];exact⟨h',rfl,y2.trans y3⟩
    ·have e:j=5:=by lia
     subst e;exact .inr ⟨rfl,mK (by decide)⟩
   ·intros j acc σ2;intro J;rw[J.2.1];simp
   ·intros acc σ2;intro J;exact⟨J.2.1,h,J.2.2⟩
  ·have e:i=2:=by lia
   subst e;exact .inr ⟨rfl,mK (by decide)⟩
 ·intros σ1;intro J;have Z1:=Z.cO J.2;have hn:(σ1++[aq.list []])[σ1.length]?=some (.list []):=aZ;have Z2:=Z1.cO (Ext.new (o:=aq.list []));generalize σ1++[aq.list []]=σ2 at *;generalize σ1.length=li at *;lk;refine dR (l:=[]) (by decide) ?_;lk;refine aW (b:=true) (eq_nil hn) ?_;have Z3:=Z2.cO (Ext.new (o:=aq.list []));lk;injection Z3.code with x0 l hz;obtain⟨h0,_⟩:=hz
  exact⟨rfl,l,h0⟩
theorem Fq{f:M ay}(KK:gU key)(Z:bL σ x key row s)(H:dw s 11 11)(hr:row.length<=100)(k:∀ σ' s',bL σ' x key row s'->dw s' 11 500->W f σ' Done) :
  W (oE (i9 (aA (pure (.obj x.bk)) (pure (.str "walks")))) cA (λv5=>oE (gv (af (bM .Add (aG (pure (.bi "len")) (.bi "len") (af (aG (pure (.ref 276)) (.ref 276) (af (pure v5) (af (aA (pure (.obj x.bk)) (pure (.str "log"))) (pure []))) gb) (pure [])) c8) (pure (.int 2))) (pure []))) cA (λv6=>eH (m8 (jF (aG (pure (.ref 283)) (.ref 283) (af (pure (.obj x.bk)) (af (pure v5) (pure []))) fZ))) (bz (pure (.bool false))) (pure .next)) (pure .next)) f) σ Done:=by
 have hl:=H.len;refine o7 ?_;lk;refine bE Z.book rfl ?_;refine kJ Z.wks ?_;obtain⟨wls,hwls⟩:∃ wls,wls=s.ws.map (·.wl):=⟨_,rfl⟩
 have hN:wls.length=s.ws.length:=by rw[hwls,List.length_map]
 refine tu (n:=wls.length) (λi σ'=>i<=wls.length/\∃ s',bL σ' x key row s'/\dw s' 11 (11+13*i)/\s'.ws.map (·.wl)=wls) (λi σ1 J=>?_) ⟨LI _,s,Z,H,hwls.symm⟩ (by lia) λσ1 J=>⟨rfl,?_⟩
 ·obtain⟨hi,s₁,Z1,H1,e1a⟩:=J;have hw1a:σ1[x.wk]?=some (.list (wls.map λi=>V.obj i)):=by rw[Z1.wks,<- e1a,List.map_map];rfl
  by_cases h:i<wls.length
  ·refine .inl ⟨h,.obj wls[i],pK hw1a (by simp[h]),?_⟩;refine jr (g:=.obj wls[i]) rfl ?_;have find:∀ s':St,s'.ws.map (·.wl)=wls->∃ w∈s'.ws,w.wl=wls[i]:=λs' e=>by
    have:wls[i]∈s'.ws.map (·.wl):=by rw[e];exact List.getElem_mem h
    obtain⟨w,hw,e⟩:=List.mem_map.mp this;exact⟨w,hw,e⟩
   refine o7 ?_;obtain⟨w,hw,ew⟩:=find s₁ e1a;rw[<- ew];lk;refine bE Z1.book rfl ?_;lk;refine(r6 Z1 H1 (by decide) hw).mono λu σ2 z=>?_;obtain⟨li,rfl,hli,y⟩:=z;have hlen:((s₁.R w.n).filter (wf w)).length<=11:=by
    have:=List.length_filter_le (wf w) (s₁.R w.n);have:=(H1.rok _ (Z1.wat w hw).1).len;have:=H1.len.1;lia
   lk;refine iG hli (by rw[List.length_map];lia) ?_;rw[List.length_map];generalize ((s₁.R w.n).filter (wf w)).length=N at *;lk;refine cU (z:=((N+2:Nat):Int)) rfl ?_;lk;refine mG (by lia) ?_;refine tu (n:=N+2) (λj σ'=>j<=N+2/\∃ s',bL σ' x key row s'/\dw s' 11 (11+13*i+j)/\s'.ws.map (·.wl)=wls) (λj σ3 J=>?_) ⟨LI _,s₁,Z1.cO y,H1,e1a⟩ (by lia) λσ3 J=>⟨rfl,?_⟩
   ·obtain⟨hj,s3,Z3,H3,e3a⟩:=J;by_cases h':j<N+2
    ·refine .inl ⟨h',.int j,kI (by lia),?_⟩;refine jr (g:=.int j) rfl ?_;obtain⟨w3,hw3,ew3⟩:=find s3 e3a;rw[ew,<- ew3];lk;refine(tR KK Z3 H3 (by decide) (by lia) hr hw3).mono λu σ4 z=>?_;obtain⟨rfl,s4,Z4,H4,e4a,_⟩:=z;lk;refine dH ?_;lk;refine W.aS (by decide) ?_;lk;exact⟨rfl,h',s4,Z4,H4,e4a.trans e3a⟩
    ·have e:j=N+2:=by lia
     subst e;exact .inr ⟨rfl,mK (by lia)⟩
   ·obtain⟨_,s3,Z3,H3,e3a⟩:=J;exact W.pure ⟨rfl,h,s3,Z3,H3.mono (LP _) (by lia),e3a⟩
  ·have e:i=wls.length:=by lia
   subst e;exact .inr ⟨rfl,pK hw1a (by simp)⟩
 ·obtain⟨_,s₁,Z1,H1,_⟩:=J;exact k σ1 s₁ Z1 (H1.mono (LP _) (by lia))
theorem FE{f:M ay}(KK:gU key)(Z:bL σ x key row s0)(hr:row.length<=100)(k:∀ σ' s',bL σ' x key row s'->dw s' 11 11->W f σ' Done) :
  W (oE (gv (af (bM .Add (pure (.int 5)) (aG (pure (.ref 243)) (.ref 243) (af (pure (.obj x.re)) (af (pure (.int 7)) (pure []))) cD)) (pure []))) cA (λv4=>eH (kF (m8 (jF (aG (pure (.ref 309)) (.ref 309) (af (pure (.obj x.re)) (af (pure (.obj x.bk)) (af (pure v4) (pure [])))) l5))) (kF (m8 (jF (aG (pure (.ref 288)) (.ref 288) (af (pure (.obj x.bk)) (pure [])) kq))) (pure false))) (bz (pure (.bool false))) (pure .next)) f) σ Done:=by
 revert KK Z hr k;revert σ x key row f;intros σ x key row;intros f;intro KK Z hr k;refine o7 ?_;lk;refine(gf (m:=7) Z.reel (by decide) (by decide)).mono ?_;intros u σ1;intro z;injection z with z n hz;obtain⟨hn,rfl,y,hre⟩:=hz
 have Z1:=Z.ji y hre;clear y hre;lk;refine cU (z:=((5+n:Nat):Int)) rfl ?_;lk;refine mG (by lia) ?_;refine tu (n:=5+n) (λi σ'=>i<=5+n/\∃ s,bL σ' x key row s/\dw s i i) ?_ ⟨LI _,s0,Z1,Li⟩ (by lia) λσ2 J=>⟨rfl,?_⟩
 ·intros i σ2;intro J;obtain⟨hi,hz⟩:=J;injection hz with hz s2 hz;obtain⟨Z2,H2⟩:=hz
  by_cases h:i<5+n
  ·refine .inl ⟨h,.int i,kI (by lia),?_⟩;refine jr (g:=.int i) rfl ?_;lk;refine(Hx KK Z2 H2 (by lia) (by lia) hr).mono ?_;intros u σ3;intro z;obtain⟨rfl,hz⟩:=z;injection hz with hz s3 hz;obtain⟨Z3,H3⟩:=hz
   lk;refine dH ?_;lk;refine W.aS (by decide) ?_;lk;refine(ED KK Z3 H3 (by lia)).mono ?_;intros u σ4;intro z;obtain⟨rfl,y⟩:=z;lk;refine dH ?_;lk;refine W.aS (by decide) ?_;lk;refine W.aS (by decide) ?_;lk;exact⟨rfl,h,s3,Z3.cO y,H3⟩
  ·have e:i=5+n:=by lia
   subst e;exact .inr ⟨rfl,mK (by lia)⟩
 ·obtain⟨_,hz⟩:=J;injection hz with hz s2 hz;obtain⟨Z2,H2⟩:=hz
  exact k σ2 s2 Z2 (H2.mono (by lia) (by lia))
end
theorem IS(sc:Addr)(zs:List Int):W (zB sc zs [.ref sc]) [.tab 297 []] λv σ'=>v=.bool true/\∃ l,σ'[(0:Nat)]?=some (.tab 297 l):=by
 revert sc zs;intros sc zs;refine mh ?_;unfold zF;lk;refine Fl.mono ?_;intros u σ1;intro z;obtain⟨rfl,C1a⟩:=z;lk;refine dH ?_;lk;refine W.aS (by decide) ?_;lk;refine W.run (a:=V.int (zs.length:Nat)) (σ':=σ1) (if_pos rfl) ?_;lk;have fin:∃ l,σ1[(0:Nat)]?=some (.tab 297 l):=let⟨l,h,_⟩:=C1a
 ⟨l,h⟩
 cases zs with
 |nil=>
  refine aW (b:=true) rfl (W.aX rfl ?_);lk;refine W.aX rfl ?_;lk;exact⟨rfl,fin⟩
 |cons z r=>
  revert z r;intros z r;refine aW (b:=false) (by show some ((((z::r).length:Nat):Int)==(0:Int))=_;rw[fN,decide_eq_false (by simp only[List.length_cons];lia)]) (W.aS (by decide) ?_);lk;refine W.run (a:=V.int z) (σ':=σ1) (if_pos ⟨rfl,rfl⟩) ?_;lk;refine aW (b:=z==0) rfl ?_;by_cases h:(z==0)=true
  ·refine W.aX h ?_;lk;refine W.aX rfl ?_;lk;exact⟨rfl,fin⟩
  ·refine W.aS h ?_;lk;refine W.aS (by decide) ?_;lk;refine GQ.mono ?_;intros u σ2;intro z;injection z with z re hz;obtain⟨rfl,R2,y2⟩:=hz
   have C2a:=C1a.ext y2 d8;lk;refine(gf (m:=14) R2 (by decide) (by decide)).mono ?_;intros u σ3;intro z;injection z with z first hz;obtain⟨hf,rfl,y3,R3⟩:=hz
   have C3a:=C2a.ji R2 y3;lk;refine jL ?_;lk;refine(gf (m:=6) R3 (by decide) (by decide)).mono ?_;intros u σ4;intro z;injection z with z n hz;obtain⟨hn,rfl,y4,R4⟩:=hz
   have C4a:=C3a.ji R3 y4;lk;refine mG (by lia) ?_;refine GL hn R4 ?_;intros σ5 row;intro hrow y5 R5;have C5a:=C4a.ji R4 y5;have C6a:=C5a.ext (Ext.new (mods:=[]) (o:=aq.list (row.map V.int))) d8;have R6:=R5.ext (Ext.new (mods:=[]) (o:=aq.list (row.map V.int))) (by simp);have hri:(σ5++[aq.list (row.map V.int)])[σ5.length]?=some (.list (row.map V.int)):=aZ;have hlt:re<σ5.length:=by
    obtain⟨a,b,q⟩:=R5;exact bB q
   generalize σ5++[aq.list (row.map V.int)]=σ6 at *;generalize σ5.length=ri at *;lk;refine jr (g:=(.int first,.obj ri)) rfl ?_;refine Hg C6a R6 hri hlt ?_;intros x σ7;intro Z7 ex;revert C6a R6 hlt hri;revert σ6 ri;intros σ6 ri;intro C6a R6 hlt hri;subst ex;have KK:=Jg hf;exact FE KK Z7 (by lia) λσ8 s8a Z8 H8a=>Fq KK Z8 H8a (by lia) λσ9 s9a Z9 H9a=>F6 KK Z9 H9a (by decide)
theorem Gg(sc:Addr)(zs:List Int)(h:zs.length<=63):∃ σ' l,zB sc zs [.ref sc] [.tab 297 []]=some (.ok (.bool true),σ')/\σ'[(0:Nat)]?=some (.tab 297 l):=by
 obtain⟨v,σ',e,rfl,l,h0⟩:=IS sc zs;exact⟨σ',l,e,h0⟩
end
end
theorem Jb{prog:Program}{w:World}{s₁:Shared}{mg mb:Str->Option Value}{p:Program}{loose:List Str}{mean:ExcName->Option Value}{fa sc:Addr}{vs:List Value}{zs:List Int}{Rz:Result->Shared->Prop}
 (KX:(KK w).In s₁.heap)(T:Top p loose mean mg mb s₁.heap)(hT:TabsAt [(301,297)] s₁.heap)(hmg:mg (Str.ofString "law")=some (.ref fa))(hL:s₁.heap.IsList sc vs.toArray)(hI:IntsAre vs zs)(hlen:¬((63:Nat):Int)<zs.length)
 (k:∀ h' tk,(∀ b o,(ghostOf s₁.heap [(301,297)]).get? b=some o->h'.get? b=some o)->GrownAll [(301,297)] h'->Rz (.ok (.ret (.bool true))) {s₁ with heap:=h',toks:=tk}) :
  codeAny (model prog w) callerA (.call (.ref fa) ⟨[.ref sc],[]⟩) Rz s₁:=by
 have e:mg (Str.ofString "law")=some (.ref 319):=mg_of KX T.g (n:=Str.ofString "law") (show nsIn (KK w) mainGlobals (Str.ofString "law")=some (some (.ref 319)) from rfl);rw[hmg] at e;cases e;obtain⟨σ',l,h1,h2⟩:=Gg sc zs (by lia);exact GC KX T hT hL hI (by lia) h1 h2 k
theorem GP(args:List WData):PySem.Challenge.rw_xm0211_01.row.toRowW.claim.post args (.bool true) args=true:=
 postW_of rfl (w_eq_bool (w_res rfl) w_lit) rfl
set_option Elab.async true in
theorem all:PySem.Challenge.rw_xm0211_01.Holds:=by
 w_on;o_law;k_head;(case hw=>w_witness2)
 k_fill
 intro w s₀ s₁ mg mb G Y fa o pm cd doc dV kV ho hd hcd hD hmg hg args vals as hpre hlay hrd hwl hlo;have KX:=km_in_of Y
 km_tabs Y
 have X:=(Ground.X G).1;refine Ground.open G ?_;intro T B D TE TW
 km_lay T hmg ho hd cd
 wrow_args hpre hlay hrd hwl hlo
 refine enter_call ?_
 w_top on
 kn_posts
 (rename Heap.IsList _ _ _=>hL0)
 (rename IntsAre _ _=>hI0)
 (rename (¬_<_)=>hz0)
 refine Jb KX T hT9 hmg hL0 hI0 hz0 λh' tk hk hgr=>⟨⟨.inl ⟨_,_,[],rfl,λu=>rfl,.bool true,GP _,λu=>⟨List.nodup_nil,λu z=>nomatch z⟩⟩,hk,rfl,hg⟩,hgr⟩
end
end XM
theorem PySem.Challenge.cw_xm0211_01_holds : PySem.Challenge.rw_xm0211_01.Holds :=
 XM.all
