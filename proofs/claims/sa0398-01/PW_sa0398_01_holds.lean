import PyProof.Rows.All
import Wide.All
import OpenK.AllK
import Wide.FinOn
import Lean
import PySem.Challenge.RW_sa0398_01
set_option linter.all false
set_option genSizeOf false
set_option genInjectivity false
set_option genCtorIdx false
set_option backward.match.sparseCases false
set_option bootstrap.genMatcherCode false
set_option Elab.async false
set_option tactic.hygienic false
noncomputable section
namespace Mine
theorem Wn {α:Type u}(a b c:List α):a++b++c=a++(b++c):=List.append_assoc a b c
theorem Wo {α:Type u}{a b:List α}:(a++b).length=a.length+b.length:=List.length_append
theorem Wq {α:Type u}{β:Type v}{a:List α}(f:α→β):(a.map f).length=a.length:=List.length_map f
theorem Wr {α:Type u}(a:List α):a++[]=a:=List.append_nil a
theorem Ws {a b:Bool}(h:(a&&b)=true):a=true∧b=true:=Bool.and_eq_true_iff.mp h
theorem Wt {a b:Bool}(h:(a||b)=true):a=true∨b=true:=Bool.or_eq_true_iff.mp h
theorem Wu {α:Type u}{p:α→Bool}{l:List α}(h:l.all p=true):∀x∈l,p x=true:=List.all_eq_true.mp h
theorem Wv {α:Type u}{a b:α}{l:List α}(h:a∈b::l):a=b∨a∈l:=List.mem_cons.mp h
theorem Ww {α:Type u}{l:List α}(h:l.isEmpty=true):l=[]:=List.isEmpty_iff.mp h
theorem Wx {α:Type u}{a b:α}(h:a∈[b]):a=b:=List.mem_singleton.mp h
noncomputable def Wy:=@of_decide_eq_true
noncomputable def Wz:=@decide_eq_false
noncomputable def WA:=@decide_eq_true
noncomputable def WB:=@List.mem_append_right
noncomputable def WC:=@List.mem_append_left
noncomputable def WD:=@Nat.lt_of_le_of_lt
noncomputable def WE:=@if_pos
noncomputable def WG:=@if_neg
noncomputable def WH:=@List.Perm.append_left
noncomputable def WI:=@Nat.eq_of_beq_eq_true
noncomputable def WJ:=@congrArg
noncomputable def WK:=@absurd
noncomputable abbrev Sr:Nat:=140775542272043434877542736
noncomputable abbrev Ss:Nat:=573250097291244832402619815643210064
noncomputable abbrev Su:Nat:=2361506002138174999606649224783218
noncomputable abbrev Sv:Nat:=2239258192543907240882999720567120
noncomputable abbrev Sw:Nat:=604281392028412513422758886350414160
noncomputable abbrev Sy:Nat:=2361506002138174999606649543552095
noncomputable abbrev Sz:Nat:=7823724
noncomputable abbrev SA:Nat:=1871002859121401752671
noncomputable abbrev SD:Nat:=140775539984214824190239056
noncomputable abbrev SE:Nat:=146809059128068594451668643306493796718
noncomputable abbrev SG:Nat:=34521974176653585947335828660468187423056
noncomputable abbrev SH:Nat:=35724237002673864769143924050
noncomputable abbrev SI:Nat:=122641912527128594339490156
noncomputable abbrev SJ:Nat:=921438131318633082105143958744378548277126750624338393167563561313746337023872995897392914767969
noncomputable abbrev SK:Nat:=135925929874116368224379244
noncomputable abbrev SM:Nat:=125779768604014
noncomputable abbrev SN:Nat:=1718379891
noncomputable abbrev SR:Nat:=511885790367812086230111
noncomputable abbrev SS:Nat:=521404241352874967264351
noncomputable abbrev SU:Nat:=34181647731007215206584642655
noncomputable abbrev SV:Nat:=1934391615505518231416441023850820
noncomputable abbrev SW:Nat:=664704846953917166153588492746526461680172556624
noncomputable abbrev SY:Nat:=2073922663536136383583
noncomputable abbrev S0:Nat:=7628140
noncomputable abbrev S4:Nat:=34157698545542289362206897357660837476179
noncomputable abbrev S5:Nat:=36026477772479008029446334563
noncomputable abbrev S6:Nat:=8270485661980008269401475343730
noncomputable abbrev S7:Nat:=1999410601103902991730
noncomputable abbrev S8:Nat:=2074066507144840178783
noncomputable abbrev S9:Nat:=521550711818451849363384108277981520
noncomputable abbrev Ta:Nat:=526763521982629180104611630242819138
noncomputable abbrev Tb:Nat:=8391737036001864799
noncomputable abbrev Tc:Nat:=2463047295748378471939271719929895048632690034
noncomputable abbrev Td:Nat:=2361906161424506928736745522554226
noncomputable abbrev Te:Nat:=126197946943707829426547807
noncomputable abbrev Tf:Nat:=1954047348
noncomputable abbrev Tg:Nat:=8606222956556806468
noncomputable abbrev Th:Nat:=1871435187093124506994
noncomputable abbrev Ti:Nat:=9621278499017103406036356033901707500021106
noncomputable abbrev Tj:Nat:=435610544247
noncomputable abbrev Tn:Nat:=7094703641535276402
noncomputable abbrev To:Nat:=1925622500008988339295
noncomputable abbrev Tp:Nat:=2036987431596937732837977300820304
noncomputable abbrev Tr:Nat:=2037307468040809650885985238671696
noncomputable abbrev Ts:Nat:=2057189393161420124259340050915664
noncomputable abbrev Tt:Nat:=2239892019062372902394246153073513
noncomputable abbrev Tu:Nat:=2074066471986171896144
noncomputable abbrev Tv:Nat:=2203193130776153710956
noncomputable abbrev Tw:Nat:=1701080942
noncomputable abbrev Tx:Nat:=2035957488151925168168955884498758
noncomputable abbrev Tz:Nat:=2057189393161365235510756520322418
noncomputable abbrev TA:Nat:=2462128850054797927557948724307314
noncomputable abbrev TB:Nat:=34177684928883046
noncomputable abbrev TF:Nat:=31066245671115939653046395216
noncomputable abbrev TG:Nat:=2129330456417063429484
noncomputable abbrev TH:Nat:=2148064269765532675138
noncomputable abbrev TJ:Nat:=114776364119923
noncomputable abbrev TK:Nat:=474147942228
noncomputable abbrev TL:Nat:=8388343943118548063
noncomputable abbrev TM:Nat:=7499622
noncomputable abbrev TN:Nat:=2574725234261574258840353268082116886705498476
noncomputable abbrev TP:Nat:=29793
noncomputable abbrev TR:Nat:=10056170002755344602684534006464855042911849
noncomputable abbrev TU:Nat:=10056172630098119840514617383743892130852457
noncomputable abbrev TV:Nat:=1870858745032837524575
noncomputable abbrev TY:Nat:=2074065092073375231071
noncomputable abbrev TZ:Nat:=2129981791643558307186
noncomputable abbrev Ua:Nat:=35403866660697890217903355731
noncomputable abbrev Ub:Nat:=9618210599183170112025157406784662535368297
noncomputable abbrev Uc:Nat:=2036988673093140504556494378853746
noncomputable abbrev Ud:Nat:=2036988673093196564809402514761074
noncomputable abbrev Ue:Nat:=2057827235821110728035602725693539
noncomputable abbrev Ug:Nat:=2239892019099894517433293034579314
noncomputable abbrev Uh:Nat:=479125093479839418117215
noncomputable abbrev Ui:Nat:=500152823651
noncomputable abbrev Uj:Nat:=507126748530006368021599
noncomputable abbrev Uk:Nat:=32453705961925028560411692162118578959443
noncomputable abbrev Ul:Nat:=34157698545542289362206897364322349245778
noncomputable abbrev Um:Nat:=135878798933617795386204496
noncomputable abbrev Un:Nat:=7496054
noncomputable abbrev Uo:Nat:=1684957547
noncomputable abbrev Up:Nat:=1702060387
noncomputable abbrev Uq:Nat:=133428509943524567821120692790628018263
noncomputable abbrev Ur:Nat:=133428509943524567821120692820574888268
noncomputable abbrev Us:Nat:=133428509943524567821120692867988351060
noncomputable abbrev Ut:Nat:=133516982225504349517970989084499403088
noncomputable abbrev Uu:Nat:=134819964070208677500967170059720089936
noncomputable abbrev Uv:Nat:=134819964070223232074419162452568727888
noncomputable abbrev Uw:Nat:=146752024906539353176015330169997910352
noncomputable abbrev Ux:Nat:=8586795105461354595809677632882
noncomputable abbrev Uy:Nat:=1871002853623843613791
noncomputable abbrev Uz:Nat:=1999410601104221760607
noncomputable abbrev UA:Nat:=2000059137042749156447
noncomputable abbrev UB:Nat:=2109951729986653481059
noncomputable abbrev UC:Nat:=2239293144207227710559
noncomputable abbrev UD:Nat:=32770348699510116
noncomputable abbrev UE:Nat:=7094703641854045279
noncomputable abbrev UG:Nat:=35403866660697896879415125330
noncomputable abbrev UH:Nat:=448345170275
noncomputable abbrev UI:Nat:=495204253569412667242607794306834768
noncomputable abbrev UJ:Nat:=495773380719
noncomputable abbrev UK:Nat:=507127470230747142515807
noncomputable abbrev UL:Nat:=521205116966892843051252706398008650
noncomputable abbrev UM:Nat:=540220133372465500747082
noncomputable abbrev UN:Nat:=599353240629052006786717748882072908
noncomputable abbrev UO:Nat:=1734437188
noncomputable abbrev UP:Nat:=2035957488151925168168955884495190
noncomputable abbrev UQ:Nat:=2035957488151925168168955884627276
noncomputable abbrev UR:Nat:=2035957488151925168168955884958292
noncomputable abbrev US:Nat:=2057670007744645234783639332287571
noncomputable abbrev UT:Nat:=2361902148966765883048005020181876
noncomputable abbrev UU:Nat:=129815003611010304819161187
noncomputable abbrev UW:Nat:=138296354143351120929056855
noncomputable abbrev UX:Nat:=138296354143351150875926860
noncomputable abbrev UY:Nat:=138296354143351198289389652
noncomputable abbrev UZ:Nat:=7310870969309884259
noncomputable abbrev U0:Nat:=8245922002949467231
noncomputable abbrev U1:Nat:=8751184979307883615
noncomputable abbrev U2:Nat:=1871435187093376364133
noncomputable abbrev U3:Nat:=2110234895986193490262
noncomputable abbrev U4:Nat:=2110234895986193493830
noncomputable abbrev U5:Nat:=2147419438030474275935
noncomputable abbrev U6:Nat:=2148284627323327703364
noncomputable abbrev U7:Nat:=7952958938093457688159983920713
noncomputable abbrev U8:Nat:=7952958938093457688159983923012
noncomputable abbrev U9:Nat:=9224632801906935502231461783651
noncomputable abbrev Va:Nat:=110425311047777
noncomputable abbrev Vb:Nat:=128026154263411
noncomputable abbrev Vc:Nat:=1684104562
noncomputable abbrev Vd:Nat:=1685221239
noncomputable abbrev Ve:Nat:=1701080910
noncomputable abbrev Vf:Nat:=1885693284
noncomputable abbrev Vg:Nat:=488439906859765738072163
noncomputable abbrev Vh:Nat:=492960727974982845556082
noncomputable abbrev Vi:Nat:=495655677030
noncomputable abbrev Vj:Nat:=573517663006246496726111
noncomputable abbrev Vk:Nat:=2854311653289565413066136393971553852569616966440404590689
noncomputable abbrev Vl:Nat:=36031379441370027042110857552
noncomputable abbrev Vm:Nat:=36963447045179020103745889650
noncomputable abbrev Vn:Nat:=7954882443257803625
noncomputable abbrev Vo:Nat:=8241998945142793586
noncomputable abbrev Vp:Nat:=8390876053923263571
noncomputable abbrev Vq:Nat:=8747515909005995103
noncomputable abbrev Vr:Nat:=1907968386171161111647
noncomputable abbrev Vs:Nat:=1937207154
noncomputable abbrev Vt:Nat:=2018005687988215966815
noncomputable abbrev Vu:Nat:=2036449905473997791589
noncomputable abbrev Vv:Nat:=2110234895986193622348
noncomputable abbrev Vw:Nat:=2110234895986193953364
noncomputable abbrev Vx:Nat:=2129617567422059998303
noncomputable abbrev Vy:Nat:=2147419438030155507058
noncomputable abbrev Vz:Nat:=2148137492790691064927
noncomputable abbrev VA:Nat:=133545856576495911533961552
noncomputable abbrev VB:Nat:=138296632068398385073319007
noncomputable abbrev VC:Nat:=435459026032
noncomputable abbrev VD:Nat:=125780054139216
noncomputable abbrev VF:Nat:=128034844732777
noncomputable abbrev VG:Nat:=7959156
noncomputable abbrev VH:Nat:=1701603686
noncomputable abbrev VI:Nat:=530960880869448967086446
noncomputable abbrev VJ:Nat:=544925065878074752332915
noncomputable abbrev VL:Nat:=549904462056163138168178
noncomputable abbrev VM:Nat:=564017139462642695561552
noncomputable abbrev VN:Nat:=7236833111930137695
noncomputable abbrev VP:Nat:=8243105062446065225
noncomputable abbrev VQ:Nat:=8243105062446067524
noncomputable abbrev VR:Nat:=126909394608492
noncomputable abbrev VS:Nat:=1936159329
noncomputable abbrev VT:Nat:=2074479148386890178896
noncomputable abbrev VU:Nat:=9093520387339072909654712794166345591693409
noncomputable abbrev VW:Nat:=461195539042
noncomputable abbrev VX:Nat:=495655676228
noncomputable abbrev VY:Nat:=499984201569
noncomputable abbrev VZ:Nat:=28516
noncomputable abbrev V0:Nat:=3026478
noncomputable abbrev V1:Nat:=7955995183301815393
noncomputable abbrev V2:Nat:=110386891156579
noncomputable abbrev V3:Nat:=121437875889522
noncomputable abbrev V4:Nat:=26223
noncomputable abbrev V6:Nat:=500069396323
noncomputable abbrev V8:Nat:=511813157447760619728489
noncomputable abbrev V9:Nat:=512970877044
noncomputable abbrev Wa:Nat:=545146212037154039753823
noncomputable abbrev Wb:Nat:=2032171047
noncomputable abbrev Wc:Nat:=28258992461540454
noncomputable abbrev We:Nat:=28832903154722156
noncomputable abbrev Wf:Nat:=1925627852534604328553
noncomputable abbrev Wg:Nat:=2203193151619530518382
noncomputable abbrev Wh:Nat:=28519
noncomputable abbrev Wi:Nat:=128034844735589
noncomputable abbrev Wj:Nat:=1702063205
noncomputable abbrev Wk:Nat:=1935960427
noncomputable abbrev Wl:Nat:=26217
noncomputable abbrev Wm:Nat:=465558725996
open PySem
set_option genCtorIdx true
@[elab_as_elim] theorem aa {α:Sort u}{a b:α}{P:α→Prop}(h:a=b)(p:P b):P a:=h▸p
@[elab_as_elim] theorem fF {α:Sort u}{a b:α}{P:α→Prop}(h:b=a)(p:P b):P a:=h▸p
theorem cH {α:Type u}{a b:α}(h:some a=some b):a=b:=Option.some.inj h
theorem OU {α:Type u}{β:Type v}{a c:α}{b d:β}(h:some (a,b)=some (c,d)):a=c∧b=d:=Prod.mk.inj (cH h)
theorem lj {α:Type u}{β:Type v}{a c:α}{b d:β}(h:(a,b)=(c,d)):a=c∧b=d:=Prod.mk.inj h
theorem ig {α:Type u}{a:α}{P:Prop}(h:none=some a):P:=nomatch h
theorem AZ {α:Type u}{a:α}{P:Prop}(h:some a=none):P:=nomatch h
theorem jN {P:Prop}(h:true=false):P:=nomatch h
theorem bK {P:Prop}(h:false=true):P:=nomatch h
theorem lB {a b c d:Nat}(h:c≤d)(e:a+d≤b+c:=by simp+arith):a≤b:=Nat.le_of_add_le_add_right (Nat.le_trans e (Nat.add_le_add_left h b))
theorem lS {a b c d:Nat}(h:c=d)(e:a+d≤b+c:=by simp+arith):a≤b:=lB (Nat.le_of_eq h) e
theorem lD {a b c d x y:Nat}(h:c≤d)(k:x≤y)(e:a+(d+y)≤b+(c+x):=by simp+arith):a≤b:=lB (Nat.add_le_add h k) e
theorem lE {a b c d:Nat}(h:c=d)(e:a+d=b+c:=by simp+arith):a=b:=Nat.add_right_cancel (e.trans (h▸rfl))
theorem zB {a b c d:Int}(h:c≤d)(e:a+d≤b+c:=by simp+arith):a≤b:=Int.le_of_add_le_add_right (Int.le_trans e (Int.add_le_add_left h b))
theorem d3 {n:Nat}(h:n<3):n=0∨n=1∨n=2:=(by decide: ∀n<3,n=0∨n=1∨n=2) n h
theorem d4 {n:Nat}(h:n<4):n=0∨n=1∨n=2∨n=3:=(by decide: ∀n<4,n=0∨n=1∨n=2∨n=3) n h
theorem d5 {n:Nat}(h:n<5):n=0∨n=1∨n=2∨n=3∨n=4:=(by decide: ∀n<5,n=0∨n=1∨n=2∨n=3∨n=4) n h
theorem d6 {n:Nat}(h:n<6):n=0∨n=1∨n=2∨n=3∨n=4∨n=5:=(by decide: ∀n<6,n=0∨n=1∨n=2∨n=3∨n=4∨n=5) n h
theorem d8 {n:Nat}(h:n<8):n=0∨n=1∨n=2∨n=3∨n=4∨n=5∨n=6∨n=7:=(by decide: ∀n<8,n=0∨n=1∨n=2∨n=3∨n=4∨n=5∨n=6∨n=7) n h
abbrev N:=Nat
abbrev pw:Program:=PySem.Challenge.pw_sa0398_01
noncomputable def bt {α:Type}:List (N×α)→N→Option α
 |[],_=>none
 |p::r,x=>if p.1=x then some p.2 else bt r x
theorem aZ {α:Type}{x:N}{a:α}: ∀{l:List (N×α)},bt l x=some a→(x,a)∈l
 |p::r,e=>by
  by_cases h:p.1=x
  ·rw [bt,WE h] at e;cases e;rw [←h];exact .head _
  ·rw [bt,WG h] at e;exact .tail _ (aZ e)
noncomputable def NR (s:N):Option N:=if s%256=0 then none else some (s%256)
noncomputable def Pa (s:N):Option N:=if s=0∨2^800≤s then none else some (s / 256)
noncomputable def Ht (s:N):Option Nat:=if 0<s∧s<256 then some s else none
noncomputable def y9:List Nat→Nat
 |[]=>0
 |c::r=>c+256*y9 r
noncomputable def dk (s:Str):N:=y9 s.cps.toList
inductive V where
 |none
 |bool (b:Bool)
 |int (i:Int)
 |str (n:N)
 |au (l:List V)
 |list (l:List V)
 |aO (c:N) (l:List V)
 |obj (k:Nat)
inductive PB where
 |dt (i:Nat)
 |mt (i j:Nat)
noncomputable def Jv:List (N×V):=[(76198110453579,(.int 8)),(74003717185355,(.int 27)),(1407452938220073803595,(.int 32)),(22031267768852299,(.int 33)),(6071222052542439243,(.int 34)),(6071222087169695563,(.int 35)),(75103027224395,(.int 36)),(353283497803,(.int 41)),(83851808628555,(.int 42)),(6076290827284733771,(.int 43)),(1179213643,(.int 44)),(19505651023044427,(.int 45)),(1329880907,(.int 46)),(353517330251,(.int 47)),(19790463305670475,(.int 48)),(22035666049589067,(.int 49)),(5207098268144852811,(.int 50)),(76223879536459,(.int 51)),(5643667103477292875,(.int 52)),(21182389241929547,(.int 53)),(327416901696974403886923,(.int 54)),(21468249095692107,(.int 55)),(24575537793228619,(.int 56)),(383633350475,(.int 57)),(20340227474415435,(.int 58)),(21184631114194763,(.int 59)),(25143976797757259,(.int 60)),(23453962984447819,(.int 61)),(83733484213315229543128907,(.int 64)),(23434206134755147,(.int 65)),(85028780728139,(.int 66)),(92716622044998,(.int 8192)),(78401427889990,(.int 2097152)),(1555166496849066549062,(.int 4194304)),(293370945364,(.int 0)),(76198110453588,(.int 1)),(75120309133140,(.int 2)),(332143681364,(.int 3)),(353602068308,(.int 4)),(86068079845204,(.int 5)),(83776243911629204220043092,(.int 6)),(5784105456386982221,(.int 40)),(398012086847384418009421,(.int 160)),(1278615092650333847888,(.int 1)),(1518422467640906891600,(.int 2)),(1555098672499468157264,(.int 3)),(355419132083166361305424,(.int 4)),(1241576348021769257296,(.int 5)),(393492203046085856477520,(.int 6)),(24239290082158357293019840848,(.int 10)),(1537155748778621163343,(.au [(.int 3),(.int 4),(.int 5),(.int 6)])),(393216727730493953363788,(.au [(.str Tj),(.str VZ),(.str TM)])),(7954217430886319514163792145503,(.au [(.str VW),(.str Up),(.str UH),(.str Ui),(.str UZ),(.str UD),(.str VZ),(.str Wj),(.str Wi),(.str TB),(.str TM),(.str Wl),(.str VF),(.str 28265),(.str V3),(.str TJ),(.str V9),(.str VG),(.str Un),(.str Tj)])),(Wa,(.au [(.au [(.au [(.str 97),(.str 98)]),(.int 1005),(.au [(.str 59)])]),(.au [(.au [(.str V9),(.str 47),(.str 97)]),(.int 1142),(.au [])]),(.au [(.au [(.str TJ),(.str 40),(.str 97),(.str 41),(.str 123),(.str 98)]),(.int 1130),(.au [])]),(.au [(.au [(.str S0),(.str 61)]),(.int 1005),(.au [(.str 59)])]),(.au [(.au [(.str VG),(.str 123),(.str 125),(.str 97)]),(.int 1005),(.au [(.str TB)])]),(.au [(.au [(.str VG),(.str 123),(.str 125),(.str UH),(.str 40),(.str 41)]),(.int 1003),(.au [])]),(.au [(.au [(.str 6711591)]),(.int 1003),(.au [])]),(.au [(.au [(.str TM),(.str 40),(.str 97),(.str V4)]),(.int 9002),(.au [(.str SJ)])]),(.au [(.au [(.str 125)]),(.int 1128),(.au [])]),(.au [(.au [(.str VF)]),(.int 1128),(.au [])]),(.au [(.au [(.str Wl),(.str 97)]),(.int 1005),(.au [(.str 40)])]),(.au [(.au [(.str VZ),(.str 59),(.str 97)]),(.int 1005),(.au [(.str Tj)])]),(.au [(.au [(.str 113),(.str 58),(.str 0)]),(.int 1003),(.au [])]),(.au [(.au [(.str 123),(.str 97),(.str 59),(.str 0)]),(.int 1005),(.au [(.str 125)])]),(.au [(.au [(.str TM),(.str 40),(.str S0),(.str 97),(.str 47),(.str 33)]),(.int 1005),(.au [(.str 59)])]),(.au [(.au [(.str UH)]),(.int 1003),(.au [])]),(.au [(.au [(.str Tj),(.str 40),(.str 97),(.str 98)]),(.int 1005),(.au [(.str 41)])]),(.au [(.au [(.str TM),(.str 40),(.str 97),(.str 59),(.str 98),(.str 59),(.str 99),(.str 59)]),(.int 1005),(.au [(.str 41)])]),(.au [(.au [(.str VG),(.str 123),(.str 125),(.str UH),(.str 40),(.str 123)]),(.int 9002),(.au [(.str VU)])]),(.au [(.au [(.str Wi)]),(.int 1128),(.au [])]),(.au [(.au [(.str VG),(.str 123),(.str 125),(.str UH),(.str 40),(.str 97),(.str 58)]),(.int 9002),(.au [(.str Vk)])]),(.au [(.au [(.str TM),(.str VY)]),(.int 9002),(.au [(.str 2147415794256071257958)])]),(.au [(.au [(.str TM),(.str 40),(.str 123),(.str 125),(.str 28265)]),(.int 9002),(.au [(.str SJ)])]),(.au [(.au [(.str Ui),(.str 61)]),(.int 1003),(.au [])]),(.au [(.au [(.str TJ),(.str 40),(.str 97),(.str 41),(.str 98)]),(.int 1005),(.au [(.str 123)])]),(.au [(.au [(.str VW),(.str 97),(.str 98)]),(.int 1005),(.au [(.str 59)])]),(.au [(.au [(.str UZ),(.str 28265)]),(.int 1005),(.au [(.str 59)])]),(.au [(.au [(.str S0),(.str 91),(.str 97),(.str 93),(.str 33)]),(.int 1005),(.au [(.str 59)])]),(.au [(.au [(.str Un),(.str 97),(.str 33),(.str 33)]),(.int 1005),(.au [(.str 59)])]),(.au [(.au [(.str TM),(.str 40),(.str Un),(.str 97),(.str 98)]),(.int 1005),(.au [(.str 59)])]),(.au [(.au [(.str TJ),(.str 40),(.str 97),(.str 41),(.str 123),(.str 0)]),(.int 1130),(.au [])]),(.au [(.au [(.str VG),(.str 123),(.str 125),(.str 0)]),(.int 1005),(.au [(.str TB)])]),(.au [(.au [(.str Wl),(.str 40),(.str 97),(.str 41),(.str 0)]),(.int 1003),(.au [])]),(.au [(.au [(.str VZ),(.str 97),(.str Tj)]),(.int 1005),(.au [(.str 59)])]),(.au [(.au [(.str TJ),(.str 40),(.str 97),(.str 41),(.str 123),(.str Up),(.str 98),(.str 59)]),(.int 1005),(.au [(.str 58)])]),(.au [(.au [(.str TM),(.str 40),(.str S0)]),(.int 1123),(.au [])])]))]
noncomputable def wR:List (N×List N):=[(Ve,[Uo,97,Wk,Vi,TP,6580590]),(UO,[SM,TP,VS,VH]),(TK,[Uo,Tf,7173486,TP,6581861,SI]),(TH,[]),(U3,[]),(Vv,[]),(VP,[]),(UW,[]),(VQ,[]),(U4,[]),(Ua,[]),(UG,[]),(UM,[]),(UX,[]),(UY,[]),(Vw,[]),(SD,[])]
noncomputable def gP (c:N):Option (List N):=bt wR c
noncomputable def Dt:List (N×N):=[(VD,UI),(VX,SV),(Vp,Uk)]
noncomputable def Dq (c:N):Option N:=bt Dt c
noncomputable def v3:List (N×List N):=[(Ve,[Uo,97,Wk,Vi,TP,6580590]),(UO,[SM,TP,VS,VH]),(VX,[Vs,VH]),(TK,[Uo,Tf,7173486,TP,6581861,SI]),(VD,[126917985136500,495655676260,TP,495874892144,126943990278502,495740084596,495623108980,Vf,29113321536775536,V1,27987473202114153,31647721741839977,Wf,VR,28268922358689646,32195222481167730,V8,126935165726563,126862284910435,Wg,126943822114931,431198986611]),(Vp,[495606460279])]
noncomputable def pE:List (N×List (N×N)):=[(UO,[(7827314,Tg)]),(VX,[(7632240,U6)]),(VD,[(7827310,VM),(431130765409,TF),(1885697139,Um),(31075950043034473,Sv),(28273320740746089,Tr),(28549237878780777,Ts),(7955443211016888677,Ss),(7237970109631062373,S9),(2036593462020055328110,Uw),(1852920348065283794286,Ut),(1871002853623525107054,Uu),(1871002853623727092336,Uv),(500035838310,Vl),(8386088934781051238,Sw),(28268879342887267,Tp),(9224632820852246092213473537637,SW),(1853321060,VA),(28789,VT),(1953653104,Sr)]),(Vp,[(435728572784,US)]),(TH,[(435728572784,Ta)]),(U3,[(UJ,SH),(Vc,UP)]),(Vv,[(UJ,UN),(Vc,UQ)]),(VP,[(UJ,SH),(Vc,U7)]),(UW,[(UJ,SH),(Vc,Uq)]),(VQ,[(UJ,SH),(Vc,U8)]),(U4,[(UJ,SH),(Vc,Tx)]),(Ua,[(UJ,SH),(Vc,S4)]),(UG,[(UJ,SH),(Vc,Ul)]),(UM,[(UJ,SH),(Vc,UL)]),(UX,[(UJ,SH),(Vc,Ur)]),(UY,[(UJ,SH),(Vc,Us)]),(Vw,[(UJ,SH),(Vc,UR)]),(SD,[(435728572784,SG)])]
noncomputable def gU (c n:N):Option N:=match bt pE c with
 |some l=>bt l n
 |none=>none
noncomputable def Cp:List N:=[1717658988,1734965108,Wc,SE,VL,Vn,S5,Vu,VI,TN,Tz,Su,TZ,Ug,Tt,Tn,TA,TG,S7,Vo,UB,U9,Vg,Vm,Td,Ux,S6,Th,U2,Tv,UU,Ue,SK,Vh,VJ,Ub,TU,TR,Vy,UT,Tc,Ud,Ti,Uc,TV,TL,UA,Tb,VN,Uy,Vq,U5,Vt,Vj,SU,Uh,Vz,Uz,Vx,Vr,Uj,UE,UC,UK,S8,SY,SS,To,U0,TY,Te,U1,SR,Sy,SA,VB,Sz]
noncomputable def uk:List N:=[Ve,UO,VX,TK,VD,Vp,TH,U3,Vv,VP,UW,VQ,U4,Ua,UG,UM,UX,UY,Vw,SD]
noncomputable def w9 (x:N):Option V:=bt Jv x
noncomputable def Ja:List (N×PB):=[(1717658988,.dt 37),(1734965108,.dt 38),(Wc,.dt 39),(SE,.dt 40),(Tg,.mt 46 1),(SV,.mt 47 0),(U6,.mt 47 1),(UI,.mt 69 0),(VM,.mt 69 1),(TF,.mt 69 2),(Um,.mt 69 3),(Sv,.mt 69 4),(Tr,.mt 69 5),(Ts,.mt 69 6),(Ss,.mt 69 7),(S9,.mt 69 8),(Uw,.mt 69 10),(Ut,.mt 69 11),(Uu,.mt 69 12),(Uv,.mt 69 13),(Vl,.mt 69 15),(Sw,.mt 69 16),(Tp,.mt 69 17),(SW,.mt 69 18),(VA,.mt 69 19),(VT,.mt 69 20),(Sr,.mt 69 21),(VL,.dt 70),(Vn,.dt 71),(S5,.dt 72),(Vu,.dt 73),(VI,.dt 74),(TN,.dt 75),(Tz,.dt 76),(SH,.mt 79 0),(Uk,.mt 80 0),(US,.mt 80 1),(Ta,.mt 81 0),(Su,.dt 82),(TZ,.dt 83),(Ug,.dt 84),(Tt,.dt 85),(Tn,.dt 86),(TA,.dt 87),(TG,.dt 88),(S7,.dt 89),(Vo,.dt 90),(UB,.dt 91),(U9,.dt 92),(Vg,.dt 93),(Vm,.dt 94),(UP,.mt 95 0),(UN,.mt 96 0),(UQ,.mt 96 1),(U7,.mt 97 0),(Uq,.mt 98 0),(U8,.mt 99 0),(Tx,.mt 100 0),(Td,.dt 101),(Ux,.dt 102),(S6,.dt 103),(S4,.mt 104 0),(Th,.dt 105),(U2,.dt 106),(Ul,.mt 107 0),(UL,.mt 108 0),(Tv,.dt 109),(UU,.dt 110),(Ue,.dt 111),(Ur,.mt 112 0),(SK,.dt 113),(Us,.mt 114 0),(UR,.mt 115 0),(Vh,.dt 116),(VJ,.dt 117),(Ub,.dt 118),(TU,.dt 119),(TR,.dt 120),(SG,.mt 122 0),(Vy,.dt 123),(UT,.dt 124),(Tc,.dt 125),(Ud,.dt 126),(Ti,.dt 127),(Uc,.dt 128),(TV,.dt 132),(TL,.dt 133),(UA,.dt 134),(Tb,.dt 135),(VN,.dt 136),(Uy,.dt 137),(Vq,.dt 138),(U5,.dt 139),(Vt,.dt 140),(Vj,.dt 141),(SU,.dt 142),(Uh,.dt 143),(Vz,.dt 144),(Uz,.dt 145),(Vx,.dt 146),(Vr,.dt 147),(Uj,.dt 148),(UE,.dt 149),(UC,.dt 150),(UK,.dt 151),(S8,.dt 152),(SY,.dt 153),(SS,.dt 154),(To,.dt 155),(U0,.dt 156),(TY,.dt 157),(Te,.dt 158),(U1,.dt 159),(SR,.dt 160),(Sy,.dt 161),(SA,.dt 162),(VB,.dt 163),(Sz,.dt 164)]
noncomputable def Jb:List (N×List V):=[(SV,[(.str 0)])]
noncomputable def fC:List Stmt→Nat→Stmt
 |[],_=> .Pass default
 |s::r,n=>if n=0 then s else fC r (n - 1)
noncomputable def dt (i:Nat):Stmt:=fC pw.main.body i
noncomputable def mt (i j:Nat):Stmt:=match dt i with
 | .ClassDef _ _ _ b _ _ _ _ _ _ _=>fC b j
 |s=>s
noncomputable def Oe:PB→Stmt
 | .dt i=>dt i
 | .mt i j=>mt i j
noncomputable def ES (f:N):Stmt:=match bt Ja f with
 |some l=>Oe l
 |none=> .Pass default
noncomputable def IM:Stmt→List Stmt
 | .FunctionDef _ _ b _ _ _ _ _ _ _=>b
 |_=>[]
noncomputable def KX:Stmt→List (Str×NameKind)
 | .FunctionDef _ _ _ _ _ _ s _ _ _=>s.names
 |_=>[]
noncomputable def Oy:Stmt→List Str
 | .FunctionDef _ a _ _ _ _ _ _ _ _=>a.args.map (·.arg)
 |_=>[]
noncomputable def jz (f:N):List N:=(Oy (ES f)).map dk
noncomputable def dQ (f:N):List Stmt:=IM (ES f)
noncomputable def pG (f:N):List (Str×NameKind):=KX (ES f)
noncomputable def iG (f:N):List V:=(bt Jb f).getD []
inductive MO where
 |fN (l:List (V×V))
 |gg (l:List V)
 |iT (l:List V)
 |ins (c:N) (l:List (N×V))
inductive LV where
 |val (v:V)
 |own (l:List V)
inductive R where
 |v (a:V)
 |lr (x:N)
abbrev ao:=List (N×LV)
abbrev St:=List MO
noncomputable def cu:ao→N→Option LV
 |[],_=>none
 |p::r,x=>if p.1=x then some p.2 else cu r x
noncomputable def b8:ao→N→LV→ao
 |[],x,v=>[(x,v)]
 |p::r,x,v=>if p.1=x then (p.1,v)::r else p::b8 r x v
noncomputable def f6:List (N×V)→N→Option V
 |[],_=>none
 |p::r,x=>if p.1=x then some p.2 else f6 r x
noncomputable def jA:List (N×V)→N→V→List (N×V)
 |[],x,v=>[(x,v)]
 |p::r,x,v=>if p.1=x then (p.1,v)::r else p::jA r x v
noncomputable def fK:V→Option N
 | .str s=>some s
 |_=>none
noncomputable def bT:V→Option Int
 | .int i=>some i
 |_=>none
noncomputable def i7:V→Bool
 | .none=>true
 |_=>false
noncomputable def ku (a b:V):Option Bool:=match fK a with
 |some x=>(fK b).map λy=>decide (x=y)
 |none=>match bT a with
  |some x=>(bT b).map λy=>decide (x=y)
  |none=>none
noncomputable def kD (x:V):Bool:=(fK x).isSome||(bT x).isSome
noncomputable def jw:List (V×V)→V→Option (Option V)
 |[],x=>if kD x=true then some none else none
 |p::r,x=>match ku p.1 x with
  |some t=>if t=true then some (some p.2) else jw r x
  |none=>none
noncomputable def pW:List (V×V)→V→V→Option (List (V×V))
 |[],x,v=>if kD x=true then some [(x,v)] else none
 |p::r,x,v=>match ku p.1 x with
  |some t=>if t=true then some ((p.1,v)::r) else (pW r x v).map (p::·)
  |none=>none
inductive qw where
 |ok (v:V) (σ:St)
 |ba (σ:St)
inductive SO where
 |next (ρ:ao) (σ:St)
 |ret (v:V) (σ:St)
 |brk (ρ:ao) (σ:St)
 |ew (ρ:ao) (σ:St)
 |ba (ρ:ao) (σ:St)
noncomputable def pD (σ:St)(k:Nat):Option (List V):=match σ[k]? with
 |some (.gg l)=>some l
 |_=>none
noncomputable def lY (σ:St)(k:Nat):Option (List (V×V)):=match σ[k]? with
 |some (.fN l)=>some l
 |_=>none
noncomputable def eu (σ:St)(k:Nat):Option (List V):=match σ[k]? with
 |some (.iT l)=>some l
 |_=>none
noncomputable def fL (σ:St)(k:Nat):Option (N×List (N×V)):=match σ[k]? with
 |some (.ins c l)=>some (c,l)
 |_=>none
noncomputable def nH (ρ:ao)(x:N):Option (List V):=match cu ρ x with
 |some (.own l)=>some l
 |_=>none
noncomputable def gQ:V→Option Nat
 | .obj k=>some k
 |_=>none
noncomputable def cw (r:R)(ρ:ao)(σ:St):Option (List V):=match r with
 | .v a=>(match a with
  | .list l=>some l
  | .obj k=>pD σ k
  |_=>none)
 | .lr x=>nH ρ x
noncomputable def bf (r:R)(ρ:ao)(σ:St):Option (List V):=match r with
 | .v a=>(match a with
  | .au l=>some l
  |a=>cw (.v a) ρ σ)
 | .lr x=>nH ρ x
noncomputable def xN:R→Option Nat
 | .v a=>gQ a
 | .lr _=>none
noncomputable def O9 (r:R)(σ:St):Option (List V):=(xN r).bind (eu σ)
noncomputable def mX (r:R)(σ:St):Option (List (V×V)):=(xN r).bind (lY σ)
noncomputable def xw (r:R)(ρ:ao)(σ:St):Option Nat:=match bf r ρ σ with
 |some l=>some l.length
 |none=>(O9 r σ).map List.length
noncomputable def tP (r:R)(ρ:ao)(σ:St):Option Bool:=match r with
 | .v a=>(match a with
  | .bool b=>some b
  | .int i=>some (decide (i≠0))
  | .none=>some false
  |a=>match bf (.v a) ρ σ with
   |some l=>if l.length<16000000 then some (!l.isEmpty) else none
   |none=>none)
 | .lr x=>match nH ρ x with
  |some l=>if l.length<16000000 then some (!l.isEmpty) else none
  |none=>none
noncomputable def ag (l:List V)(i:Int):Option V:=
 if 0≤i then (if i<16000000 then l[i.toNat]? else none) else if -i≤l.length∧ -16000000≤i then l[(l.length+i).toNat]? else none
noncomputable def Qa (r:R)(n:Int):Option V:=match r with
 | .v a=>(match a with
  | .str s=>if n=0 then (NR s).map V.str else none
  |_=>none)
 | .lr _=>none
noncomputable def jG:List N→List V→N→Option V
 |y::r,l,x=>(match l with
  |v::l=>if y=x then some v else jG r l x
  |[]=>none)
 |[],_,_=>none
noncomputable def C0 (c:N):List N:=(bt v3 c).getD []
noncomputable def hZ (c:N)(n:N):Bool:=(C0 c).contains n
noncomputable def oZ (a:V)(n:N)(σ:St):Option V:=match a with
 | .aO c l=>(match gP c with
  |some ns=>if hZ c n=true then jG ns l n else none
  |none=>none)
 | .obj k=>(match fL σ k with
  |some p=>if hZ p.1 n=true then f6 p.2 n else none
  |none=>none)
 |_=>none
noncomputable def De (a:V)(σ:St):Option N:=match a with
 | .aO c _=>some c
 | .obj k=>(fL σ k).map (·.1)
 |_=>none
noncomputable def nC (a:V)(n:N)(σ:St):Bool:=match a with
 | .aO c _=> !((gP c).getD []).contains n
 | .obj k=>(match fL σ k with
  |some p=>(f6 p.2 n).isNone
  |none=>false)
 |_=>false
noncomputable def jx {α:Type}(p:Prop) [Decidable p] (a:α):Option α:=if p then some a else none
noncomputable def cF (o:Operator)(a b:Int):Option Int:=match o with
 | .Add=>some (a+b)
 | .Sub=>some (a - b)
 | .Mult=>jx (a.natAbs<2^60) (a*b)
 | .FloorDiv=>jx (0<b∧b<1073741824) (a / b)
 | .Mod=>jx (0<b) (a%b)
 | .Pow=>jx (a=2∧0≤b∧b≤64) (2^b.toNat)
 | .BitAnd=>some (PySem.Builtin.bitAnd a b)
 |_=>none
noncomputable def Hl (x y:Option Bool):Option Bool:=match x with
 |some t=>if t=true then y else some false
 |none=>none
noncomputable def Pj (x y:Option Bool):Option Bool:=match x with
 |some t=>if t=true then some true else y
 |none=>none
noncomputable def vC (f:V→V→Option Bool):List V→List V→Option Bool
 |[],q=>some q.isEmpty
 |a::r,q=>(match q with
  |b::q=>Hl (f a b) (vC f r q)
  |[]=>some false)
noncomputable def Cv (g:List V→List V→Option Bool)(a b:V):Option Bool:=match a with
 | .none=>(match b with
  | .none=>some true
  |_=>none)
 | .bool x=>(match b with
  | .bool y=>some (decide (x=y))
  |_=>none)
 | .int x=>(match b with
  | .int y=>some (decide (x=y))
  |_=>none)
 | .str x=>(match b with
  | .str y=>some (decide (x=y))
  |_=>none)
 | .au x=>(match b with
  | .au y=>g x y
  |_=>none)
 | .list x=>(match b with
  | .list y=>g x y
  |_=>none)
 |_=>none
noncomputable def jB (n:Nat):V→V→Option Bool:=n.rec (Cv λZ Z=>none) λZ f=>Cv (vC f)
noncomputable def ur (g:List V→Bool)(a:V):Bool:=match a with
 | .aO _ _=>false
 | .obj _=>false
 | .au l=>g l
 | .list l=>g l
 |_=>true
noncomputable def bS (n:Nat):V→Bool:=n.rec (ur λZ=>false) λZ f=>ur λl=>l.all f
noncomputable def vB (x y:V):Option Bool:=if (bS 8 x&&bS 8 y)=true then jB 8 x y else none
noncomputable def vD (x:V):List V→Option Bool
 |[]=>some false
 |a::r=>Pj (jB 8 a x) (vD x r)
noncomputable def HS (x:V)(l:List V):Option Bool:=if (bS 8 x&&l.all (bS 8))=true then vD x l else none
noncomputable def z9 (o:CmpOp)(x y:V):Option Bool:=if o= .In then (match y with
 | .list l=>HS x l
 |_=>none) else if o= .Eq then vB x y else if o= .NotEq then (vB x y).map not else none
noncomputable def fW (r:R)(ρ:ao)(σ:St):Option V:=match cw r ρ σ with
 |some l=>some (.list l)
 |none=>match r with
  | .v a=>some a
  | .lr _=>none
noncomputable def ji:R→Option V
 | .v a=>some a
 | .lr _=>none
noncomputable def ri (r:R):Option Int:=(ji r).bind bT
noncomputable def Mc (a b:R):Option Bool:=match ji b with
 |some b=>if i7 b=true then (ji a).map i7 else none
 |none=>none
noncomputable def HA (a b:R)(ρ:ao)(σ:St):Option Bool:=match ji a with
 |some x=>(match mX b σ with
  |some d=>(jw d x).map Option.isSome
  |none=>match bf b ρ σ with
   |some l=>HS x l
   |none=>none)
 |none=>none
noncomputable def Hw (a b:R)(ρ:ao)(σ:St):Option Bool:=match fW a ρ σ with
 |some x=>(match fW b ρ σ with
  |some y=>vB x y
  |none=>none)
 |none=>none
noncomputable def HD (f:Int→Int→Bool)(a b:R):Option Bool:=match ri a with
 |some i=>(ri b).map (f i)
 |none=>none
noncomputable def wx (o:CmpOp)(a b:R)(ρ:ao)(σ:St):Option Bool:=match o with
 | .Eq=>Hw a b ρ σ
 | .NotEq=>(Hw a b ρ σ).map not
 | .Lt=>HD (λi j=>decide (i<j)) a b
 | .LtE=>HD (λi j=>decide (i≤j)) a b
 | .Gt=>HD (λi j=>decide (j<i)) a b
 | .GtE=>HD (λi j=>decide (j≤i)) a b
 | .Is=>Mc a b
 | .IsNot=>(Mc a b).map not
 | .In=>HA a b ρ σ
 | .NotIn=>(HA a b ρ σ).map not
noncomputable def Hu (v:V):Option Nat:=(fK v).bind Ht
noncomputable def rS (a b c:V):Option Bool:=match Hu a with
 |some i=>(match Hu b with
  |some j=>(Hu c).map λk=>decide (i≤j)&&decide (j≤k)
  |none=>none)
 |none=>none
noncomputable def QH (r:R):Option V:=(ji r).bind λv=>(fK v).bind λs=>(Pa s).map V.str
noncomputable def mD:List V→Option Int
 |[]=>some 0
 |a::r=>match bT a with
  |some i=>(mD r).map λj=>i+j
  |none=>none
noncomputable def fZ (x:V):List V→Option Nat
 |[]=>some 0
 |a::r=>match jB 8 a x with
  |some b=>(fZ x r).map λn=>n+if b=true then 1 else 0
  |none=>none
noncomputable def ft (x:V)(l:List V):Option Nat:=if (bS 8 x&&l.all (bS 8)&&decide (l.length<16000000))=true then fZ x l else none
noncomputable def gX (σ:St)(k:Nat)(o:MO):St:=σ.set k o
noncomputable def uY (r:R)(l:List V)(ρ:ao)(σ:St):Option (ao×St):=match r with
 | .lr x=>some (b8 ρ x (.own l),σ)
 | .v a=>match gQ a with
  |some k=>if (pD σ k).isSome=true then some (ρ,gX σ k (.gg l)) else none
  |none=>none
noncomputable def aX (n:Int):List V:=(List.range n.toNat).map λ(i:Nat)=> .int (i:Int)
noncomputable def jg:ao→ao
 |[]=>[]
 |p::r=>match p.2 with
  | .val v=>(p.1,.val v)::jg r
  | .own _=>jg r
noncomputable def yl:List N→List V→N→V→Option (List V)
 |y::r,l,x,v=>(match l with
  |w::l=>if y=x then some (v::l) else (yl r l x v).map (w::·)
  |[]=>none)
 |[],_,_,_=>none
noncomputable def jm:List N→List V→Option ao
 |[],l=>if l.isEmpty=true then some [] else none
 |x::xs,l=>match l with
  |v::vs=>(jm xs vs).map ((x,.val v)::·)
  |[]=>none
noncomputable def nP:List N→List V→ao→Option ao
 |[],l,ρ=>if l.isEmpty=true then some ρ else none
 |x::xs,l,ρ=>match l with
  |v::vs=>nP xs vs (b8 ρ x (.val v))
  |[]=>none
mutual
noncomputable def fR:V→Nat
 | .au l=>iU l
 | .list l=>iU l
 | .aO _ l=>iU l+1
 |_=>0
noncomputable def iU:List V→Nat
 |[]=>0
 |v::r=>max (fR v) (iU r)
end
set_option genCtorIdx false
noncomputable def dg (k:Nat):Nat→List Nat:=k.rec (λZ=>[]) λZ f n=>if n=0 then [] else n%256::f (n / 256)
noncomputable def nm (n:N):Str:=⟨(dg n n).toArray⟩
theorem fv (k n:Nat):dg (k+1) n=if n=0 then [] else n%256::dg k (n / 256):=rfl
theorem iH (k:Nat):dg k 0=[]:=by cases k<;>rfl
theorem ke {n k:Nat}(h:n≤k+1)(h0:n≠0):n / 256≤k:=Nat.le_of_lt_succ (Nat.lt_of_lt_of_le (Nat.div_lt_self (Nat.pos_of_ne_zero h0) (by decide)) h)
theorem oh {k n:Nat}(h:n≤k):y9 (dg k n)=n:=by
 induction k generalizing n with
 |zero=>exact aa (Nat.le_zero.mp h) rfl
 |succ k ih=>
  refine aa (fv ..) ?_;by_cases q:n=0
  ·exact aa (WE q) (aa q rfl)
  ·refine aa (WG q) ?_;show n%256+256*y9 (dg k (n / 256))=n;exact aa (ih (ke h q)) (aa (Nat.mod_add_div ..) rfl)
theorem xJ {a b:N}(h:nm a=nm b):a=b:=(oh (Nat.le_refl a)).symm.trans ((WJ (λs:Str=>y9 s.cps.toList) h).trans (oh (Nat.le_refl b)))
theorem xK {a b:N}(h:a≠b):nm a≠nm b:=λe=>h (xJ e)
theorem n7 {a b:N}:(nm a==nm b)=decide (a=b):=by
 by_cases h:a=b
 ·exact aa h (aa (WA rfl) (beq_self_eq_true _))
 ·exact aa (Wz h) (beq_eq_false_iff_ne.mpr (xK h))
noncomputable def Qq (c:Nat):Bool:=decide (0<c)&&decide (c<256)
noncomputable def lJ (s:Str):Bool:=s.cps.toList.all Qq
theorem EV {l:List Nat}(h:l.all Qq=true){k:Nat}(hk:y9 l≤k):dg k (y9 l)=l:=by
 induction l generalizing k with
 |nil=>exact iH k
 |cons c r ih=>
  rw [List.all_cons,Bool.and_eq_true] at h;have hc:=Ws h.1;have c0:0<c:=Wy hc.1;have c1:c<256:=Wy hc.2;show dg k (c+256*y9 r)=_;have h0:c+256*y9 r≠0:=Nat.ne_of_gt (Nat.add_pos_left c0 _);cases k with
  |zero=>exact WK (Nat.le_zero.mp hk) h0
  |succ k=>
   have e2:(c+256*y9 r) / 256=y9 r:=by rw [Nat.add_mul_div_left _ _ (by decide),Nat.div_eq_of_lt c1,Nat.zero_add]
   have e3:=ih h.2 (k:=k) (e2▸ke hk h0);rw [fv,WG h0,Nat.add_mul_mod_self_left,Nat.mod_eq_of_lt c1,e2,e3]
theorem bH {s:Str}(h:lJ s=true):s=nm (dk s):=by
 have e:dg (dk s) (dk s)=s.cps.toList:=EV h (Nat.le_refl _);show s=⟨(dg (dk s) (dk s)).toArray⟩;exact aa e rfl
theorem wD {k n:Nat}: ∀c∈dg k n,c<256:=by
 induction k generalizing n with
 |zero=>exact λZ h=>nomatch h
 |succ k ih=>
  refine aa (fv ..) ?_;by_cases q:n=0
  ·exact aa (WE q) (λZ h=>nomatch h)
  ·exact aa (WG q) (List.forall_mem_cons.mpr ⟨Nat.mod_lt _ (by decide),ih⟩)
theorem EU {k n j:Nat}(h:n<256^j):(dg k n).length≤j:=by
 induction k generalizing n j with
 |zero=>exact Nat.zero_le _
 |succ k ih=>
  refine aa (fv ..) ?_;by_cases q:n=0
  ·exact aa (WE q) (Nat.zero_le _)
  ·refine aa (WG q) ?_;cases j with
   |zero=>exact WK (Nat.lt_one_iff.mp h) q
   |succ j=>exact Nat.succ_le_succ (ih (Nat.div_lt_of_lt_mul (Nat.mul_comm (256^j) 256▸h)))
theorem Kg (n:N):(nm n).cps.all (·<0x110000)=true:=by
 rw [Array.all_eq_true'];intro c hc;exact WA (Nat.lt_of_lt_of_le (wD c (Array.mem_toList_iff.mpr hc)) (by decide))
theorem F8 {n:N}(h:n<2^800):(nm n).length≤100:=EU (k:=n) (show n<256^100 from (by decide+kernel:(2:Nat)^800=256^100)▸h)
theorem jO {n:Nat}(h:n≠0):(nm n).cps.toList=n%256::(nm (n / 256)).cps.toList:=by
 show dg n n=n%256::dg (n / 256) (n / 256);have iu: ∀{k j m:Nat},m≤k→m≤j→dg k m=dg j m:=λ{k}=>by
  induction k with
  |zero=>intro j m h1 _;exact aa (Nat.le_zero.mp h1) (aa (iH ..) (aa (iH ..) rfl))
  |succ k ih=>
   intro j m h1 h2;by_cases q:m=0
   ·exact aa q (aa (iH ..) (aa (iH ..) rfl))
   ·cases j with
    |zero=>exact WK (Nat.le_zero.mp h2) q
    |succ j=>exact aa (fv ..) (aa (fv ..) (aa (WG q) (aa (WG q) (aa (ih (ke h1 q) (ke h2 q)) rfl))))
 cases n with
 |zero=>exact WK rfl h
 |succ k=>exact aa (fv ..) (aa (WG h) (aa (iu (ke (Nat.le_refl _) h) (Nat.le_refl _)) rfl))
theorem F9 {c:Nat}(h0:c≠0)(h:c<256):nm c=⟨#[c]⟩:=by
 have e:(nm c).cps.toList=[c]:=by exact aa (jO h0) (aa (Nat.mod_eq_of_lt h) (aa (Nat.div_eq_of_lt h) rfl))
 have:(nm c).cps= #[c]:=by rw [←Array.toList_inj];exact aa e rfl
 show (⟨(nm c).cps⟩:Str)=_;exact aa this rfl
noncomputable def jP (x:N):Bool:= !decide (x=1759315279424080076639)&& !decide (x=7556217219641643337622556467039)
theorem v8 {x y:N}{s:Str}(e:nm y=s)(h:(!decide (x=y))=true):(nm x==s)=false:=by
 subst e;exact aa n7 (Bool.not_eq_true' _▸h)
theorem da {x:N}(h:jP x=true):(nm x==("__debug__" :Str))=false:=v8 (by decide+kernel) (Ws h).1
theorem xH {x:N}(h:jP x=true):(nm x==("__classdict__" :Str))=false:=v8 (by decide+kernel) (Ws h).2
end Mine
end
noncomputable section
namespace Mine
open PySem PySem.W PySem.Calls PyProof.Rows
variable {α:Type}
abbrev aJ:=List (Addr×Obj)
inductive bZ {α β:Type}(R:α→β→Prop):List α→List β→Prop
 |nil:bZ R [] []
 |cons {a b l q}:R a b→bZ R l q→bZ R (a::l) (b::q)
section
variable {β:Type}{R S:α→β→Prop}{l l':List α}{q q':List β}
theorem bZ.len (h:bZ R l q):l.length=q.length:=by
 induction h with
 |nil=>rfl
 |cons _ _ ih=>exact WJ (·+1) ih
theorem bZ.imp (k: ∀{a b},R a b→S a b)(h:bZ R l q):bZ S l q:=by
 induction h with
 |nil=>exact .nil
 |cons h _ ih=>exact .cons (k h) ih
theorem bZ.eU (h:bZ R l q)(h':bZ R l' q'):bZ R (l++l') (q++q'):=by
 induction h with
 |nil=>exact h'
 |cons h _ ih=>exact .cons h ih
theorem bZ.pt (h:bZ R l q): ∀(i:Nat) a b,l[i]? =some a→q[i]? =some b→R a b:=by
 induction h with
 |nil=>intro i a b e;cases i<;>exact ig e
 |cons h _ ih=>intro i a b e e';cases i with
  |zero=>obtain rfl:=cH e;obtain rfl:=cH e';exact h
  |succ i=>exact ih i a b e e'
theorem bZ.get (h:bZ R l q){i:Nat}{a:α}(e:l[i]? =some a): ∃b,q[i]? =some b∧R a b:=by
 have hi:i<q.length:=h.len▸(List.getElem?_eq_some_iff.mp e).1;exact ⟨q[i],List.getElem?_eq_getElem hi,h.pt i a _ e (List.getElem?_eq_getElem hi)⟩
theorem bZ.take (n:Nat)(h:bZ R l q):bZ R (l.take n) (q.take n):=by
 induction h generalizing n with
 |nil=>exact aa List.take_nil (aa List.take_nil .nil)
 |cons h _ ih=>cases n with
  |zero=>exact .nil
  |succ n=>exact .cons h (ih n)
theorem bZ.of: ∀{l:List α} {q:List β},l.length=q.length→(∀(i:Nat) a b,l[i]? =some a→q[i]? =some b→R a b)→bZ R l q:=λ{l}=>by
 induction l with
 |nil=>intro q e _;exact aa (List.length_eq_zero_iff.mp e.symm) .nil
 |cons a l ih=>intro q e h;cases q with
  |nil=>cases e
  |cons b q=>exact .cons (h 0 a b rfl rfl) (ih (Nat.succ.inj e) λi=>h (i+1))
end
structure Wd where
 w:World
 q:Program
 K:Frag
 ca:N→Addr
 fa:N→Addr
 ps:Addr
 loose:List Str
 mg:Str→Option Value
 mb:Str→Option Value
noncomputable abbrev fQ (vs:List Value)(n:Nat):Obj:={cls:= .type "tuple",data:= .seq vs.toArray n}
noncomputable abbrev bh (vs:List Value)(n:Nat):Obj:=PySem.W.listOf (List.toArray vs) n
noncomputable def At (D:Wd)(fz:aJ)(a:Addr)(o:Obj):Prop:=(a,o)∈fz∨D.K.lookup a=some o
noncomputable def Ee (n:N)(e:DictEntry):Prop:= ∃t,e.key= .str (nm n) t
inductive aU (D:Wd)(fz:aJ)(αs:List Addr):V→Value→Prop
 |none:aU D fz αs .none .none
 |bool (b):aU D fz αs (.bool b) (.bool b)
 |int (i t):aU D fz αs (.int i) (.int i t)
 |str (n t):aU D fz αs (.str n) (.str (nm n) t)
 |au {l vs a e}:At D fz a (fQ vs e)→l.length=vs.length→(∀(i:Nat) v x,l[i]? =some v→vs[i]? =some x→aU D fz αs v x)→aU D fz αs (.au l) (.ref a)
 |list {l vs a e}:(a,bh vs e)∈fz→l.length=vs.length→(∀(i:Nat) v x,l[i]? =some v→vs[i]? =some x→aU D fz αs v x)→aU D fz αs (.list l) (.ref a)
 |aO {c l a d ns es n}:gP c=some ns→(a,instObj (D.ca c) d)∈fz→(d,dictOf es n)∈fz→(ns.zip l).length=es.length→(∀(i:Nat) p e,(ns.zip l)[i]? =some p→es[i]? =some e→Ee p.1 e)→
   (∀(i:Nat) p e,(ns.zip l)[i]? =some p→es[i]? =some e→aU D fz αs p.2 e.val)→aU D fz αs (.aO c l) (.ref a)
 |obj {k a}:αs[k]? =some a→aU D fz αs (.obj k) (.ref a)
noncomputable abbrev aH (D:Wd)(fz:aJ)(αs:List Addr):List V→List Value→Prop:=bZ (aU D fz αs)
noncomputable def ME (D:Wd)(fz:aJ)(αs:List Addr)(p:N×V)(e:DictEntry):Prop:=Ee p.1 e∧aU D fz αs p.2 e.val
noncomputable abbrev dH (D:Wd)(fz:aJ)(αs:List Addr):List (N×V)→List DictEntry→Prop:=bZ (ME D fz αs)
structure dE (fz:aJ)(αs:List Addr)(fz':aJ)(αs':List Addr):Prop where
 fz: ∀p∈fz,p∈fz'
 αs: ∀(k:Nat) (a:Addr),αs[k]? =some a→αs'[k]? =some a
theorem dE.refl {fz:aJ}{αs:List Addr}:dE fz αs fz αs:=⟨λZ h=>h,λZ Z h=>h⟩
theorem dE.trans {fz fz' fz'':aJ}{αs αs' αs'':List Addr}(x:dE fz αs fz' αs')(y:dE fz' αs' fz'' αs''):dE fz αs fz'' αs'':=
 ⟨λp h=>y.fz p (x.fz p h),λk a h=>y.αs k a (x.αs k a h)⟩
inductive qy (D:Wd)(fz:aJ)(αs:List Addr):List V→List Value→aJ→Prop
 |nil:qy D fz αs [] [] []
 |cons {c l a d ns es n q vs aL}:gP c=some ns→dH D fz αs (ns.zip l) es→qy D fz αs q vs aL→
   qy D fz αs (.aO c l::q) (.ref a::vs) ((a,instObj (D.ca c) d)::(d,dictOf es n)::aL)
noncomputable def KR {κ:Type}(kf:V→κ→Prop)(D:Wd)(fz:aJ)(αs:List Addr)(p:V×V)(q:κ×Value):Prop:=kf p.1 q.1∧aU D fz αs p.2 q.2
noncomputable def LY (v:V)(s:Str):Prop:= ∃n,v= .str n∧nm n=s
noncomputable def MT (v:V)(i:Int):Prop:=v= .int i
inductive oF (D:Wd)(fz:aJ)(αs:List Addr)(l:List (V×V))(o:Obj):Prop
 |s {f}:bZ (KR LY D fz αs) l f→o.IsDictOf (PySem.strKind pw D.w) f→oF D fz αs l o
 |i {f}:bZ (KR MT D fz αs) l f→o.IsDictOf (PySem.intKind pw D.w) f→oF D fz αs l o
inductive gN (D:Wd)(fz:aJ)(αs:List Addr):MO→Addr→aJ→Prop
 |fN {l a o}:oF D fz αs l o→gN D fz αs (.fN l) a [(a,o)]
 |gg {l a vs e}:aH D fz αs l vs→gN D fz αs (.gg l) a [(a,bh vs e)]
 |iT {l a vs e aL}:qy D fz αs l vs aL→gN D fz αs (.iT l) a ((a,bh vs e)::aL)
 |ins {c l a d es n}:dH D fz αs l es→gN D fz αs (.ins c l) a [(a,instObj (D.ca c) d),(d,dictOf es n)]
inductive bX (D:Wd)(fz:aJ)(αs:List Addr):St→List Addr→aJ→Prop
 |nil:bX D fz αs [] [] []
 |cons {m a aL σ as mu}:gN D fz αs m a aL→bX D fz αs σ as mu→bX D fz αs (m::σ) (a::as) (aL++mu)
inductive H6 (D:Wd)(fz:aJ)(αs:List Addr)(σ:St)(as:List Addr)(mu:aJ)(k:Nat)(m:MO):Prop
 |mk {a aL pre post} (hk:as[k]? =some a) (r:gN D fz αs m a aL) (e:mu=pre++(aL++post))
   (w: ∀fz',dE fz αs fz' αs→ ∀m' led',gN D fz' αs m' a led'→bX D fz' αs (σ.set k m') as (pre++(led'++post))):H6 D fz αs σ as mu k m
section
variable {D:Wd}{fz fz':aJ}{αs αs':List Addr}{v:V}{u:Value}{l:List V}{vs:List Value}{a:Addr}{e:Nat}{c:N}{σ:St}{as:List Addr}{mu:aJ}
theorem aU.DC (h:At D fz a (fQ vs e))(r:aH D fz αs l vs):aU D fz αs (.au l) (.ref a):= .au h r.len r.pt
theorem aU.eP (h:(a,bh vs e)∈fz)(r:aH D fz αs l vs):aU D fz αs (.list l) (.ref a):= .list h r.len r.pt
theorem aU.xD {ns:List N}{es:List DictEntry}{d:Addr}{n:Nat}(h:gP c=some ns)(h1:(a,instObj (D.ca c) d)∈fz)(h2:(d,dictOf es n)∈fz)(r:dH D fz αs (ns.zip l) es):aU D fz αs (.aO c l) (.ref a):=
 .aO h h1 h2 r.len (λi p e x y=>(r.pt i p e x y).1) λi p e x y=>(r.pt i p e x y).2
theorem At.aw {o:Obj}(x:dE fz αs fz' αs')(h:At D fz a o):At D fz' a o:=h.imp (x.fz _) id
theorem aU.aw (x:dE fz αs fz' αs')(h:aU D fz αs v u):aU D fz' αs' v u:=by
 induction h with
 |none=>exact .none
 |bool b=>exact .bool b
 |int i t=>exact .int i t
 |str n t=>exact .str n t
 |au h r _ ih=>exact .au (At.aw x h) r ih
 |list h r _ ih=>exact .list (x.fz _ h) r ih
 |aO e h1 h2 r k _ ih=>exact .aO e (x.fz _ h1) (x.fz _ h2) r k ih
 |obj h=>exact .obj (x.αs _ _ h)
theorem aH.aw (x:dE fz αs fz' αs')(h:aH D fz αs l vs):aH D fz' αs' l vs:=h.imp λh=>h.aw x
theorem dH.aw {l:List (N×V)}{es:List DictEntry}(x:dE fz αs fz' αs')(h:dH D fz αs l es):dH D fz' αs' l es:=h.imp λh=>⟨h.1,h.2.aw x⟩
noncomputable def MZ (D:Wd)(fz:aJ)(αs:List Addr)(v:V)(u:Value)(P:Prop):Prop:=match v with
 | .none=>u= .none→P
 | .bool b=>u= .bool b→P
 | .int i=> ∀t,u= .int i t→P
 | .str n=> ∀t,u= .str (nm n) t→P
 | .au l=> ∀a vs e,u= .ref a→At D fz a (fQ vs e)→aH D fz αs l vs→P
 | .list l=> ∀a vs e,u= .ref a→(a,bh vs e)∈fz→aH D fz αs l vs→P
 | .aO c l=> ∀a d ns es n,u= .ref a→gP c=some ns→(a,instObj (D.ca c) d)∈fz→(d,dictOf es n)∈fz→dH D fz αs (ns.zip l) es→P
 | .obj k=> ∀a,u= .ref a→αs[k]? =some a→P
theorem aU.eV {P:Prop}(h:aU D fz αs v u):MZ D fz αs v u P→P:=by
 induction h with
 |none=>exact λk=>k rfl
 |bool b=>exact λk=>k rfl
 |int i t=>exact λk=>k t rfl
 |str n t=>exact λk=>k t rfl
 |au h r p=>exact λk=>k _ _ _ rfl h (.of r p)
 |list h r p=>exact λk=>k _ _ _ rfl h (.of r p)
 |aO e h1 h2 r k p=>exact λq=>q _ _ _ _ _ rfl e h1 h2 (.of r λi x e a b=>⟨k i x e a b,p i x e a b⟩)
 |obj h=>exact λk=>k _ rfl h
theorem qy.aw {aL:aJ}(x:dE fz αs fz' αs')(h:qy D fz αs l vs aL):qy D fz' αs' l vs aL:=by
 induction h with
 |nil=>exact .nil
 |cons e h _ ih=>exact .cons e (h.aw x) ih
theorem KR.aw {κ:Type}{kf:V→κ→Prop}{l:List (V×V)}{f:List (κ×Value)}(x:dE fz αs fz' αs')(h:bZ (KR kf D fz αs) l f):bZ (KR kf D fz' αs') l f:=h.imp λh=>⟨h.1,h.2.aw x⟩
theorem gN.aw {m:MO}{aL:aJ}(x:dE fz αs fz' αs')(h:gN D fz αs m a aL):gN D fz' αs' m a aL:=by
 induction h with
 |fN h=>cases h with
  |s h k=>exact .fN (.s (KR.aw x h) k)
  |i h k=>exact .fN (.i (KR.aw x h) k)
 |gg h=>exact .gg (aH.aw x h)
 |iT h=>exact .iT (h.aw x)
 |ins h=>exact .ins (h.aw x)
noncomputable def CK (D:Wd)(fz:aJ)(αs:List Addr)(m:MO)(a:Addr)(aL:aJ)(P:Prop):Prop:=match m with
 | .fN l=> ∀o,aL=[(a,o)]→oF D fz αs l o→P
 | .gg l=> ∀vs e,aL=[(a,bh vs e)]→aH D fz αs l vs→P
 | .iT l=> ∀vs e q,aL=(a,bh vs e)::q→qy D fz αs l vs q→P
 | .ins c l=> ∀d es n,aL=[(a,instObj (D.ca c) d),(d,dictOf es n)]→dH D fz αs l es→P
theorem gN.eV {m:MO}{aL:aJ}{P:Prop}(h:gN D fz αs m a aL):CK D fz αs m a aL P→P:=by
 induction h with
 |fN h=>exact λk=>k _ rfl h
 |gg h=>exact λk=>k _ _ rfl h
 |iT h=>exact λk=>k _ _ _ rfl h
 |ins h=>exact λk=>k _ _ _ rfl h
theorem bX.aw (x:dE fz αs fz' αs')(h:bX D fz αs σ as mu):bX D fz' αs' σ as mu:=by
 induction h with
 |nil=>exact .nil
 |cons h _ ih=>exact .cons (h.aw x) ih
theorem bX.length (h:bX D fz αs σ as mu):as.length=σ.length:=by
 induction h with
 |nil=>rfl
 |cons _ _ ih=>exact WJ (·+1) ih
theorem bX.pM (h:bX D fz αs σ as mu): ∀{k:Nat} {m:MO},σ[k]? =some m→H6 D fz αs σ as mu k m:=by
 induction h with
 |nil=>intro k m e;cases k<;>exact ig e
 | @cons _ _ aL _ _ mu h r ih=>
  intro k m e;cases k with
  |zero=>obtain rfl:=cH e;exact .mk (pre:=[]) rfl h rfl λfz' y m' led' h'=>(bX.cons h' (r.aw y):bX D fz' αs _ _ (led'++mu))
  |succ k=>
   obtain ⟨h1,h2,rfl,h4⟩:=ih e;exact .mk (pre:=aL++_) h1 h2 (Wn ..).symm λfz' y m' led' h'=>(Wn aL _ _).symm▸bX.cons (h.aw y) (h4 fz' y m' led' h')
theorem bX.qb {m:MO}{aL:aJ}(h:bX D fz αs σ as mu)(r:gN D fz αs m a aL):bX D fz αs (σ++[m]) (as++[a]) (mu++aL):=by
 induction h with
 |nil=>
  have z:=bX.cons r (bX.nil (D:=D) (fz:=fz) (αs:=αs));rw [Wr] at z;exact z
 |cons h _ ih=>exact (Wn ..).symm▸bX.cons h ih
end
structure zh (h:Heap)(T:Addr)(h':Heap):Prop where
 Sn: ∃o ts,h.get? T=some o∧o.data= .fields ts
 du: ∀b,b≠T→h'.get? b=h.get? b
section
variable {h h' base:Heap}{T:Addr}
theorem zh.keep (C:zh h T h'){b:Addr}{o:Obj}(hb:h.get? b=some o)(hn: ∀vs,o.data≠ .fields vs):h'.get? b=some o:=(C.du b λq=>by
 obtain ⟨o',ts,h1,h2⟩:=C.Sn;rw [←q,hb] at h1;obtain rfl:=cH h1;exact hn ts h2).trans hb
theorem zh.up (C:zh h T h'):h.UpToSlots h':=λZ o hb hn=>⟨o.slots,C.keep hb hn⟩
theorem zh.fr (C:zh h T h'){l:List PySem.Env}(f:h.FunFrames base l):h'.FunFrames base l:=f.of_keeps λZ o hb hn=>⟨o,C.keep hb hn,rfl⟩
theorem zh.st (C:zh h T h')(hn:base.get? T=none)(s:base.StaysIn h):base.StaysIn h':=λb o hb=>(C.du b λq=>by rw [q,hn] at hb;exact ig hb).trans (s b o hb)
end
inductive F2 (e:Addr)(h:Heap):Prop
 |mk {oe vs} (ho:h.get? e=some oe) (hd:oe.data= .fields vs) (h2:vs[2]? =some .none):F2 e h
section
variable {M:Model}{A:Around}{E:Value→Shared→Prop}{s:Shared}{base:Heap}{env:PySem.Env}{outer l:List PySem.Env}{L e T:Addr}{cls a0 v:Value}{Q:Unit→Shared→Prop}{o:Obj}{vs:Array Value}
theorem F2.Q9 {h h':Heap}(f:F2 e h)(C:zh h T h')(hT:T≠e):F2 e h':=by obtain ⟨a,b,c⟩:=f;exact ⟨(C.du e (Ne.symm hT)).trans a,b,c⟩
theorem nZ {i:Nat}(ho:s.heap.get? T=some o)(hd:o.data= .fields vs)(hi:i<vs.size)(k: ∀h' o',zh s.heap T h'→h'.get? T=some o'→o'.cls=o.cls→o'.data= .fields (vs.setIfInBounds i v)→Q () {s with heap:=h'}):
  wpAny M A (setField (.ref T) i v) Q E s:=
 wpAny_setField ho hd hi (k _ _ ⟨⟨o,vs,ho,hd⟩,λZ hb=>Heap.get?_update_other _ _ (Ne.symm hb)⟩ (Heap.get?_update_self _ ho (Obj.isFreed_of_fields (Obj.data_mapFields hd _))) (Obj.cls_mapFields _ _) (Obj.data_mapFields hd _))
noncomputable abbrev Py (base:Heap)(l:List PySem.Env)(e:Addr)(cls a0:Value)(L:Addr)(Q:Unit→Shared→Prop)(s:Shared):Prop:= ∀h',Heap.HeldW base l e cls a0 L h'→s.heap.UpToSlots h'→F2 e h'→Q () {s with heap:=h'}
theorem wM {head:Value}{hadNext:Bool}(hfr:A.frames=some (env::outer))(hl:s.heap.FunFrames base (env::outer))(hf:env.frame=some L)(he:s.heap.get? e=some o)(hkb:base.StaysIn s.heap)(hen:base.get? e=none)(hd:o.data= .fields vs)
  (hsz:1<vs.size) (h0:vs[0]? =some a0) (h2:vs[2]? =some .none) (h:Py base (env::outer) e o.cls a0 L Q s):
  wpAny M A (do let a←frameOf env;let pl←entryPlaceOf L hadNext;let b←EntryCells.newEntry head a .none (rawInt L) .none pl;setField (.ref e) 1 b) Q E s:=by
 have hene:e∉(env::outer).filterMap (·.frame):=λhm=>by
  obtain ⟨_,o',ho,hnf⟩:=hl.mem hm;rw [he] at ho;obtain rfl:=cH ho;exact hnf vs hd
 refine wpAny_bind (wpAny_frameOf_fun hfr hl hf λg hs=>wpAny_bind (wpAny_entryPlaceOf λpl hpl=> ?_));unfold EntryCells.newEntry newFields;refine wpAny_bind (wpAny_newObj_type ?_ (hpl.sizeOk5 _ _ _ _ _));generalize hT:({cls:= .type "traceback",dict:=none,data:= .fields ([head,.ref L,.none,rawInt L,.none]++(if pl.isEmpty then List.replicate 6 Value.none else pl)).toArray}:Obj)=oT;have he1:g.get? e=some o:=(hs.2.1 e hene).trans he;have kb:base.StaysIn g:=λb o hbo=>(hs.2.1 b λhm=>by rw [(hl.mem hm).1] at hbo;exact ig hbo).trans (hkb b o hbo);have hn:base.get? g.objs.size=none:=by
  cases q:base.get? g.objs.size with
  |none=>rfl
  |some o=>exact WK (Heap.lt_size (kb _ _ q)) (Nat.lt_irrefl _)
 have hlt:g.objs.size≠e:=Nat.ne_of_gt (Heap.lt_size he1);have psh: ∀b o,g.get? b=some o→(g.push oT).get? b=some o:=λb o q=>Heap.get?_push_of_some _ q;have hT1:(g.push oT).get? g.objs.size=some oT:=Heap.get?_push_size g (by subst hT;rfl);have dT:oT.data= .fields ([head,.ref L,.none,rawInt L,.none]++(if pl.isEmpty then List.replicate 6 Value.none else pl)).toArray:=by subst hT;rfl
 have fr1:=(hl.of_slotsOnly hs).of_keeps (h':=g.push oT) λb o q Z=>⟨o,psh b o q,rfl⟩;generalize g.push oT=G at psh hT1 fr1;refine nZ (psh _ _ he1) hd hsz λh' o' C g1 g2 g3=>h h' ⟨C.st hen λb o q=>psh b o (kb b o q),hen,C.fr fr1,?_⟩ (λb o' hb hnf=> ?_) ?_
 ·exact ⟨_,_,g.objs.size,_,_,g1,⟨g2,by exact aa (Array.getElem?_setIfInBounds_ne (by decide)) h0⟩,g3,by exact aa (Array.getElem?_setIfInBounds_self) (aa (WE hsz) rfl),hn,hlt,(C.du _ hlt).trans hT1,dT,rfl⟩
 ·obtain ⟨sl,q⟩:=hs.2.2 b o' hb;exact ⟨sl,C.keep (psh _ _ q) hnf⟩
 ·exact ⟨g1,g3,by exact aa (Array.getElem?_setIfInBounds_ne (by decide)) h2⟩
theorem F2.at (f:F2 e s.heap)(he:s.heap.get? e=some o)(hd:o.data= .fields vs):vs[2]? =some .none:=by
 obtain ⟨a,b,c⟩:=f;rw [he] at a;injection a with eA;subst eA
 rw [hd] at b;injection b with eA;subst eA
 exact c
theorem eQ (hfr:A.frames=some (env::outer))(hf:env.frame=some L)(hfl:Heap.FlyingW base (env::outer) e cls a0 s.heap)(f2:F2 e s.heap)(hQ:Py base (env::outer) e cls a0 L Q s):wpAny M A (noteFrame (.ref e) env) Q E s:=by
 obtain ⟨hkb,hen,hl,oe,vs,T,oT,ts,he,⟨rfl,h0⟩,hd,h1,hnT,hTe,hT,hdT,h3⟩:=hfl;have h2:=f2.at he hd;unfold noteFrame;refine aa hf ?_;refine wpAny_bind (wpAny_field he hd h1 (wpAny_bind (wpAny_field hT hdT h3 (wpAny_bind (nZ hT hdT (Array.getElem?_eq_some_iff.mp h3).1 λh' o' C Z Z Z=> ?_)))));exact wM hfr (C.fr hl) hf ((C.du e (Ne.symm hTe)).trans he) (C.st hnT hkb) hen hd (Array.getElem?_eq_some_iff.mp h1).1 h0 h2 λh'' x u f=>hQ h'' x (C.up.trans u) f
noncomputable abbrev MI (base:Heap)(l:List PySem.Env)(e:Addr)(cls a0:Value)(Q:Unit→Shared→Prop)(s:Shared):Prop:= ∀h',Heap.FlyingW base l e cls a0 h'→s.heap.UpToSlots h'→F2 e h'→Q () {s with heap:=h'}
theorem ei {fl:Value}(hkb:base.StaysIn s.heap)(hen:base.get? e=none)(hl:s.heap.FunFrames base l)(ht:s.heap.TracedAtW base e cls a0 fl)(f2:F2 e s.heap)(hQ:MI base l e cls a0 Q s):wpAny M A (setFlight (.ref e) none) Q E s:=by
 obtain ⟨oe,vs,T,oT,ts,he,hcls,hd,h1,hnT,hTe,hT,hdT,h3⟩:=ht;have h3':=(Array.getElem?_eq_some_iff.mp h3).1;unfold setFlight;refine wpAny_bind (wpAny_field he hd h1 (nZ hT hdT h3' λh' o' C g1 Z g3=>hQ h' ⟨C.st hnT hkb,hen,C.fr hl,?_⟩ C.up (f2.Q9 C hTe)));exact ⟨oe,vs,T,_,_,(C.du e (Ne.symm hTe)).trans he,hcls,hd,h1,hnT,hTe,g1,g3,by exact aa (Array.getElem?_setIfInBounds_self) (aa (WE h3') rfl)⟩
theorem pA (hh:Heap.HeldW base (env::outer) e cls a0 L s.heap)(f2:F2 e s.heap)(hQ:MI base outer e cls a0 Q s):wpAny M A (setFlight (.ref e) none) Q E s:=by
 obtain ⟨k1,k2,k3,k4⟩:=hh;exact ei k1 k2 k3 k4 f2 λh2 ⟨j1,j2,⟨_,_,j3⟩,j4⟩ u2 f'=>hQ h2 ⟨j1,j2,j3,j4⟩ u2 f'
theorem rq (hfr:A.frames=some (env::outer))(hf:env.frame=some L)(hfl:Heap.FlyingW base (env::outer) e cls a0 s.heap)(f2:F2 e s.heap)(hQ:MI base outer e cls a0 Q s):wpAny M A (leaving env (.ref e)) Q E s:=by
 unfold leaving;exact wpAny_bind (eQ hfr hf hfl f2 λh1 k u f=>pA k f λh2 j u2 f'=>hQ h2 j (u.trans u2) f')
end
noncomputable def zE (o:Obj):Prop:= ∃vs:Array Value,o.data= .fields vs∧vs[2]? =some .none
inductive qr (A:Around)(R:List (Addr×Obj)):Prop
 |no (h:A.handled=none):qr A R
 |bR {e oe} (h:A.handled=some (.ref e)) (o:zE oe) (m:(e,oe)∈R):qr A R
theorem qr.aw {A:Around}{R R':List (Addr×Obj)}(h:qr A R)(k: ∀p∈R,p∈R'):qr A R':=by
 cases h with
 |no h=>exact .no h
 |bR h o m=>exact .bR h o (k _ m)
theorem lz:entryFor table "proto.unchain" =some Builtin.«proto.unchain»:=entryFor_of_tree (by kernel_rfl)
section
variable {prog:Program}{w:World}{A:Around}{s:Shared}
theorem kN {e:Addr}{oe:Obj}{Q:α→Shared→Prop}{E:Value→Shared→Prop}(hh:A.handled=some (.ref e))(he:s.heap.get? e=some oe)(hO:zE oe)
  (h: ∀x h' o,h'.get? x=some o→o.cls= .type "StopIteration" →(∀b ob,s.heap.get? b=some ob→h'.get? b=some ob)→E (.ref x) {s with heap:=h'}):
  wpAny (model prog w) A (newExc (.type "StopIteration") []>>=λx=>(raiseNew x:Sem α)) Q E s:=by
 obtain ⟨ve,hde,he2⟩:=hO;refine wpAny_bind ?_
 simp only [newExc,newTuple]
 refine wpAny_bind (wpAny_newObj_type ?_ (by size_fits));refine wpAny_bind (m:=firstArgMember _ _) (wpAny_of_eq (a:=Value.none) (by first|rfl|(simp only [firstArgMember];rfl)) ?_);refine wpAny_newObj_type ?_ (by size_fits);unfold raiseNew;refine wpAny_bind (wpAny_handled ?_);refine aa hh ?_;have up: ∀b ob,s.heap.get? b=some ob→(s.heap.push {cls:=Value.type "tuple",data:=Data.seq #[]}).get? b=some ob:=λb ob q=>Heap.get?_push_of_some _ q;generalize s.heap.push {cls:=Value.type "tuple",data:=Data.seq #[]}=H at up;have heH:=up _ _ he;have hea:e≠H.objs.size:=Nat.ne_of_lt (Heap.lt_size heH);show wpAny _ _ (if (Value.ref e !=Value.ref H.objs.size)=true then _ else _) _ _ _;refine aa (WE (bne_iff_ne.mpr λq=>hea (by injection q))) ?_;refine wpAny_bind (wpAny_holding (wpAny_runValue (codeAny_builtin lz ?_)));show wpAny _ _ (field (.ref e) 2>>=_) _ _ _;refine wpAny_bind (wpAny_field (Heap.get?_push_of_some _ heH) hde he2 ?_);refine wpAny_bind (wpAny_pure (wpAny_pure ?_));show wpAny _ _ (updateField H.objs.size 2 (.ref e)>>=λZ=>throw (.ref H.objs.size)) _ _ _;generalize hO:({cls:=Value.type "StopIteration",data:=Data.fields (#[Value.ref s.heap.objs.size,Value.none,Value.none,Value.none,Value.bool false,Value.none]++ownMembersOf (Value.type "StopIteration") [])}:Obj)=o;have hx2:=Heap.get?_push_size H (o:=o) (by subst hO;rfl);unfold updateField;refine wpAny_bind (wpAny_bind (wpAny_load hx2 ?_));subst hO;refine wpAny_update hx2 (wpAny_throw (h _ _ _ (Heap.get?_update_self _ hx2 rfl) rfl λb ob q=> ?_));have h1:=up b ob q;exact (Heap.get?_update_other _ _ (Nat.ne_of_gt (Heap.lt_size h1))).trans (Heap.get?_push_of_some _ h1)
variable {E:Value→Shared→Prop}
noncomputable abbrev HX (s:Shared)(it:Addr)(Q:Option Value→Shared→Prop):Prop:= ∀h',Heap.ExtBut it s.heap h'→Q none {s with heap:=h'}
theorem uK {it l:Addr}{i:Nat}{bf:Array Value}{Q:Option Value→Shared→Prop}{R:List (Addr×Obj)}(hh:qr A R)(hR: ∀p∈R,p.1≠it∧s.heap.get? p.1=some p.2)(hit:s.heap.IsListIter it l i)(hl:s.heap.IsList l bf)(hx:bf[i]? =none)
  (hQ:HX s it Q):wpAny (model prog w) A (pyNext (.ref it)) Q E s:=by
 cases hh with
 |no hh=>exact wpAny_pyNext_list_end hh hit hl hx hQ
 |bR hh hO hm=>
  obtain ⟨o,ho,hc,hd⟩:=id hit;obtain ⟨ol,hol,_,nl,hdl⟩:=hl;unfold pyNext;refine wpAny_bind (wpAny_attempt (wpAny_callSpecial?_slot (name:=Str.ofString "__next__") hit.typeIs slot_listiter_next
   (wpAny_call_entry slot_listiter_next hit.typeIs entry_listiter_next ?_ (args_listiter_next _))))
  show wpAny _ _ (field (.ref it) 0>>=_) _ _ s;refine wpAny_bind (wpAny_field ho hd (x:= .ref l) rfl ?_);show wpAny _ _ (field (.ref it) 1>>=_) _ _ s;refine wpAny_bind (wpAny_field ho hd (x:= .int i 0) rfl ?_);show wpAny _ _ (seqItems? (.ref l)>>=_) _ _ s;refine wpAny_bind (wpAny_seqItems hol hdl ?_)
  simp only [Int.toNat_natCast,hx]
  refine wpAny_bind (wpAny_rule (wpAny_bind (wpAny_setField ho hd (Nat.zero_lt_succ 1) ?_)));refine kN (A:=A.in1) hh ((Heap.get?_update_other _ _ (Ne.symm (hR _ hm).1)).trans (hR _ hm).2) hO λx h' o' hx' hc' up=> ?_;refine wpAny_bind (wpAny_isInstance (T:= "StopIteration") (b:=true) ⟨_,hx',hc'⟩ isSubtype_stop ?_);exact wpAny_pure (hQ _ λb ob hb hob=>up b ob ((Heap.SameBut.update ..).extBut b ob hb hob))
theorem rI {it l:Addr}{i:Nat}{bf:Array Value}{Q:Option Value→Shared→Prop}{R:List (Addr×Obj)}(hh:qr A R)(hR: ∀p∈R,p.1≠it∧s.heap.get? p.1=some p.2)(hit:s.heap.IsTupleIter it l i)(hl:s.heap.IsTuple l bf)(hx:bf[i]? =none)
  (hQ:HX s it Q):wpAny (model prog w) A (pyNext (.ref it)) Q E s:=by
 cases hh with
 |no hh=>exact wpAny_pyNext_tuple_end hh hit hl hx hQ
 |bR hh hO hm=>
  obtain ⟨o,ho,hc,hd⟩:=id hit;obtain ⟨ol,hol,_,nl,hdl⟩:=hl;unfold pyNext;refine wpAny_bind (wpAny_attempt (wpAny_callSpecial?_slot (name:=Str.ofString "__next__") hit.typeIs PySem.F.slot_tuple_iterator_next
   (wpAny_call_entry PySem.F.slot_tuple_iterator_next hit.typeIs PySem.F.entry_tuple_iterator_next ?_ (PySem.F.args_tuple_iterator_next_1 _))))
  show wpAny _ _ (field (.ref it) 0>>=_) _ _ s;refine wpAny_bind (wpAny_field ho hd (x:= .ref l) rfl ?_);show wpAny _ _ (field (.ref it) 1>>=_) _ _ s;refine wpAny_bind (wpAny_field ho hd (x:= .int i 0) rfl ?_);show wpAny _ _ (seqItems? (.ref l)>>=_) _ _ s;refine wpAny_bind (wpAny_seqItems hol hdl ?_)
  simp only [Int.toNat_natCast,hx]
  refine wpAny_bind (wpAny_rule (wpAny_bind (wpAny_setField ho hd (Nat.zero_lt_succ 1) ?_)));refine kN (A:=A.in1) hh ((Heap.get?_update_other _ _ (Ne.symm (hR _ hm).1)).trans (hR _ hm).2) hO λx h' o' hx' hc' up=> ?_;refine wpAny_bind (wpAny_isInstance (T:= "StopIteration") (b:=true) ⟨_,hx',hc'⟩ isSubtype_stop ?_);exact wpAny_pure (hQ _ λb ob hb hob=>up b ob ((Heap.SameBut.update ..).extBut b ob hb hob))
end
noncomputable def aN (l:aJ):Prop:=(l.map (·.1)).Nodup
theorem aN.dA {l l':aJ}(p:l.Perm l')(h:aN l):aN l':=(p.map _).nodup_iff.mp h
theorem aN.sub {l l':aJ}(p:List.Sublist l' l)(h:aN l):aN l':=(p.map _).nodup h
theorem aN.cons {a:Addr}{o:Obj}{l:aJ}(h:aN l)(f: ∀p∈l,p.1≠a):aN ((a,o)::l):=
 List.nodup_cons.mpr ⟨λhm=>by obtain ⟨p,hp,e⟩:=List.mem_map.mp hm;exact f p hp e,h⟩
theorem aN.sW {d:Addr}{o:Obj}{l:aJ}(h:aN ((d,o)::l)): ∀p∈l,p.1≠d:=λp hp e=>(List.nodup_cons.mp h).1 (List.mem_map.mpr ⟨p,hp,e⟩)
theorem aN.set {d:Addr}{o o':Obj}{pre post:aJ}(h:aN (pre++(d,o)::post)):aN (pre++(d,o')::post):=by
 have e: ∀x:Obj,(pre++(d,x)::post).map (·.1)=pre.map (·.1)++d::post.map (·.1):=λx=>List.map_append ..;unfold aN at*;rw [e] at h⊢;exact h
theorem Ct {d:Addr}{o:Obj}{post:aJ}: ∀{pre:aJ},aN (pre++(d,o)::post)→UpdF d o (pre++(d,o)::post) (λo'=>pre++(d,o')::post):=λ{pre}=>by
 induction pre with
 |nil=>exact λh=> .head h.sW
 |cons p pre ih=>exact λh=> .tail (λe=>h.sW (d,o) (WB _ (.head _)) e.symm) (ih (aN.sub (List.sublist_cons_self _ _) h))
theorem oj {d:Addr}{o o':Obj}{post:aJ}: ∀{pre:aJ},aN (pre++(d,o)::post)→Upd d o o' (pre++(d,o)::post) (pre++(d,o')::post):=λ{pre}=>by
 induction pre with
 |nil=>exact λh=> .head h.sW
 |cons p pre ih=>exact λh=> .tail (λe=>h.sW (d,o) (WB _ (.head _)) e.symm) (ih (aN.sub (List.sublist_cons_self _ _) h))
theorem bw {g h:Heap}{L:Addr}{l l':aJ}(N:News g L h l)(s: ∀p∈l',p∈l):News g L h l':=λp hp=>N p (s p hp)
theorem push {p:Addr×Obj}{X Y Z:aJ}(h:(p::Y).Perm Z):(p::(X++Y)).Perm (X++Z):=List.perm_middle.symm.trans (h.append_left X)
noncomputable def fX (env:PySem.Env)(aG:aJ)(x:N):Option Value:=(env.cells.lookup (nm x)).bind λc=>(aG.lookup c).bind λo=>match o.data with
  | .cell v=>v
  |_=>none
noncomputable def bP (env:PySem.Env)(m:Str→Option Value)(aG:aJ)(x:N):Option Value:=match env.kindOf (nm x) with
 |some .local=>m (nm x)
 |some .cell=>fX env aG x
 |some .free=>fX env aG x
 |_=>none
noncomputable def vG (o:Obj)(m:Str→Option Value):Prop:= ∃es ep,o.data= .dict es ep∧StrKeys es∧ ∀name,nsFind es name=m name
structure eE (env:PySem.Env)(aG:aJ):Prop where
 c: ∀p∈env.cells,∃o v,(p.2,o)∈aG∧o.data= .cell v
 f: ∀L,env.frame=some L→L≠env.locals→ ∃o m,(L,o)∈aG∧vG o m
inductive dZ (D:Wd)(env:PySem.Env)(X:N→Bool)(m:Str→Option Value)(aG fz:aJ)(αs:List Addr):ao→aJ→Prop
 |nil (h:eE env aG):dZ D env X m aG fz αs [] []
 |val {x v u ρ aL}:cu ρ x=none→(X x=true→bP env m aG x=some u)→aU D fz αs v u→dZ D env X m aG fz αs ρ aL→dZ D env X m aG fz αs ((x,.val v)::ρ) aL
 |own {x l a vs e ρ aL}:cu ρ x=none→(X x=true→bP env m aG x=some (.ref a))→aH D fz αs l vs→dZ D env X m aG fz αs ρ aL→
   dZ D env X m aG fz αs ((x,.own l)::ρ) ((a,bh vs e)::aL)
inductive CJ (D:Wd)(env:PySem.Env)(X:N→Bool)(m:Str→Option Value)(aG fz:aJ)(αs:List Addr)(ρ:ao)(aL:aJ)(x:N)(l:List V):Prop
 |mk {a vs e pre post} (hx:X x=true→bP env m aG x=some (.ref a)) (r:aH D fz αs l vs) (hl:aL=pre++(a,bh vs e)::post)
   (w: ∀l' vs' e',aH D fz αs l' vs'→dZ D env X m aG fz αs (b8 ρ x (.own l')) (pre++(a,bh vs' e')::post))
   (f: ∀fz',dE fz αs fz' αs→ ∀v,aU D fz' αs v (.ref a)→dZ D env X m aG fz' αs (b8 ρ x (.val v)) (pre++post)):CJ D env X m aG fz αs ρ aL x l
theorem cz {ρ:ao}{x:N}{v:LV}:cu ((x,v)::ρ) x=some v:=WE rfl
theorem bE {ρ:ao}{x y:N}{v:LV}(h:y≠x):cu ((y,v)::ρ) x=cu ρ x:=WG h
theorem dX {ρ:ao}{x:N}{v w:LV}:b8 ((x,v)::ρ) x w=(x,w)::ρ:=WE rfl
theorem cQ {ρ:ao}{x y:N}{v w:LV}(h:y≠x):b8 ((y,v)::ρ) x w=(y,v)::b8 ρ x w:=WG h
theorem cN (ρ:ao)(x y:N)(v:LV)(h:x≠y):cu (b8 ρ x v) y=cu ρ y:=by
 induction ρ with
 |nil=>exact bE h
 |cons p r ih=>
  by_cases q:p.1=x
  ·subst q;exact aa (show b8 (p::r) p.1 v=(p.1,v)::r from WE rfl) (aa (bE h) ((bE h).symm))
  ·refine aa (show b8 (p::r) x v=p::b8 r x v from WG q) ?_;show (if p.1=y then _ else cu (b8 r x v) y)=if p.1=y then _ else cu r y
   exact aa ih rfl
section
variable {D:Wd}{env:PySem.Env}{X:N→Bool}{m:Str→Option Value}{aG fz fz':aJ}{αs αs':List Addr}{ρ:ao}{aL:aJ}{x:N}{v:V}{l:List V}
theorem dZ.aw (y:dE fz αs fz' αs')(o:dZ D env X m aG fz αs ρ aL):dZ D env X m aG fz' αs' ρ aL:=by
 induction o with
 |nil h=>exact .nil h
 |val n h r _ ih=>exact .val n h (r.aw y) ih
 |own n h r _ ih=>exact .own n h (aH.aw y r) ih
theorem dZ.vK (o:dZ D env X m aG fz αs ρ aL):eE env aG:=by
 induction o with
 |nil h=>exact h
 |val _ _ _ _ ih=>exact ih
 |own _ _ _ _ ih=>exact ih
theorem dZ.As (o:dZ D env X m aG fz αs ρ aL):cu ρ x=some (.val v)→X x=true→ ∃u,bP env m aG x=some u∧aU D fz αs v u:=by
 induction o with
 |nil h=>exact ig
 | @val y _ _ _ _ n h r _ ih=>
  by_cases q:y=x
  ·subst q;refine aa cz ?_;exact λe hx=>by cases e;exact ⟨_,h hx,r⟩
  ·exact aa (bE q) ih
 | @own y _ _ _ _ _ _ n h r _ ih=>
  by_cases q:y=x
  ·subst q;exact aa cz (λe=>nomatch e)
  ·exact aa (bE q) ih
theorem dZ.pM (o:dZ D env X m aG fz αs ρ aL):cu ρ x=some (.own l)→CJ D env X m aG fz αs ρ aL x l:=by
 induction o with
 |nil h=>exact ig
 | @val y _ _ _ _ n h r _ ih=>
  by_cases q:y=x
  ·subst q;exact aa cz (λe=>nomatch e)
  ·refine aa (bE q) ?_;intro e;obtain ⟨h1,h2,rfl,h4,h5⟩:=ih e;exact .mk h1 h2 rfl (λl' vs' e' r'=>by exact aa (cQ q) (.val ((cN _ _ _ _ (Ne.symm q)).trans n) h r (h4 l' vs' e' r')))
    λfz' k w r'=>by exact aa (cQ q) (.val ((cN _ _ _ _ (Ne.symm q)).trans n) h (r.aw k) (h5 fz' k w r'))
 | @own y _ a vs e0 _ aL n h r o ih=>
  by_cases q:y=x
  ·subst q;refine aa cz ?_;intro e;cases e;exact .mk (pre:=[]) h r rfl (λl' vs' e' r'=>by exact aa dX (.own n h r' o)) λfz' k w r'=>by exact aa dX (.val n h r' (o.aw k))
  ·refine aa (bE q) ?_;intro e;obtain ⟨h1,h2,rfl,h4,h5⟩:=ih e;exact .mk (pre:=(a,_)::_) h1 h2 rfl (λl' vs' e' r'=>by exact aa (cQ q) (.own ((cN _ _ _ _ (Ne.symm q)).trans n) h r (h4 l' vs' e' r')))
    λfz' k w r'=>by exact aa (cQ q) (.own ((cN _ _ _ _ (Ne.symm q)).trans n) h (aH.aw k r) (h5 fz' k w r'))
end
structure GS where
 m:Str→Option Value
 aG:aJ
 αs:List Addr
 fz:aJ
 own:aJ
 mu:aJ
structure Cx where
 D:Wd
 A₀:Around
 A:Around
 base:Heap
 outer:List PySem.Env
 g:Heap
 env:PySem.Env
 comp:Bool
 X:N→Bool
 gens:Array GenState
 os:OsState
 rest:aJ
 Dk:aJ
 Ea:List Addr
noncomputable abbrev Cx.L (C:Cx):Addr:=C.env.locals
noncomputable abbrev Cx.aS (C:Cx)(r:aJ):Cx:={C with rest:=r}
noncomputable abbrev aL (γ:GS)(r:aJ):aJ:=γ.aG++(γ.own++(γ.mu++(r++γ.fz)))
noncomputable abbrev GS.oY (γ:GS)(tmp:aJ):GS:={γ with fz:=tmp++γ.fz}
structure FS (C:Cx)(ρ:ao)(σ:St)(γ:GS)(s:Shared):Prop where
 fr:Fr C.g C.L s.heap γ.m
 nw:News C.g C.L s.heap (aL γ C.rest)
 ds:aN (aL γ C.rest)
 ow:dZ C.D C.env C.X γ.m γ.aG γ.fz γ.αs ρ γ.own
 mu:bX C.D γ.fz γ.αs σ γ.αs γ.mu
 ge:s.gens=C.gens
 os:s.os=C.os
 x0:dE C.Dk C.Ea γ.fz γ.αs
theorem cg {fz tmp:aJ}{αs:List Addr}:dE fz αs (tmp++fz) αs:=⟨λp hp=>WB _ hp,λZ Z e=>e⟩
section
variable {C:Cx}{ρ ρ':ao}{σ σ':St}{γ:GS}{s s':Shared}{p:Addr×Obj}{r:aJ}{a:Addr}{o:Obj}
theorem FS.same (S:FS C ρ σ γ s)(hh:s'.heap=s.heap:=by rfl)(hg:s'.gens=s.gens:=by rfl)(ho:s'.os=s.os:=by rfl):FS C ρ σ γ s':=
 ⟨hh▸S.fr,hh▸S.nw,S.ds,S.ow,S.mu,hg.trans S.ge,ho.trans S.os,S.x0⟩
theorem FS.keep (S:FS C ρ σ γ s)(F':Fr C.g C.L s'.heap γ.m)(N':News C.g C.L s'.heap (aL γ C.rest))(hg:s'.gens=s.gens:=by rfl)(ho:s'.os=s.os:=by rfl):FS C ρ σ γ s':=
 ⟨F',N',S.ds,S.ow,S.mu,hg.trans S.ge,ho.trans S.os,S.x0⟩
theorem FS.fresh (S:FS C ρ σ γ s): ∀p∈aL γ C.rest,p.1≠s.heap.objs.size:=λp hp=>Nat.ne_of_lt (Heap.lt_size (S.nw p hp).1)
theorem FS.alloc (S:FS C ρ σ γ s)(F':Fr C.g C.L s'.heap γ.m)(N':News C.g C.L s'.heap ((a,o)::aL γ C.rest))(f: ∀p∈aL γ C.rest,p.1≠a)(hg:s'.gens=s.gens:=by rfl)(ho:s'.os=s.os:=by rfl):FS (C.aS ((a,o)::C.rest)) ρ σ γ s':=
 have q:((a,o)::aL γ C.rest).Perm (aL γ ((a,o)::C.rest)):=push (push (push (.refl _)))
 ⟨F',bw N' λp hp=>q.mem_iff.mpr hp,aN.dA q (S.ds.cons f),S.ow,S.mu,hg.trans S.ge,ho.trans S.os,S.x0⟩
theorem sN:(aL γ (p::r)).Perm (aL (γ.oY [p]) r):=(push (push (push (.refl _)))).symm.trans (push (push (push (push (.refl _)))))
theorem FS.hY (S:FS (C.aS (p::r)) ρ σ γ s):FS (C.aS r) ρ σ (γ.oY [p]) s:=
 ⟨S.fr,bw S.nw λZ hp=>sN.mem_iff.mpr hp,aN.dA sN S.ds,S.ow.aw cg,S.mu.aw cg,S.ge,S.os,S.x0.trans cg⟩
theorem eY:List.Sublist (aL γ r) (aL γ (p::r)):=List.Sublist.append_left (List.Sublist.append_left (List.Sublist.append_left (List.sublist_cons_self _ _) _) _) _
theorem FS.drop (S:FS (C.aS (p::r)) ρ σ γ s):FS (C.aS r) ρ σ γ s:=
 ⟨S.fr,bw S.nw λZ hp=>eY.mem hp,S.ds.sub eY,S.ow,S.mu,S.ge,S.os,S.x0⟩
set_option tactic.hygienic true in
theorem FS.EZ {x:N}{l:List V}(S:FS C ρ σ γ s)(e:cu ρ x=some (.own l)){P:Prop}
  (k: ∀a vs e' own',(C.X x=true→bP C.env γ.m γ.aG x=some (.ref a))→aH C.D γ.fz γ.αs l vs→FS C (b8 ρ x (.val (.list l))) σ {γ with own:=own',fz:=(a,bh vs e')::γ.fz} s→P):P:=by
 obtain ⟨h1,h2,h3,h4,h5⟩:=S.ow.pM e;rename_i a vs e' pre post;have x':dE γ.fz γ.αs ((a,bh vs e')::γ.fz) γ.αs:=cg (tmp:=[_]);have q:(aL γ C.rest).Perm (aL {γ with own:=pre++post,fz:=(a,bh vs e')::γ.fz} C.rest):=by
  refine WH _ ?_;refine aa h3 (aa (Wn ..) ?_);show (pre++((a,bh vs e')::(post++(γ.mu++(C.rest++γ.fz))))).Perm ((pre++post)++_);exact aa (Wn ..) ((push (push (push (.refl _)))).append_left pre)
 exact k a vs e' (pre++post) h1 h2 ⟨S.fr,bw S.nw λZ hq=>q.mem_iff.mpr hq,S.ds.dA q,h5 _ x' _ (.eP (.head _) (aH.aw x' h2)),S.mu.aw x',S.ge,S.os,S.x0.trans x'⟩
theorem ic {pre post:aJ}{x:Obj}:aL {γ with mu:=pre++(a,x)::post} r=(γ.aG++(γ.own++pre))++(a,x)::(post++(r++γ.fz)):=by
 show γ.aG++(γ.own++((pre++(a,x)::post)++(r++γ.fz)))=_;refine aa (Wn ..) ?_;rw [←Wn γ.own,←Wn γ.aG];rfl
theorem FS.Qm {pre post:aJ}(F:FS C ρ σ γ s)(e:γ.mu=pre++(a,o)::post):UpdF a o (aL γ C.rest) (λo'=>aL {γ with mu:=pre++(a,o')::post} C.rest):=by
 have e0:aL γ C.rest=_:=(WJ (λm=>aL {γ with mu:=m} C.rest) e).trans ic;exact aa (show (λo'=>aL {γ with mu:=pre++(a,o')::post} C.rest)=_ from funext λZ=>ic) (aa e0 (Ct (e0▸F.ds)))
theorem FS.Oj {pre post:aJ}{o':Obj}(F:FS C ρ σ γ s)(e:γ.mu=pre++(a,o)::post):Upd a o o' (aL γ C.rest) (aL {γ with mu:=pre++(a,o')::post} C.rest):=by
 have e0:aL γ C.rest=_:=(WJ (λm=>aL {γ with mu:=m} C.rest) e).trans ic;exact aa ic (aa e0 (oj (e0▸F.ds)))
theorem FS.Mh {pre post:aJ}{o':Obj}(F:FS C ρ σ γ s)(e:γ.mu=pre++(a,o)::post)(hR:bX C.D γ.fz γ.αs σ' γ.αs (pre++(a,o')::post))(F':Fr C.g C.L s'.heap γ.m)(N':News C.g C.L s'.heap (aL {γ with mu:=pre++(a,o')::post} C.rest))
  (hg:s'.gens=s.gens:=by rfl) (ho:s'.os=s.os:=by rfl):FS C ρ σ' {γ with mu:=pre++(a,o')::post} s':=by
 refine ⟨F',N',?_,F.ow,hR,hg.trans F.ge,ho.trans F.os,F.x0⟩;have e0:aL γ C.rest=_:=(WJ (λm=>aL {γ with mu:=m} C.rest) e).trans ic;show aN (aL {γ with mu:=pre++(a,o')::post} C.rest);exact aa ic ((e0▸F.ds:aN _).set)
theorem jL {pre post:aJ}{x:Obj}:aL {γ with own:=pre++(a,x)::post} r=(γ.aG++pre)++(a,x)::(post++(γ.mu++(r++γ.fz))):=by
 show γ.aG++((pre++(a,x)::post)++(γ.mu++(r++γ.fz)))=_;refine aa (Wn ..) ?_;rw [←Wn γ.aG];rfl
theorem FS.RS {pre post:aJ}{o':Obj}(F:FS C ρ σ γ s)(e:γ.own=pre++(a,o)::post):Upd a o o' (aL γ C.rest) (aL {γ with own:=pre++(a,o')::post} C.rest):=by
 have e0:aL γ C.rest=_:=(WJ (λm=>aL {γ with own:=m} C.rest) e).trans jL;exact aa jL (aa e0 (oj (e0▸F.ds)))
theorem FS.RQ {pre post:aJ}{o':Obj}(F:FS C ρ σ γ s)(e:γ.own=pre++(a,o)::post)(hR:dZ C.D C.env C.X γ.m γ.aG γ.fz γ.αs ρ' (pre++(a,o')::post))(F':Fr C.g C.L s'.heap γ.m)(N':News C.g C.L s'.heap (aL {γ with own:=pre++(a,o')::post} C.rest))
  (hg:s'.gens=s.gens:=by rfl) (ho:s'.os=s.os:=by rfl):FS C ρ' σ {γ with own:=pre++(a,o')::post} s':=by
 refine ⟨F',N',?_,hR,F.mu,hg.trans F.ge,ho.trans F.os,F.x0⟩;have e0:aL γ C.rest=_:=(WJ (λm=>aL {γ with own:=m} C.rest) e).trans jL;show aN (aL {γ with own:=pre++(a,o')::post} C.rest);exact aa jL ((e0▸F.ds:aN _).set)
end
noncomputable def lG:List N:=Ja.map (·.1)
structure Pr (D:Wd):Prop where
 fn: ∀f,f∈Cp→nsIn D.K mainGlobals (nm f)=some (some (.ref (D.fa f)))
 keep: ∀f,f∈lG→keepIn D.K (.ref (D.fa f))=true
 cls: ∀c,c∈uk→nsIn D.K mainGlobals (nm c)=some (some (.ref (D.ca c)))
 Dc: ∀c,c∈uk→keepIn D.K (.ref (D.ca c))=true
structure jj (D:Wd)(c:N)(n:N):Prop where
 plain:plainGet D.K (D.ca c) (nm n)=true
 dict:hasDictIn D.K (D.ca c)=true
 own: ∃attr,findIn D.K (.ref (D.ca c)) (nm n)=some attr∧noGet D.K attr=true
 set:findIn D.K (.ref (D.ca c)) "__setattr__" =some (some (.builtin "object.__setattr__"))
 Ou:plainOver D.K (D.ca c)=true
 Sk:takerIn D.K (D.ca c) (nm n)=some none
structure PC (D:Wd):Prop where
 plain: ∀c n f,gU c n=some f→plainGet D.K (D.ca c) (nm n)=true
 find: ∀c n f,gU c n=some f→findIn D.K (.ref (D.ca c)) (nm n)=some (some (.ref (D.fa f)))
 fn: ∀f,isFn D.K (.ref (D.fa f))=true
structure MK (D:Wd):Prop where
 Rm: ∀x v,w9 x=some v→ ∃u,nsIn D.K mainGlobals (nm x)=some (some u)∧aU D [] [] v u
 len:nsIn D.K mainGlobals (Str.ofString "len")=some none
 sum:nsIn D.K mainGlobals (Str.ofString "sum")=some none
 Sg:nsIn D.K mainGlobals (Str.ofString "sorted")=some none
 GK:nsIn D.K mainGlobals (Str.ofString "range")=some none
 str:nsIn D.K mainGlobals (Str.ofString "str")=some none
structure lu (D:Wd)(a:Addr)(ps:List N)(df:List V)(ks:List (Str×NameKind))(body:List Stmt)(fd:FuncData):Prop where
 obj: ∃fo,D.K.lookup a=some fo∧fo.data= .func fd
 Q6:fd.body= .stmts body
 ks:fd.scope.names=ks
 gl:fd.globals=mainGlobals
 bu:fd.builtins=builtinsNs
 cl:fd.closure=[]
 code:codeIn D.K fd.code fd.qualname=true
 bind: ∀(s:Shared) (us:List Value),D.K.In s.heap→us.length+(df.drop (df.length+us.length - ps.length)).length=ps.length→
  ∃ds,(∀(fz:aJ) (αs:List Addr),aH D fz αs (df.drop (df.length+us.length - ps.length)) ds)∧BindsTo s fd ⟨us,[]⟩ ((ps.map nm).zip (us++ds))
 nd:(ps.map nm).Nodup
 sH:((ps.map nm).all λy=>fd.scope.names.lookup y==some .local||fd.scope.names.lookup y==some .cell)=true
 L5:((cellsFrom 0 fd.scope.names []).map (·.1)).Nodup
 co:fd.scope.isCoroutine=false
 aB:fd.scope.isGenerator=false
 kind:fd.scope.kind= .function
structure Eg (D:Wd)(ca fI:Addr):Prop where
 Mg:makesIn D.K ca=true
 fi:findIn D.K (.ref ca) "__init__" =some (some (.ref fI))
 ty:typeIn D.K (.ref fI)=some (.type "function")
structure CH (D:Wd)(c:N):Prop where
 Mg:makesIn D.K (D.ca c)=true
 fi:findIn D.K (.ref (D.ca c)) "__init__" =some (some (.builtin "object.__init__"))
noncomputable def o7 (it:List (N×N))(body:List Stmt):Prop:=bZ (λp st=> ∃v p1 p2 p3,st= .Assign [.Attribute (.Name (nm SN) p1) (nm p.1) p2] v p3∧
 if p.2=0 then∃k p4,v= .Constant (.int 0) k p4 else∃p4,v= .Name (nm p.2) p4) it body
structure vM (D:Wd)(c:N)(it:List (N×N))(ks:List (Str×NameKind))(body:List Stmt)(fI:Addr)(fd:FuncData):Prop where
 Oi:Eg D (D.ca c) fI
 fn:lu D fI (SN::(it.map (·.2)).filter λy=>decide (y≠0)) [] ks body fd
 st:o7 it body
 gV:gP c=some (it.map (·.1))
noncomputable def pH:List (N×N):=[(Uo,Uo),(97,97),(Wk,Wk),(Vi,Vi),(TP,TP),(6580590,0)]
noncomputable def yY:List (N×N):=[(Uo,Uo),(Tf,Tf),(7173486,7173486),(TP,TP),(6581861,6581861),(SI,SI)]
noncomputable def oU:List (N×N):=[(SM,SM),(TP,TP),(VS,VS),(VH,VH)]
noncomputable def Jq:List (N×List (N×N)):=[(Ve,pH),(TK,yY),(UO,oU)]
structure HW (D:Wd):Prop where
 RG: ∀c,gP c=some []→CH D c
 Rl: ∀c it,bt Jq c=some it→ ∃ks body fI fd,vM D c it ks body fI fd
 RF: ∀c f,Dq c=some f→Eg D (D.ca c) (D.fa f)
structure mO (K:Frag)(C:Addr)(name:Str):Prop where
 sa:findIn K (.ref C) "__setattr__" =some (some (.builtin "object.__setattr__"))
 cls: ∃cd,clsIn K C=some cd∧cd.mro.isEmpty=false∧cd.mro.contains (.type "object")=true∧(∀GV,refuseLoop GV "__setattr__" cd.mro=pure ())∧cd.hasDict=true
 tk:takerIn K C name=some none
structure QY (D:Wd)(nme q:Str)(N0:Addr)(bs bm:List Value)(hdct:Bool)(sn:List Str)(sub:List Value)(ab:Bool)(col:Option Bool)(dd:Option Addr)(k0 k1 k2 k3 k5:Option Value):Prop where
 obj:D.K.lookup D.ps=some (excClassObj nme q D.ps N0 bs bm hdct sn sub ab col dd k0 k1 k2 k3 k5 "Exception.__new__")
 ex:bm.contains (.type "Exception")=true
 be:bm.contains (.type "BaseException")=true
 ae:bm.contains (.type "AttributeError")=false
 ne:bm.contains (.type "NameError")=false
structure vU (D:Wd)(fI:Addr)(fd:FuncData)(ks:List (Str×NameKind))(body:List Stmt):Prop where
 nm:nsIn D.K mainGlobals (nm Tu)=some (some (.ref D.ps))
 cls: ∃nme q N0 bs bm hdct sn sub ab col dd k0 k1 k2 k3 k5,QY D nme q N0 bs bm hdct sn sub ab col dd k0 k1 k2 k3 k5
 keep:keepIn D.K (.ref D.ps)=true
 fi:findIn D.K (.ref D.ps) "__init__" =some (some (.ref fI))
 ty:typeIn D.K (.ref fI)=some (.type "function")
 fn:lu D fI [SN,Tf] [.str 0] ks body fd
 st:o7 [(SM,0),(Tf,Tf)] body
 s1:mO D.K D.ps (Mine.nm SM)
 s2:mO D.K D.ps (Mine.nm Tf)
structure HY (D:Wd):Prop where
 FO:Pr D
 KO: ∀c n,hZ c n=true→jj D c n
 MO:PC D
 GO:MK D
 CO:HW D
 PO: ∃fI fd ks body,vU D fI fd ks body
 P2: ∀f∈lG,∃fd,lu D (D.fa f) (jz f) (iG f) (pG f) (dQ f) fd
noncomputable def Mi:List (N×(Nat×Nat)):=[(1717658988,(0,0)),(1734965108,(0,0)),(Wc,(0,0)),(SE,(0,0)),(Tg,(0,0)),(SV,(0,0)),(U6,(0,0)),(UI,(0,0)),(VM,(0,0)),(TF,(0,0)),(Um,(0,0)),(Sv,(0,1)),(Tr,(0,1)),(Ts,(0,1)),(Ss,(0,2)),(S9,(0,2)),(Uw,(0,3)),(Ut,(0,3)),(Uu,(0,3)),(Uv,(0,4)),(Vl,(0,2)),(Sw,(0,1)),(Tp,(0,1)),(SW,(0,3)),(VA,(0,1)),(VT,(0,0)),(Sr,(1,5)),(VL,(1,12)),(Vn,(0,0)),(S5,(0,1)),(Vu,(0,1)),(VI,(0,0)),(TN,(0,1)),(Tz,(0,3)),(SH,(0,0)),(Uk,(0,0)),(US,(1,11)),(Ta,(1,7)),(Su,(1,10)),(TZ,(1,6)),(Ug,(1,6)),(Tt,(0,0)),(Tn,(1,6)),(TA,(1,7)),(TG,(0,1)),(S7,(1,6)),(Vo,(1,7)),(UB,(0,2)),(U9,(0,1)),(Vg,(0,1)),(Vm,(1,8)),(UP,(1,9)),(UN,(0,2)),(UQ,(1,9)),(U7,(1,7)),(Uq,(1,8)),(U8,(1,8)),(Tx,(1,9)),(Td,(1,8)),(Ux,(1,6)),(S6,(1,8)),(S4,(1,7)),(Th,(1,6)),(U2,(0,2)),(Ul,(1,6)),(UL,(0,4)),(Tv,(0,0)),(UU,(0,1)),(Ue,(0,1)),(Ur,(1,7)),(SK,(0,1)),(Us,(1,6)),(UR,(1,7)),(Vh,(1,6)),(VJ,(0,2)),(Ub,(0,3)),(TU,(0,3)),(TR,(0,3)),(SG,(1,9)),(Vy,(1,6)),(UT,(0,1)),(Tc,(1,8)),(Ud,(1,7)),(Ti,(1,8)),(Uc,(1,7)),(TV,(0,0)),(TL,(0,0)),(UA,(0,0)),(Tb,(0,1)),(VN,(0,2)),(Uy,(0,2)),(Vq,(0,2)),(U5,(3,4)),(Vt,(3,5)),(Vj,(3,5)),(SU,(3,6)),(Uh,(0,317)),(Vz,(0,318)),(Uz,(0,318)),(Vx,(0,319)),(Vr,(0,1)),(Uj,(0,2)),(UE,(2,322)),(UC,(2,323)),(UK,(2,322)),(S8,(0,2)),(SY,(0,3)),(SS,(0,320)),(To,(2,324)),(U0,(2,324)),(TY,(2,325)),(Te,(2,322)),(U1,(2,323)),(SR,(2,323)),(Sy,(2,326)),(SA,(4,1)),(VB,(0,4)),(Sz,(0,651))]
noncomputable def bA (f:N):Nat×Nat:=(bt Mi f).getD (0,0)
noncomputable def wC (σ:St)(k:Nat):V:=match fL σ k with
 |some p=>(f6 p.2 Vf).getD .none
 |none=> .none
noncomputable def wF (σ:St):V×V:=(wC σ 6,wC σ 18)
noncomputable def j9 (v:V):Nat:=match bT v with
 |some d=>min d.toNat 40
 |none=>0
noncomputable def Tm (D:V×V):Nat:=80 - (j9 D.1+j9 D.2)
noncomputable def wA (k:Int)(v:V):Nat:=match bT v with
 |some d=>min (d+k).toNat 61
 |none=>0
noncomputable def eG (f:N):Bool:=decide (f=Sy)||decide (f=SU)
noncomputable def QL (f:N):Option Nat:=match (bA f).1 with
 |0=>none
 |1=>if f=Sr then some 0 else none
 |4=>some 0
 |_=>if f=U5 then some 2 else some 1
noncomputable def LN (f:N)(l:List V):V:=match QL f with
 |some i=>(l[i]?).getD .none
 |none=> .none
noncomputable def nB (f:N)(D:V×V)(w:V):Nat:=match (bA f).1 with
 |0=>(bA f).2
 |1=>(bA f).2+8*Tm D
 |4=>(bA f).2+min (fR w) 200
 |_=>(bA f).2+5*wA (if eG f=true then 1 else 2) w
noncomputable def Mz (f:N)(l:List V)(σ:St):Nat:=nB f (wF σ) (LN f l)
noncomputable def Mb (lo hi:Int)(v:V):Prop:= ∃d,v= .int d∧lo≤d∧d<hi
noncomputable def qY (w:V)(D:V×V):V:=match gQ w with
 |some k=>if k=6 then D.1 else if k=18 then D.2 else .none
 |none=> .none
noncomputable def zH (f:N)(D:V×V)(w:V):Prop:=
 (f=Sr→Mb 0 40 (qY w D))∧(eG f=true→Mb (-1) 59 w)∧(f=SA→fR w≤200)
noncomputable def vN (f:N)(l:List V)(σ:St):Prop:=zH f (wF σ) (LN f l)
structure Nx (γ γ':GS):Prop where
 m:γ'.m=γ.m
 aG:γ'.aG=γ.aG
 ext:dE γ.fz γ.αs γ'.fz γ'.αs
theorem Nx.refl {γ:GS}:Nx γ γ:=⟨rfl,rfl,.refl⟩
theorem Nx.trans {a b c:GS}(x:Nx a b)(y:Nx b c):Nx a c:=⟨y.m.trans x.m,y.aG.trans x.aG,x.ext.trans y.ext⟩
theorem Nx.oY {γ:GS}{tmp:aJ}:Nx γ (γ.oY tmp):=⟨rfl,rfl,cg⟩
inductive RK (C:Cx)(x t:Addr)(vs:List Value)(l:aJ)(h:Heap):Prop
 |zp (r:RaisedK C.base (C.env::C.outer) x (.ref C.D.ps) t vs l h)
 |lH {B:Heap} (hB:C.base.StaysIn B) (hl: ∀q∈l,B.get? q.1=some q.2∧C.base.get? q.1=none) (hh:Heap.HeldW B (C.env::C.outer) x (.ref C.D.ps) (.ref t) C.L h) (hn:B.get? t=none) (ht:h.TupAt t vs)
structure oD (C:Cx)(ρ:ao)(σ:St)(γ:GS)(x t:Addr)(vs:List Value)(gh:Heap)(s:Shared):Prop where
 fr:Fr C.g C.L gh γ.m
 up:gh.UpToSlots s.heap
 ra:RK C x t vs (aL γ C.rest) s.heap
 ds:aN (aL γ C.rest)
 ow:dZ C.D C.env C.X γ.m γ.aG γ.fz γ.αs ρ γ.own
 mu:bX C.D γ.fz γ.αs σ γ.αs γ.mu
 ge:s.gens=C.gens
 os:s.os=C.os
 x0:dE C.Dk C.Ea γ.fz γ.αs
 f2:F2 x s.heap
inductive b7 (C:Cx)(ρ:ao)(σ:St):Value→Shared→Prop
 |comp {e s} (h:C.comp=true):b7 C ρ σ e s
 |at {γ x t vs gh s} (r:oD C ρ σ γ x t vs gh s):b7 C ρ σ (.ref x) s
noncomputable def aA (C:Cx)(γ:GS)(r:R)(u:Value):Prop:=match r with
 | .v a=>aU C.D γ.fz γ.αs a u
 | .lr x=>C.X x=true∧bP C.env γ.m γ.aG x=some u
noncomputable def ly (C:Cx)(γ:GS)(a:V)(u:Value):Prop:=aU C.D γ.fz γ.αs a u
noncomputable def H8 (C:Cx)(γ:GS)(a:List V)(u:List Value):Prop:=aH C.D γ.fz γ.αs a u
noncomputable def gM (_C:Cx)(_γ:GS)(a:R)(u:Bool):Prop:=a= .v (.bool u)
noncomputable abbrev aC (C:Cx):Model:=model pw C.D.w
inductive fV {α β:Type}(C:Cx)(γ:GS)(rel:Cx→GS→α→β→Prop)(a:α)(ρ:ao)(σ:St)(b:β)(s:Shared):Prop
 |mk {γ'} (n:Nx γ γ') (F:FS C ρ σ γ' s) (r:rel C γ' a b):fV C γ rel a ρ σ b s
structure aW (C:Cx):Prop where
 IG:Below C.A₀ C.base C.outer C.g
 hA:C.comp=false→C.A.frames=some (C.env::C.outer)∧C.env.frame=some C.L
 hk:C.env.scope.kind= .function
 uy:C.env.globals=mainGlobals
 Fe:C.env.builtins=builtinsNs
 AN:C.g.NoLimit
 fh:C.D.K.In C.g
 qj:TopRead C.D.q C.D.loose C.D.mg C.D.mb C.g
 units:C.A.units+64<cLine
 vw:(C.g.get? sysModules).isSome=true
 LU: ∀x,C.X x=true→jP x=true
structure cV (C:Cx)(fe:PySem.Env):Prop where
 fr:C.A.frames=some (fe::C.outer)
 fl:C.env.frame=some fe.locals
 ff:fe.frame=some fe.locals
 fk:fe.scope.kind= .function
 ab:C.g.objs.size≤fe.locals
 eq:C.comp=false→fe=C.env
inductive jT (C:Cx)(ρ:ao)(γ:GS):qw→Result→Shared→Prop
 |ok {v σ u γ' s} (n:Nx γ γ') (F:FS C ρ σ γ' s) (r:aU C.D γ'.fz γ'.αs v u):jT C ρ γ (.ok v σ) (.ok (.ret u)) s
 |ba {σ e s} (R:b7 C ρ σ e s):jT C ρ γ (.ba σ) (.error e) s
structure aq (f:N)(l:List V)(σ:St)(r:qw):Prop where
 g:vN f l σ
 s: ∀C fe A' us ρ γ s,HY C.D→aW C→cV C fe→A'.frames=some (fe::C.outer)→(A'.handled=none∨f=Tg)→qr A' C.rest→A'.depth+1+Mz f l σ≤960→A'.units+3+3*Mz f l σ+100<cLine→
  FS C ρ σ γ s→aH C.D γ.fz γ.αs l us→codeAny (aC C) A' (.call (.ref (C.D.fa f)) ⟨us,[]⟩) (jT C ρ γ r) s
structure Sx where
 ks:List (Str×NameKind)
 f0:N
 D0:V×V
 w0:V
 lp:Bool
 cm:Bool
 cv:N
 fr:List (Str×NameKind)
noncomputable def Sx.n (sx:Sx):Nat:=nB sx.f0 sx.D0 sx.w0
noncomputable def Sx.X (sx:Sx)(y:N):Bool:=jP y&&(!sx.cm||decide (y=sx.cv)||decide (sx.fr.lookup (nm y)=some .free))
noncomputable def qG (f:N)(D:V×V)(w:V):Sx:={ks:=pG f,f0:=f,D0:=D,w0:=w,lp:=decide (f≠Tg),cm:=false,cv:=0,fr:=[]}
noncomputable def vv (f:N)(l:List V)(σ:St):Sx:=qG f (wF σ) (LN f l)
noncomputable def HT (f:N)(ρ:ao):V:=match QL f with
 |some i=>(match cu ρ (((jz f)[i]?).getD 0) with
  |some (.val v)=>v
  |_=> .none)
 |none=> .none
noncomputable def bj (f:N)(ρ:ao)(σ:St):Sx:=qG f (wF σ) (HT f ρ)
structure az (C:Cx)(sx:Sx):Prop where
 K:aW C
 fe: ∃fe,cV C fe
 H:HY C.D
 Ag:C.A.depth+sx.n≤960
 un:C.A.units+3*sx.n+100<cLine
 g:zH sx.f0 sx.D0 sx.w0
 ks: ∀n,C.env.kindOf n=sx.ks.lookup n
 X: ∀y,C.X y=sx.X y
 lp:sx.lp=true→C.A.handled=none
 hk:qr C.A C.rest
 cm:C.comp=sx.cm
 aG:sx.cm=false→C.env.frame=some C.L∧ ∃n,C.env.cells=cellsFrom n sx.ks []
 bg:sx.f0=Sz→C.base=C.g
inductive oB (C:Cx)(γ:GS)(ρ:ao)(σ:St)(s:Shared):Prop
 |mk {γ'} (x:dE γ.fz γ.αs γ'.fz γ'.αs) (F:FS C ρ σ γ' s):oB C γ ρ σ s
inductive aQ (C:Cx)(γ:GS):SO→Flow→Shared→Prop
 |next {ρ σ s} (h:oB C γ ρ σ s):aQ C γ (.next ρ σ) .next s
 |brk {ρ σ s} (h:oB C γ ρ σ s):aQ C γ (.brk ρ σ) .brk s
 |ew {ρ σ s} (h:oB C γ ρ σ s):aQ C γ (.ew ρ σ) .cont s
 |ret {v σ u ρ γ' s} (x:dE γ.fz γ.αs γ'.fz γ'.αs) (F:FS C ρ σ γ' s) (r:aU C.D γ'.fz γ'.αs v u):aQ C γ (.ret v σ) (.ret u) s
inductive iW (C:Cx):SO→Value→Shared→Prop
 |ba {ρ σ e s} (R:b7 C ρ σ e s):iW C (.ba ρ σ) e s
noncomputable def eO (f:N)(st:Stmt)(ρ:ao)(σ:St)(o:SO):Prop:= ∀C γ s,az C (bj f ρ σ)→FS C ρ σ γ s→wpAny (aC C) C.A (PySem.exec st C.env) (aQ C γ o) (iW C o) s
noncomputable def ET (f:N)(pe:Expr)(ρ:ao)(σ:St)(r:R)(ρ':ao)(σ':St):Prop:= ∀C γ s,az C (bj f ρ σ)→FS C ρ σ γ s→wpAny (aC C) C.A (eval pe C.env) (fV C γ aA r ρ' σ') (λZ Z=>False) s
inductive tW (C:Cx)(γ:GS)(vs:List V)(ρ:ao)(σ:St)(D Ca:Addr)(s:Shared):Prop
 |mk {γ' us k oC mC} (n:Nx γ γ') (hn:vG oC mC) (F:FS (C.aS ((Ca,oC)::(D,bh us k)::C.rest)) ρ σ γ' s) (r:aH C.D γ'.fz γ'.αs vs us):tW C γ vs ρ σ D Ca s
structure zA (C:Cx)(e iter:Expr)(g:Comprehension)(sc:Scope)(p:Pos)(γ:GS)(vs:List V)(ρ:ao)(σ:St)(s:Shared):Prop where
 Nj:g.is_async=0
 kind:sc.kind= .function
 gV: ∀y∈sc.names,y.2= .local→sc.names.lookup y.1=some .local
 run: ∃cl,closureFor sc C.env=pure cl∧ ∀(RR:Value→Addr→Result→Shared→Prop) (E:Value→Shared→Prop),(∀D Ca s',tW C γ vs ρ σ D Ca s'→RR (.ref D) Ca (.ok .next) s')→
  wpAny (aC C) C.A (eval iter C.env) (λxv s₁=>wpAny (aC C) C.A (pyIter xv) (λit s₂=>wpAny (aC C) C.A (newList []) (λacc s₃=>wpAny (aC C) C.A (newFunctionEnv sc C.env.globals cl [] C.env.qual none .none (some C.env)) (λcenv s₄=>
   codeAny (aC C) C.A (.compStart (.ListComp e [g] sc p) 0 it acc {cenv with scope:=relabel sc C.env}) (RR acc cenv.locals) s₄) E s₃) E s₂) E s₁) E s
noncomputable def CT (f:N)(e:Expr)(g:Comprehension)(sc:Scope)(p:Pos)(ρ:ao)(σ:St)(vs:List V)(ρ':ao)(σ':St):Prop:= ∀C γ s,az C (bj f ρ σ)→FS C ρ σ γ s→zA C e g.iter g sc p γ vs ρ' σ' s
inductive dG where
 |call (f:N) (l:List V) (σ:St)
 |lt (n:Nat)
 |ag (l:List V) (i:Int)
 |av (b:Bool)
 |lh (l:List V)
 |eJ (s:Stmt) (ρ:ao) (σ:St) (sx:Sx)
 |se (e:Expr) (ρ:ao) (σ:St) (sx:Sx)
 |op (o:Operator) (a b:Int)
 |v (a:V)
 |dd (D:V×V)
 |ew (x:V) (l:List V)
 |qB (o:CmpOp) (x y:V)
inductive aD where
 |call {f:N} {l:List V} {σ:St} {r:qw} (h:aq f l σ r)
 |lt {n:Nat} (h:n<16000000)
 |ag {l:List V} {i:Int} {v:V} (h:ag l i=some v)
 |av {b c:Bool} (h:b=c)
 |lh {l:List V} {x:V} {q:List V} (h:l.getLast? =some x∧l.dropLast=q∧l.length<16000000)
 |eJ {f:N} {s:Stmt} {ρ:ao} {σ:St} {o:SO} (h:eO f s ρ σ o)
 |ifs {f:N} {s:Stmt} {ρ:ao} {σ:St} {o:SO} (h:eO f s ρ σ o)
 |se {f:N} {e:Expr} {ρ:ao} {σ:St} {r:R} {ρ':ao} {σ':St} (h:ET f e ρ σ r ρ' σ')
 |cmp {f:N} {e:Expr} {g:Comprehension} {sc:Scope} {p:Pos} {ρ:ao} {σ:St} {vs:List V} {ρ':ao} {σ':St} (h:CT f e g sc p ρ σ vs ρ' σ')
 |op {o:Operator} {a b k:Int} (h:cF o a b=some k)
 |Qd {v x:V} (h:fR v<fR x)
 |ER {a b:Int} (h:a+1=b)
 |ew {x:V} {l:List V} {k:Nat} (h:ft x l=some k)
 |qB {o:CmpOp} {x y:V} {b:Bool} (h:z9 o x y=some b)
abbrev Ks:=List (dG×dG)
noncomputable def bN:Ks→Prop
 |[]=>True
 |p::r=>p.1=p.2∧bN r
theorem bN.eU {l q:Ks}(h:bN (l++q)):bN l∧bN q:=by
 induction l with
 |nil=>exact ⟨trivial,h⟩
 |cons p r ih=>exact ⟨⟨h.1,(ih h.2).1⟩,(ih h.2).2⟩
theorem bN.of: ∀{l:Ks},l.map (·.1)=l.map (·.2)→bN l:=λ{l}=>by
 induction l with
 |nil=>exact λZ=>trivial
 |cons p r ih=>exact λe=>⟨(List.cons.inj e).1,ih (List.cons.inj e).2⟩
set_option genCtorIdx true
inductive TO (α:Type) where
 |ok (a:α) (ρ:ao) (σ:St) (fs:List aD) (ks:Ks)
 |ba (ρ:ao) (σ:St) (fs:List aD) (ks:Ks)
 |bC
inductive TS where
 |bM (o:SO) (fs:List aD) (ks:Ks)
 |bC
set_option genCtorIdx false
section
variable {β:Type}
noncomputable def TO.pre (ks:Ks)(x:TO α):TO α:=match x with
 | .ok a ρ σ fs k=> .ok a ρ σ fs (ks++k)
 | .ba ρ σ fs k=> .ba ρ σ fs (ks++k)
 | .bC=> .bC
noncomputable def TO.bind (x:TO α)(f:α→ao→St→List aD→TO β):TO β:=match x with
 | .ok a ρ σ fs ks=>(f a ρ σ fs).pre ks
 | .ba ρ σ fs ks=> .ba ρ σ fs ks
 | .bC=> .bC
noncomputable def TO.HF (x:TO α):TO α:=match x with
 | .ok a ρ σ fs k=> .ok a ρ σ fs k
 |_=> .bC
noncomputable def TS.pre (ks:Ks)(x:TS):TS:=match x with
 | .bM o fs k=> .bM o fs (ks++k)
 | .bC=> .bC
noncomputable def TO.so (x:TO α)(f:α→ao→St→List aD→TS):TS:=match x with
 | .ok a ρ σ fs ks=>(f a ρ σ fs).pre ks
 | .ba ρ σ fs ks=> .bM (.ba ρ σ) fs ks
 | .bC=> .bC
noncomputable def TS.then (x:TS)(f:ao→St→List aD→TS):TS:=match x with
 | .bM o fs ks=>(match o with
  | .next ρ σ=>(f ρ σ fs).pre ks
  |o=> .bM o fs ks)
 | .bC=> .bC
noncomputable def WO (C:Cx)(γ:GS)(rel:Cx→GS→α→β→Prop)(a:α)(ρ:ao)(σ:St)(m:Sem β)(s:Shared):Prop:=wpAny (aC C) C.A m (fV C γ rel a ρ σ) (λZ Z=>False) s
noncomputable def TO.gd (o:TO α):Prop:=match o with
 | .ok _ _ _ _ ks=>bN ks
 | .ba _ _ _ ks=>bN ks
 | .bC=>False
noncomputable def SQ (C:Cx)(γ:GS)(rel:Cx→GS→α→β→Prop)(o:TO α):β→Shared→Prop:=match o with
 | .ok a ρ σ _ _=>fV C γ rel a ρ σ
 |_=>λZ Z=>False
noncomputable def SX (C:Cx)(o:TO α):Value→Shared→Prop:=match o with
 | .ba ρ σ _ _=>b7 C ρ σ
 |_=>λZ Z=>False
noncomputable def TS.gd (o:TS):Prop:=match o with
 | .bM _ _ ks=>bN ks
 | .bC=>False
noncomputable def TQ (C:Cx)(γ:GS)(o:TS):Flow→Shared→Prop:=match o with
 | .bM o _ _=>aQ C γ o
 | .bC=>λZ Z=>False
noncomputable def TX (C:Cx)(o:TS):Value→Shared→Prop:=match o with
 | .bM o _ _=>iW C o
 | .bC=>λZ Z=>False
noncomputable def KT (C:Cx)(γ:GS)(rel:Cx→GS→α→β→Prop)(o:TO α)(P:(β→Shared→Prop)→(Value→Shared→Prop)→Prop):Prop:=o.gd→P (SQ C γ rel o) (SX C o)
noncomputable def KS (C:Cx)(γ:GS)(o:TS)(P:(Flow→Shared→Prop)→(Value→Shared→Prop)→Prop):Prop:=o.gd→P (TQ C γ o) (TX C o)
noncomputable def bO (C:Cx)(γ:GS)(rel:Cx→GS→α→β→Prop)(o:TO α)(m:Sem β)(s:Shared):Prop:=KT C γ rel o λQ E=>wpAny (aC C) C.A m Q E s
noncomputable def cp (C:Cx)(γ:GS)(o:TS)(m:Sem Flow)(s:Shared):Prop:=KS C γ o λQ E=>wpAny (aC C) C.A m Q E s
end
section
variable {α' β β':Type}{C:Cx}{γ γ':GS}{rel:Cx→GS→α→β→Prop}{rel':Cx→GS→α'→β'→Prop}{s:Shared}
theorem fV.nx {a:α}{ρ:ao}{σ:St}{b:β}(n:Nx γ γ')(h:fV C γ' rel a ρ σ b s):fV C γ rel a ρ σ b s:=by
 cases h with
 |mk m F r=>exact .mk (n.trans m) F r
theorem bO.nx {o:TO α}{m:Sem β}(n:Nx γ γ')(h:bO C γ' rel o m s):bO C γ rel o m s:=by
 cases o with
 |ok a ρ σ fs ks=>exact λk=>wpAny_mono (h k) (λZ Z q=>q.nx n) λZ Z q=>q
 |ba ρ σ fs ks=>exact h
 |bC=>exact False.elim
theorem KT.pre {o:TO α}{ks:Ks}{P:(β→Shared→Prop)→(Value→Shared→Prop)→Prop}(h:bN ks→KT C γ rel o P):KT C γ rel (o.pre ks) P:=by
 cases o with
 |ok a ρ σ fs k=>exact λq=>h (bN.eU q).1 (bN.eU q).2
 |ba ρ σ fs k=>exact λq=>h (bN.eU q).1 (bN.eU q).2
 |bC=>exact False.elim
theorem KS.pre {o:TS}{ks:Ks}{P:(Flow→Shared→Prop)→(Value→Shared→Prop)→Prop}(h:bN ks→KS C γ o P):KS C γ (o.pre ks) P:=by
 cases o with
 |bM o fs k=>exact λq=>h (bN.eU q).1 (bN.eU q).2
 |bC=>exact False.elim
theorem KT.aE {γ0:GS}{x:TO α}{f:α→ao→St→List aD→TO α'}{m:Sem β}{G:β→(β'→Shared→Prop)→(Value→Shared→Prop)→Shared→Prop}(h:bO C γ0 rel x m s)
  (k: ∀a ρ σ fs γ' b s',Nx γ0 γ'→FS C ρ σ γ' s'→rel C γ' a b→KT C γ rel' (f a ρ σ fs) λQ E=>G b Q E s'):KT C γ rel' (x.bind f) λQ E=>wpAny (aC C) C.A m (λb s'=>G b Q E s') E s:=by
 cases x with
 |bC=>exact False.elim
 |ba ρ σ fs ks=>exact λq=>wpAny_mono (h q) (λZ Z z=>z.elim) λZ Z z=>z
 |ok a ρ σ fs ks=>
  have k:=k a ρ σ fs;show KT C γ rel' ((f a ρ σ fs).pre ks) _;revert k;generalize f a ρ σ fs=o;intro k;cases o with
  |bC=>exact False.elim
  |ok _ _ _ _ _=>exact λq=>wpAny_mono (h (bN.eU q).1) (λb s' z=>by obtain ⟨n,F,r⟩:=z;exact k _ b s' n F r (bN.eU q).2) λZ Z z=>z.elim
  |ba _ _ _ _=>exact λq=>wpAny_mono (h (bN.eU q).1) (λb s' z=>by obtain ⟨n,F,r⟩:=z;exact k _ b s' n F r (bN.eU q).2) λZ Z z=>z.elim
theorem KS.aE {γ0:GS}{x:TO α}{f:α→ao→St→List aD→TS}{m:Sem β}{G:β→(Flow→Shared→Prop)→(Value→Shared→Prop)→Shared→Prop}(h:bO C γ0 rel x m s)
  (k: ∀a ρ σ fs γ' b s',Nx γ0 γ'→FS C ρ σ γ' s'→rel C γ' a b→KS C γ (f a ρ σ fs) λQ E=>G b Q E s'):KS C γ (x.so f) λQ E=>wpAny (aC C) C.A m (λb s'=>G b Q E s') E s:=by
 cases x with
 |bC=>exact False.elim
 |ba ρ σ fs ks=>exact λq=>wpAny_mono (h q) (λZ Z z=>z.elim) λZ Z z=> .ba z
 |ok a ρ σ fs ks=>
  have k:=k a ρ σ fs;show KS C γ ((f a ρ σ fs).pre ks) _;revert k;generalize f a ρ σ fs=o;intro k;cases o with
  |bC=>exact False.elim
  |bM _ _ _=>exact λq=>wpAny_mono (h (bN.eU q).1) (λb s' z=>by obtain ⟨n,F,r⟩:=z;exact k _ b s' n F r (bN.eU q).2) λZ Z z=>z.elim
theorem oB.ext {ρ:ao}{σ:St}(x:dE γ.fz γ.αs γ'.fz γ'.αs)(h:oB C γ' ρ σ s):oB C γ ρ σ s:=by obtain ⟨y,F⟩:=h;exact ⟨x.trans y,F⟩
theorem aQ.ext {o:SO}{f:Flow}(x:dE γ.fz γ.αs γ'.fz γ'.αs)(h:aQ C γ' o f s):aQ C γ o f s:=by
 induction h with
 |next h=>exact .next (h.ext x)
 |brk h=>exact .brk (h.ext x)
 |ew h=>exact .ew (h.ext x)
 |ret y F r=>exact .ret (x.trans y) F r
theorem cp.ext {o:TS}{m:Sem Flow}(x:dE γ.fz γ.αs γ'.fz γ'.αs)(h:cp C γ' o m s):cp C γ o m s:=by
 cases o with
 |bM o fs ks=>exact λq=>wpAny_mono (h q) (λZ Z z=>z.ext x) λZ Z z=>z
 |bC=>exact False.elim
end
end Mine
end
noncomputable section
namespace Mine
open PySem PySem.W
section
variable (fs:List aD)
noncomputable def Ng:Option ({n:Nat // n<16000000}×List aD):=match fs with
 |f::r=>(match f with
  | .lt h=>some (⟨_,h⟩,r)
  |_=>none)
 |[]=>none
noncomputable def CW:Option ({p:Bool×Bool // p.1=p.2}×List aD):=match fs with
 |f::r=>(match f with
  | .av (b:=b) (c:=c) h=>some (⟨(b,c),h⟩,r)
  |_=>none)
 |[]=>none
noncomputable def Nh:Option ({p:Operator×Int×Int×Int // cF p.1 p.2.1 p.2.2.1=some p.2.2.2}×List aD):=match fs with
 |f::r=>(match f with
  | .op (o:=o) (a:=a) (b:=b) (k:=k) h=>some (⟨(o,a,b,k),h⟩,r)
  |_=>none)
 |[]=>none
noncomputable def Iq:Option ({p:List V×Int×V // ag p.1 p.2.1=some p.2.2}×List aD):=match fs with
 |f::r=>(match f with
  | .ag (l:=l) (i:=i) (v:=v) h=>some (⟨(l,i,v),h⟩,r)
  |_=>none)
 |[]=>none
noncomputable def CU:Option ({p:List V×V×List V // p.1.getLast? =some p.2.1∧p.1.dropLast=p.2.2∧p.1.length<16000000}×List aD):=match fs with
 |f::r=>(match f with
  | .lh (l:=l) (x:=x) (q:=q) h=>some (⟨(l,x,q),h⟩,r)
  |_=>none)
 |[]=>none
noncomputable def CS:Option ({p:Int×Int // p.1+1=p.2}×List aD):=match fs with
 |f::r=>(match f with
  | .ER (a:=a) (b:=b) h=>some (⟨(a,b),h⟩,r)
  |_=>none)
 |[]=>none
noncomputable def Ip:Option ({p:V×V // fR p.1<fR p.2}×List aD):=match fs with
 |f::r=>(match f with
  | .Qd (v:=v) (x:=x) h=>some (⟨(v,x),h⟩,r)
  |_=>none)
 |[]=>none
noncomputable def CR:Option ({p:V×List V×Nat // ft p.1 p.2.1=some p.2.2}×List aD):=match fs with
 |f::r=>(match f with
  | .ew (x:=x) (l:=l) (k:=k) h=>some (⟨(x,l,k),h⟩,r)
  |_=>none)
 |[]=>none
noncomputable def Io:Option ({p:CmpOp×V×V×Bool // z9 p.1 p.2.1 p.2.2.1=some p.2.2.2}×List aD):=match fs with
 |f::r=>(match f with
  | .qB (o:=o) (x:=x) (y:=y) (b:=b) h=>some (⟨(o,x,y,b),h⟩,r)
  |_=>none)
 |[]=>none
structure Ms where
 f:N
 l:List V
 σ:St
 r:qw
 h:aq f l σ r
structure zQ where
 f:N
 s:Stmt
 ρ:ao
 σ:St
 o:SO
 h:eO f s ρ σ o
structure MF where
 f:N
 e:Expr
 ρ:ao
 σ:St
 r:R
 ρ':ao
 σ':St
 h:ET f e ρ σ r ρ' σ'
structure Mu where
 f:N
 e:Expr
 g:Comprehension
 sc:Scope
 p:Pos
 ρ:ao
 σ:St
 vs:List V
 ρ':ao
 σ':St
 h:CT f e g sc p ρ σ vs ρ' σ'
noncomputable def CQ:Option (Ms×List aD):=match fs with
 |f::r=>(match f with
  | .call h=>some (⟨_,_,_,_,h⟩,r)
  |_=>none)
 |[]=>none
noncomputable def CV:Option (zQ×List aD):=match fs with
 |f::r=>(match f with
  | .eJ h=>some (⟨_,_,_,_,_,h⟩,r)
  |_=>none)
 |[]=>none
noncomputable def Im:Option (zQ×List aD):=match fs with
 |f::r=>(match f with
  | .ifs h=>some (⟨_,_,_,_,_,h⟩,r)
  |_=>none)
 |[]=>none
noncomputable def Il:Option (MF×List aD):=match fs with
 |f::r=>(match f with
  | .se h=>some (⟨_,_,_,_,_,_,_,h⟩,r)
  |_=>none)
 |[]=>none
noncomputable def jl:Option (Mu×List aD):=match fs with
 |f::r=>(match f with
  | .cmp h=>some (⟨_,_,_,_,_,_,_,_,_,_,h⟩,r)
  |_=>none)
 |[]=>none
end
section
variable {α β:Type}
noncomputable def tO (x:Option α)(f:α→TO β):TO β:=match x with
 |some a=>f a
 |none=> .bC
noncomputable def tE (x:Option α)(n:TO β)(f:α→TO β):TO β:=match x with
 |some a=>f a
 |none=>n
noncomputable def tI (c:Bool)(x:TO β):TO β:=match c with
 |true=>x
 |false=> .bC
noncomputable def tF (c:Bool)(x y:TO β):TO β:=match c with
 |true=>x
 |false=>y
noncomputable def nF (x:Option α)(ρ:ao)(σ:St)(fs:List aD):TO α:=tO x λa=> .ok a ρ σ fs []
end
noncomputable def bY (b:Bool):R:= .v (.bool b)
noncomputable def EY (r:R)(ρ:ao)(σ:St)(fs:List aD):TO V:=match r with
 | .v a=> .ok a ρ σ fs []
 | .lr x=>tO (nH ρ x) λl=> .ok (.list l) (b8 ρ x (.val (.list l))) σ fs []
noncomputable def FH (n:Nat)(ρ:ao)(σ:St)(fs:List aD):TO Unit:=tE (Ng fs) (nF (jx (n<16000000) ()) ρ σ fs) λp=> .ok () ρ σ p.2 [(.lt n,.lt p.1.1)]
noncomputable def D5 (r:R):Option Bool:=match r with
 | .v a=>(match a with
  | .bool b=>some b
  | .int i=>some (decide (i≠0))
  |_=>none)
 | .lr _=>none
noncomputable def Kp (r:R)(ρ:ao):Option (List V):=match r with
 | .lr x=>nH ρ x
 | .v _=>none
noncomputable def OF (r:R)(ρ:ao)(fs:List aD):=(Kp r ρ).bind λl=>(CU fs).map λp=>(l,p.1)
noncomputable def vy (r:R)(ρ:ao)(σ:St)(fs:List aD):TO R:=tE (CW fs) (tE (OF r ρ fs) (nF ((tP r ρ σ).map bY) ρ σ fs) λp=> .ok (bY true) ρ σ fs [(.lh p.1,.lh p.2.1.1)]) λp=>tO (D5 r) λb=> .ok (bY p.1.1.2) ρ σ p.2 [(.av b,.av p.1.1.1)]
noncomputable def cc (r:R):Option Bool:=match r with
 | .v a=>(match a with
  | .bool b=>some b
  |_=>none)
 | .lr _=>none
noncomputable def wh (r:R)(ρ:ao)(σ:St)(fs:List aD):TO R:=tO (cc r) λb=>tE (CW fs) (.ok (bY b) ρ σ fs []) λp=> .ok (bY p.1.1.2) ρ σ p.2 [(.av b,.av p.1.1.1)]
noncomputable def Ki (r:R)(ρ:ao)(σ:St)(fs:List aD):TO R:=tO (cc r) λb=> .ok (bY (!b)) ρ σ fs []
noncomputable def Qs (o:Operator)(i j:Int)(ρ:ao)(σ:St)(fs:List aD):TO Int:=tE (Nh fs) (nF (cF o i j) ρ σ fs) λp=> .ok p.1.1.2.2.2 ρ σ p.2 [(.op o i j,.op p.1.1.1 p.1.1.2.1 p.1.1.2.2.1)]
noncomputable def Np (x y:R)(ρ:ao)(σ:St)(fs:List aD):TO R:=tO (cw x ρ σ) λl=>tO (cw y ρ σ) λq=>(FH (l.length+q.length) ρ σ fs).bind λZ ρ σ fs=> .ok (.v (.list (l++q))) ρ σ fs []
noncomputable def II (o:Operator)(x y:R)(ρ:ao)(σ:St)(fs:List aD):TO R:=tE (ri x) (tI (decide (o= .Add)) (Np x y ρ σ fs)) λi=>tO (ri y) λj=>(Qs o i j ρ σ fs).bind λk ρ σ fs=> .ok (.v (.int k)) ρ σ fs []
noncomputable def yg (x:R)(σ:St):St:=match xN x with
 |some k=>(match eu σ k with
  |some l=>σ.set k (.gg l)
  |none=>σ)
 |none=>σ
noncomputable def Kj (l:List V)(i:Int)(ρ:ao)(σ:St)(fs:List aD):TO R:=tE (Iq fs) (nF ((ag l i).map R.v) ρ σ fs) λp=> .ok (.v p.1.1.2.2) ρ σ p.2 [(.ag l i,.ag p.1.1.1 p.1.1.2.1)]
noncomputable def q5 (r:R)(j:V)(ρ:ao)(σ:St)(fs:List aD):TO R:=tE (mX r σ) (tO (bT j) λi=>tE (bf r ρ σ) (nF ((Qa r i).map R.v) ρ σ fs) λl=>Kj l i ρ σ fs) λd=>tO (jw d j) λy=>nF (y.map R.v) ρ σ fs
noncomputable def Jt (n:N)(r:R)(ρ:ao)(σ:St)(fs:List aD):TO R:=tO (ji r) λa=>tO (oZ a n σ) λv=> .ok (.v v) ρ σ fs []
noncomputable def uA (v:V):V:=match bT v with
 |some d=> .int (d+1)
 |none=> .none
noncomputable def zX (D:V×V)(w:V):V×V:=match gQ w with
 |some k=>if k=6 then (uA D.1,D.2) else (D.1,uA D.2)
 |none=>D
noncomputable def wg (r:Nat):Nat:=if r=1 then 640 else if r=4 then 200 else 305
noncomputable def wi (sx:Sx)(w:V)(fs:List aD):Ks×List aD:=match CS fs with
 |some p=>([(.v w,.v (.int p.1.1.1)),(.v sx.w0,.v (.int p.1.1.2))],p.2)
 |none=>([(.v (uA w),.v sx.w0)],fs)
noncomputable def C7 (sx:Sx)(w:V)(fs:List aD):Option (Ks×List aD):=(Ip fs).map λp=>([(.v w,.v p.1.1.1),(.v sx.w0,.v p.1.1.2)],p.2)
noncomputable def wm (sx:Sx)(f:N)(w:V)(D:V×V)(fs:List aD):Option (Ks×List aD):=
 if (bA f).1=0 then jx ((bA f).2<(bA sx.f0).2) ([],fs)
 else if (bA f).1=(bA sx.f0).1 then
  (if (bA f).1=1 then (if sx.f0=Sr then jx ((bA f).2<13) ([(.dd D,.dd (zX sx.D0 sx.w0))],fs) else jx ((bA f).2<(bA sx.f0).2) ([(.dd D,.dd sx.D0)],fs))
  else if (bA f).1=4 then C7 sx w fs
  else if eG sx.f0=true then (if eG f=true then none else jx ((bA f).2<(bA sx.f0).2) (wi sx w fs))
  else jx ((bA f).2<(bA sx.f0).2+(if eG f=true then 5 else 0)) ([(.v w,.v sx.w0)],fs))
 else jx ((bA f).2+wg (bA f).1<(bA sx.f0).2) ([],fs)
noncomputable def u6 (r:qw)(ρ:ao)(fs:List aD)(ks:Ks):TO R:=match r with
 | .ok v σ=> .ok (.v v) ρ σ fs ks
 | .ba σ=> .ba ρ σ fs ks
abbrev TC:=Option (qw×List aD×Ks)
structure Lv where
 ev:Sx→Bool→Expr→ao→St→List aD→TO R
 bl:Sx→List Stmt→ao→St→List aD→TS
 ca:N→List V→St→List aD→TC
noncomputable def dw:Expr→Bool
 | .Starred .. =>true
 |_=>false
inductive VE where
 |Ab (c:Const)
 |uP (s:Str)
 |xA (l:List Expr)
 |IS (f:Expr) (l:List Expr) (k:List Keyword)
 |IA (e:Expr) (s:Str)
 |sub (e i:Expr)
 |LJ (o:PySem.UnaryOp) (e:Expr)
 |no
noncomputable def vE:Expr→VE
 | .Constant c _ _=> .Ab c
 | .Name s _=> .uP s
 | .List l _=> .xA l
 | .Call f l k _=> .IS f l k
 | .Attribute e s _=> .IA e s
 | .Subscript e i _=> .sub e i
 | .UnaryOp o e _=> .LJ o e
 |_=> .no
inductive VO:Expr→VE→Prop
 |Ab {c k p}:VO (.Constant c k p) (.Ab c)
 |uP {s p}:VO (.Name s p) (.uP s)
 |xA {l p}:VO (.List l p) (.xA l)
 |IS {f l k p}:VO (.Call f l k p) (.IS f l k)
 |IA {e s p}:VO (.Attribute e s p) (.IA e s)
 |sub {e i p}:VO (.Subscript e i p) (.sub e i)
 |LJ {o e p}:VO (.UnaryOp o e p) (.LJ o e)
 |no {e}:VO e .no
theorem kY (e:Expr):VO e (vE e):=by cases e<;>constructor
noncomputable def uq (e:Expr):Option Const:=match vE e with
 | .Ab c=>some c
 |_=>none
noncomputable def qe (e:Expr):Option Str:=match uq e with
 |some (.str s)=>some s
 |_=>none
noncomputable def rh (e:Expr):Option Int:=match uq e with
 |some (.int i)=>some i
 |_=>none
noncomputable def gi (e:Expr):Option Str:=match vE e with
 | .uP s=>some s
 |_=>none
noncomputable def AO (e:Expr):Option (List Expr):=match vE e with
 | .xA l=>some l
 |_=>none
noncomputable def qQ (e:Expr):Option (Expr×List Expr×List Keyword):=match vE e with
 | .IS f a k=>some (f,a,k)
 |_=>none
noncomputable def xk (e:Expr):Bool:=match AO e with
 |some l=>l.isEmpty
 |none=>false
noncomputable def rj (e:Expr):Bool:=(gi e).isSome
noncomputable def e9 (e:Expr):Bool:=match qQ e with
 |some p=> !((gi p.1).isSome&&p.2.1.isEmpty&&p.2.2.isEmpty)
 |none=>true
noncomputable def ij:Expr→Bool
 | .Set .. =>false
 |_=>true
noncomputable def A9 (e:Expr):Option (Str×Expr):=match qQ e with
 |some p=>(match gi p.1 with
  |some s=>(match p.2.1 with
   |a::r=>jx ((r.isEmpty&&p.2.2.isEmpty&& !dw a)=true) (s,a)
   |[]=>none)
  |none=>none)
 |none=>none
section
variable (L:Lv)(sx:Sx)
noncomputable def xh (f:N)(l:List V)(ρ:ao)(σ:St)(fs:List aD):TO R:=tO (L.ca f l σ fs) λp=>u6 p.1 ρ p.2.1 p.2.2
noncomputable def wO (f:N)(l:List V)(ρ:ao)(σ:St)(fs:List aD):TO R:=tE (CQ fs) (xh L f l ρ σ fs) λp=>tF (decide (f=p.1.f)) (u6 p.1.r ρ p.2 [(.call f l σ,.call p.1.f p.1.l p.1.σ)]) (xh L f l ρ σ fs)
noncomputable def rU (f:N)(l:List V)(ρ:ao)(σ:St)(fs:List aD):TO R:=tI (sx.lp||decide (f=Tg)) (tO (wm sx f (LN f l) (wF σ) fs) λp=>(wO L f l ρ σ p.2).pre p.1)
noncomputable def jF (e:Expr)(ρ:ao)(σ:St)(fs:List aD):TO V:=(L.ev sx false e ρ σ fs).bind EY
noncomputable def E3:List Expr→ao→St→List aD→TO (List V)
 |[],ρ,σ,fs=> .ok [] ρ σ fs []
 |e::r,ρ,σ,fs=>(jF L sx e ρ σ fs).bind λv ρ σ fs=>(E3 r ρ σ fs).bind λvs ρ σ fs=> .ok (v::vs) ρ σ fs []
noncomputable def cC (l:List Expr):Bool:=l.all λe=> !dw e
noncomputable def qz (l:List Expr)(ρ:ao)(σ:St)(fs:List aD):TO (List V):=tI (cC l) (E3 L sx l ρ σ fs)
noncomputable def kl (m:Bool)(x:TO R):TO R:=match m with
 |true=>x.bind vy
 |false=>x
noncomputable def jn (s:Str):Bool:=decide (sx.ks.lookup s=some .globalImplicit)
noncomputable def I7 (c:Const)(ρ:ao)(σ:St)(fs:List aD):TO R:=match c with
 | .none=> .ok (.v .none) ρ σ fs []
 | .bool b=> .ok (.v (.bool b)) ρ σ fs []
 | .int i=> .ok (.v (.int i)) ρ σ fs []
 | .str s=>tI (lJ s) (.ok (.v (.str (dk s))) ρ σ fs [])
 |_=> .bC
noncomputable def Qk (x:N)(v:LV):R:=match v with
 | .val v=> .v v
 | .own _=> .lr x
noncomputable def DE (s:Str)(ρ:ao)(σ:St)(fs:List aD):TO R:=tI (lJ s) (tF (jn sx s&&jP (dk s)) (tO (w9 (dk s)) λv=> .ok (.v v) ρ σ fs []) (tO (cu ρ (dk s)) λv=>tI (sx.X (dk s)) (.ok (Qk (dk s) v) ρ σ fs [])))
noncomputable def IH (o:Operator)(a b:Expr)(ρ:ao)(σ:St)(fs:List aD):TO R:=(L.ev sx false a ρ σ fs).bind λx ρ σ fs=>(L.ev sx false b ρ (yg x σ) fs).bind λy ρ σ fs=>II o x y ρ σ fs
noncomputable def fh (o:CmpOp)(a b:R)(ρ:ao)(σ:St):Option (V×V):=if o= .In then (match mX b σ with
  |some _=>none
  |none=>(ji a).bind λx=>(bf b ρ σ).map λl=>(x,.list l)) else (fW a ρ σ).bind λx=>(fW b ρ σ).map λy=>(x,y)
noncomputable def z4 (o:CmpOp)(a b:Expr)(ρ:ao)(σ:St)(fs:List aD):TO R:=tI (!behindInMarks o b) ((L.ev sx false a ρ σ fs).bind λx ρ σ fs=>(L.ev sx false b ρ σ fs).bind λy ρ σ fs=>tE (Io fs) (tO (wx o x y ρ σ) λt=> .ok (bY t) ρ σ fs []) λp=>tO (fh o x y ρ σ) λq=> .ok (bY p.1.1.2.2.2) ρ σ p.2 [(.qB o q.1 q.2,.qB p.1.1.1 p.1.1.2.1 p.1.1.2.2.1)])
noncomputable def EF (a b c:Expr)(ρ:ao)(σ:St)(fs:List aD):TO R:=tO (qe a) λs=>tO (qe c) λt=>tI (lJ s&&lJ t) ((jF L sx b ρ σ fs).bind λy ρ σ fs=>tO (rS (.str (dk s)) y (.str (dk t))) λt=> .ok (bY t) ρ σ fs [])
noncomputable def Kz (m:Bool)(e:Expr)(ρ:ao)(σ:St)(fs:List aD):TO R:=match m with
 |true=>L.ev sx true e ρ σ fs
 |false=>(L.ev sx false e ρ σ fs).bind wh
noncomputable def ug (m t:Bool):List Expr→ao→St→List aD→TO R
 |[],ρ,σ,fs=>tI m (.ok (bY t) ρ σ fs [])
 |e::r,ρ,σ,fs=>(Kz L sx m e ρ σ fs).bind λb ρ σ fs=>tO (cc b) λc=>tF ((!m&&r.isEmpty)||c !=t) (.ok (bY c) ρ σ fs []) (ug m t r ρ σ fs)
noncomputable def JK (c a b:Expr)(ρ:ao)(σ:St)(fs:List aD):TO R:=(L.ev sx true c ρ σ fs).bind λt ρ σ fs=>tO (cc t) λt=>tF t (L.ev sx false a ρ σ fs) (L.ev sx false b ρ σ fs)
noncomputable def FA (l:List V)(x:R)(ρ:ao)(σ:St)(fs:List aD):TO R:=tO (jx (l.length<16000000) x) λx=> .ok x ρ σ fs []
noncomputable def LH (l:List Expr)(ρ:ao)(σ:St)(fs:List aD):TO R:=(qz L sx l ρ σ fs).bind λvs ρ σ fs=>FA vs (.v (.au vs)) ρ σ fs
noncomputable def J4 (l:List Expr)(ρ:ao)(σ:St)(fs:List aD):TO R:=(qz L sx l ρ σ fs).bind λvs ρ σ fs=>FA vs (.v (.list vs)) ρ σ fs
noncomputable def FX (m:MO)(ρ:ao)(σ:St)(fs:List aD):TO V:= .ok (.obj σ.length) ρ (σ++[m]) fs []
noncomputable def PW (k:N)(e:Expr)(ρ:ao)(σ:St)(fs:List aD):TO V:=tF (xk e&&(decide (k=1936420724)||decide (k=1684828020)||decide (k=VR))) (FX (if k=1936420724 then .iT [] else .gg []) ρ σ fs) (jF L sx e ρ σ fs)
noncomputable def EP:List (Option Expr)→List Expr→ao→St→List aD→TO (List (V×V))
 |k::ks,es,ρ,σ,fs=>(match es with
  |e::es=>tO (k.bind qe) λs=>tI (lJ s) ((PW L sx (dk s) e ρ σ fs).bind λv ρ σ fs=>(EP ks es ρ σ fs).bind λr ρ σ fs=> .ok ((.str (dk s),v)::r) ρ σ fs [])
  |[]=> .bC)
 |[],es,ρ,σ,fs=>tI es.isEmpty (.ok [] ρ σ fs [])
noncomputable def I8 (ks:List (Option Expr))(es:List Expr)(ρ:ao)(σ:St)(fs:List aD):TO R:=tI (decide (ks.length≤15)&&decide ((ks.map λk=>k.bind qe).Nodup)&&decide (ks.length=es.length)&&ks.all (·.isSome)) ((EP L sx ks es ρ σ fs).bind λl ρ σ fs=> .ok (.v (.obj σ.length)) ρ (σ++[.fN l]) fs [])
noncomputable def IB (a:Expr)(s:Str)(ρ:ao)(σ:St)(fs:List aD):TO R:=tI (lJ s&&e9 a) ((L.ev sx false a ρ σ fs).bind (Jt (dk s)))
noncomputable def Am (e:Expr)(ρ:ao)(σ:St)(fs:List aD)(x:TO R):TO R:=tE (Il fs) x λp=> .ok p.1.r p.1.ρ' p.1.σ' p.2 [(.se e ρ σ sx,.se p.1.e p.1.ρ p.1.σ (bj p.1.f p.1.ρ p.1.σ))]
noncomputable def JA (hi:Option Expr)(l:List V):Option (List V):=match hi with
 |none=>some l
 |some e=>(rh e).bind λi=>jx (0≤i) (l.take i.toNat)
noncomputable def EM (lo hi:Option Expr)(nm:Bool)(r:R)(ρ:ao)(σ:St)(fs:List aD):TO R:=tE (cw r ρ σ) (tI (nm&&decide (lo.bind rh=some 1)&&hi.isNone) (tO (QH r) λv=> .ok (.v v) ρ σ fs [])) λl=>tI lo.isNone ((FH l.length ρ σ fs).bind λZ ρ σ fs=>tO (JA hi l) λq=> .ok (.v (.list q)) ρ σ fs [])
noncomputable def Lg (a i:Expr)(p:Pos)(ρ:ao)(σ:St)(fs:List aD):TO R:=match i with
 | .Slice lo hi st _=>tI st.isNone (Am sx (.Subscript a i p) ρ σ fs ((L.ev sx false a ρ σ fs).bind (EM lo hi (rj a))))
 |i=>(L.ev sx false a ρ σ fs).bind λr ρ σ fs=>(jF L sx i ρ σ fs).bind λj ρ σ fs=>q5 r j ρ σ fs
noncomputable def fO (get:ao→St→Option (List V))(f:V→ao→St→List aD→TO (Option V)):Nat→Nat→ao→St→List aD→TO (List V)
 |0,i,ρ,σ,fs=>tO (get ρ σ) λl=>tI (decide (l.length=i)) (.ok [] ρ σ fs [])
 |n+1,i,ρ,σ,fs=>tO (get ρ σ) λl=>tO l[i]? λx=>(f x ρ σ fs).bind λa ρ σ fs=>(fO get f n (i+1) ρ σ fs).bind λl ρ σ fs=> .ok (a.toList++l) ρ σ fs []
noncomputable def u1 (ks names:List (Str×NameKind)):List (Str×NameKind):=names.map λp=>if (p.2== .free&&ks.lookup p.1==some .cell) then (p.1,.cell) else p
noncomputable def Sx.bJ (names:List (Str×NameKind))(x:N):Sx:={sx with ks:=u1 sx.ks names,cm:=true,cv:=x,fr:=names}
noncomputable def xm (e:Expr)(ρ:ao)(σ:St)(fs:List aD):TO (Option V):=(jF L sx e ρ σ fs).bind λv ρ σ fs=> .ok (some v) ρ σ fs []
noncomputable def xl (ifs:List Expr)(e:Expr)(ρ:ao)(σ:St)(fs:List aD):TO (Option V):=match ifs with
 |c::r=>tI r.isEmpty ((L.ev sx true c ρ σ fs).bind λb ρ σ fs=>tO (cc b) λt=>tF t (xm L sx e ρ σ fs) (.ok none ρ σ fs []))
 |[]=>xm L sx e ρ σ fs
noncomputable def TO.at {α:Type}(ρ:ao)(x:TO α):TO α:=match x with
 | .ok a _ σ fs ks=> .ok a ρ σ fs ks
 |_=> .bC
noncomputable def bQ (sc:Scope)(x:N)(ifs:List Expr)(e:Expr)(v:V)(ρ:ao)(σ:St)(fs:List aD):TO (Option V):=tI (cu ρ x).isNone ((xl L (sx.bJ sc.names x) ifs e ((x,.val v)::jg ρ) σ fs).at ρ)
noncomputable def Dg (scope:Scope)(x:Str):Bool:= !sx.cm&&decide (scope.kind= .function)&&scope.names.all (λy=>decide (y.2≠ .cell)&&(decide (y.2≠ .local)||decide (scope.names.lookup y.1=some .local))&&(decide (y.2≠ .free)||decide (sx.ks.lookup y.1=some .cell)))&&decide (scope.names.lookup x=some .local)
noncomputable def GL (e:Expr):Option Expr:=(A9 e).bind λp=>jx (p.1=Str.ofString "range") p.2
noncomputable def I4 (a e:Expr)(g:Comprehension)(sc:Scope)(x:N)(ρ:ao)(σ:St)(fs:List aD):TO (List V):=tI (sx.lp&&jn sx (Str.ofString "range")) ((jF L sx a ρ σ fs).HF.bind λv ρ σ fs=>tO (bT v) λn=>tI (decide (n.natAbs<16000000)) ((fO (λZ Z=>some (aX n)) (bQ L sx sc x g.ifs e) n.toNat 0 ρ σ fs).at ρ))
noncomputable def I3 (e:Expr)(g:Comprehension)(sc:Scope)(x:N)(ρ:ao)(σ:St)(fs:List aD):TO (List V):=tI (ij g.iter) ((L.ev sx false g.iter ρ σ fs).HF.bind λr ρ σ fs=>tO (bf r ρ σ) λl=>tI (decide (l.length<16000000)) ((fO (bf r) (bQ L sx sc x g.ifs e) l.length 0 ρ σ fs).at ρ))
noncomputable def qS (e:Expr)(g:Comprehension)(sc:Scope)(ρ:ao)(σ:St)(fs:List aD):TO (List V):=tO (gi g.target) λs=>tI (lJ s&&Dg sx sc s&&decide (g.is_async=0)) (tE (GL g.iter) (I3 L sx e g sc (dk s) ρ σ fs) λa=>I4 L sx a e g sc (dk s) ρ σ fs)
noncomputable def qT (e:Expr)(g:Comprehension)(sc:Scope)(p:Pos)(ρ:ao)(σ:St)(fs:List aD):TO (List V):=tE (jl fs) (qS L sx e g sc ρ σ fs) λq=>tI (ij g.iter) (.ok q.1.vs q.1.ρ' q.1.σ' q.2 [(.se (.ListComp e [g] sc p) ρ σ sx,.se (.ListComp q.1.e [q.1.g] q.1.sc q.1.p) q.1.ρ q.1.σ (bj q.1.f q.1.ρ q.1.σ))])
noncomputable def oR (e:Expr)(gs:List Comprehension)(sc:Scope)(p:Pos)(ρ:ao)(σ:St)(fs:List aD):TO V:=match gs with
 |g::r=>tI r.isEmpty ((qT L sx e g sc p ρ σ fs).HF.bind λvs ρ σ fs=> .ok (.list vs) ρ σ fs [])
 |[]=> .bC
noncomputable def sy (c:N)(l:List V):Option V:=(gP c).bind λns=>if c=Ve then jx (l.length=5) (V.aO c (l++[.int 0])) else jx (l.length=ns.length) (V.aO c l)
noncomputable def Ke (c:N)(l:List V)(ρ:ao)(σ:St)(fs:List aD):TO R:=tO (Dq c) λf=>tI (sx.lp&&decide (2≤(bA sx.f0).2)&&decide (bA f=(0,0))) ((wO L f (.obj σ.length::l) ρ (σ++[.ins c []]) fs).bind λr ρ σ' fs=>tO (ji r) λa=>tI (i7 a) (.ok (.v (.obj σ.length)) ρ σ' fs []))
noncomputable def FY (c:N)(l:List V)(ρ:ao)(σ:St)(fs:List aD):TO R:=tE (sy c l) (Ke L sx c l ρ σ fs) λv=> .ok (.v v) ρ σ fs []
noncomputable def Bh (r:R)(x:V)(q:List V)(ρ:ao)(σ:St)(fs:List aD)(ks:Ks):TO R:=tO (uY r q ρ σ) λp=> .ok (.v x) p.1 p.2 fs ks
noncomputable def Ii (r:R)(q:List V)(x:V)(ρ:ao)(σ:St)(fs:List aD):TO R:=(FH q.length ρ σ fs).bind λZ ρ σ fs=>Bh r .none (q++[x]) ρ σ fs []
noncomputable def OG (r:R)(q:List V)(ρ:ao)(σ:St)(fs:List aD):TO R:=tE (CU fs) (tO q.getLast? λx=>tI (decide (q.length<16000000)) (Bh r x q.dropLast ρ σ fs [])) λp=>Bh r p.1.1.2.1 p.1.1.2.2 ρ σ p.2 [(.lh q,.lh p.1.1.1)]
noncomputable def DA (n:N)(r:R)(q l:List V)(ρ:ao)(σ:St)(fs:List aD):TO R:=match l with
 |x::t=>tI t.isEmpty (tF (decide (n=Va)) (Ii r q x ρ σ fs) (tI (decide (n=V6)) (tE (CR fs) (tO (ft x q) λk=> .ok (.v (.int k)) ρ σ fs []) λp=> .ok (.v (.int p.1.1.2.2)) ρ σ p.2 [(.ew x q,.ew p.1.1.1 p.1.1.2.1)])))
 |[]=>tI (decide (n=7368560)) (OG r q ρ σ fs)
noncomputable def Lz (l:List Expr):Option (List Expr):=match l with
 |e::r=>(qQ e).bind λp=>jx ((r.isEmpty&&p.2.2.isEmpty&&decide (gi p.1=some (nm TK)))=true) p.2.1
 |[]=>none
noncomputable def Lx (k:Nat)(n:N)(l:List Expr)(ρ:ao)(σ:St)(fs:List aD):TO R:=tO (Lz l) λas=>tI (decide (n=Va)&&jn sx (nm TK)) ((qz L sx as ρ σ fs).bind λvs ρ σ fs=>tO (sy TK vs) λv=>tO (eu σ k) λq=>(FH q.length ρ σ fs).bind λZ ρ σ fs=> .ok (.v .none) ρ (gX σ k (.iT (q++[v]))) fs [])
noncomputable def pB (n:N):Option String:=if n=Va then some "list.append" else if n=7368560 then some "list.pop" else if n=V6 then some "list.count" else none
noncomputable def Kb (w:V)(n:N)(l:List Expr)(ρ:ao)(σ:St)(fs:List aD):TO R:=tE (De w σ) (tO (gQ w) λk=>tI (eu σ k).isSome (Lx L sx k n l ρ σ fs)) λc=>tO (gU c n) λf=>tI (nC w n σ) ((qz L sx l ρ σ fs).bind λvs ρ σ fs=>rU L sx f (w::vs) ρ σ fs)
noncomputable def Ka (r:R)(n:N)(l:List Expr)(ρ:ao)(σ:St)(fs:List aD):TO R:=tO (pB n) λZ=>(qz L sx l ρ σ fs).bind λvs ρ σ fs=>tO (cw r ρ σ) λq=>DA n r q vs ρ σ fs
noncomputable def J9 (a:Expr)(n:N)(l:List Expr)(ρ:ao)(σ:St)(fs:List aD):TO R:=(L.ev sx false a ρ σ fs).bind λr ρ σ fs=>tE (cw r ρ σ) (tO (ji r) λw=>Kb L sx w n l ρ σ fs) λZ=>Ka L sx r n l ρ σ fs
noncomputable def JZ (a:Expr)(ρ:ao)(σ:St)(fs:List aD):TO R:=(L.ev sx false a ρ σ fs).bind λr ρ σ fs=>tO (xw r ρ σ) λn=>(FH n ρ σ fs).bind λZ ρ σ fs=> .ok (.v (.int n)) ρ σ fs []
noncomputable def P1 (e:Expr)(s:Str)(l:List Expr)(ρ:ao)(σ:St)(fs:List aD):TO R:=
 tF (lJ s&&jP (dk s)&&Cp.contains (dk s)) (tI (lG.contains (dk s)) ((qz L sx l ρ σ fs).bind λvs ρ σ fs=>rU L sx (dk s) vs ρ σ fs))
  (tF (lJ s&&jP (dk s)&&uk.contains (dk s)) ((qz L sx l ρ σ fs).bind λvs ρ σ fs=>FY L sx (dk s) vs ρ σ fs)
   (tO ((A9 e).bind λp=>jx (p.1=Str.ofString "len") p.2) λa=>JZ L sx a ρ σ fs))
noncomputable def IT (e f:Expr)(l:List Expr)(k:List Keyword)(p:Pos)(ρ:ao)(σ:St)(fs:List aD):TO R:=tI k.isEmpty (match f with
 | .Name s _=>tI (jn sx s) (Am sx e ρ σ fs (P1 L sx e s l ρ σ fs))
 | .Attribute a s p1=>tI (lJ s&&e9 a&&decide (l.length<30)&&(p1.endLine==p.line)&&cC l) (J9 L sx a (dk s) l ρ σ fs)
 |_=> .bC)
noncomputable def I1 (m:Bool)(a:Expr)(os:List CmpOp)(bs:List Expr)(ρ:ao)(σ:St)(fs:List aD):TO R:=match os with
 |[]=> .bC
 |o::os=>(match bs with
  |[]=> .bC
  |b::bs=>(match os with
   |[]=>tI bs.isEmpty (z4 L sx o a b ρ σ fs)
   |o2::os=>(match bs with
    |[]=> .bC
    |c::bs=>tI (m&&decide (o= .LtE)&&decide (o2= .LtE)&&os.isEmpty&&bs.isEmpty) (EF L sx a b c ρ σ fs))))
noncomputable def Oo (m:Bool)(a:Expr)(ρ:ao)(σ:St)(fs:List aD):TO R:=match m with
 |true=>L.ev sx true a ρ σ fs
 |false=>(L.ev sx false a ρ σ fs).bind vy
noncomputable def LK (m:Bool)(o:PySem.UnaryOp)(a:Expr)(ρ:ao)(σ:St)(fs:List aD):TO R:=match o with
 | .Not=>(Oo L sx m a ρ σ fs).bind Ki
 | .USub=>tI (!m) (tO (rh a) λi=> .ok (.v (.int (-i))) ρ σ fs [])
 |_=> .bC
noncomputable def mB (m:Bool)(e:Expr)(ρ:ao)(σ:St)(fs:List aD):TO R:=kl m (match e with
 | .BoolOp o l _=>ug L sx m (decide (o= .And)) l ρ σ fs
 | .BinOp a o b _=>IH L sx o a b ρ σ fs
 | .UnaryOp o a _=>LK L sx m o a ρ σ fs
 | .IfExp c a b _=>tI (!m) (JK L sx c a b ρ σ fs)
 | .Dict ks es _=>tI (!m) (I8 L sx ks es ρ σ fs)
 | .ListComp e' gs sc p=>tI (!m) ((oR L sx e' gs sc p ρ σ fs).bind λv ρ σ fs=> .ok (.v v) ρ σ fs [])
 | .Compare a os bs _=>I1 L sx m a os bs ρ σ fs
 | .Call f l k p=>IT L sx e f l k p ρ σ fs
 | .Constant c _ _=>tI (!m) (I7 c ρ σ fs)
 | .Attribute a s _=>IB L sx a s ρ σ fs
 | .Subscript a i p=>Lg L sx a i p ρ σ fs
 | .Name s _=>DE sx s ρ σ fs
 | .List l _=>tI (!m) (J4 L sx l ρ σ fs)
 | .Tuple l _ _=>tI (!m) (LH L sx l ρ σ fs)
 |_=> .bC)
end
section
variable {α:Type}
noncomputable def sO (x:Option α)(f:α→TS):TS:=match x with
 |some a=>f a
 |none=> .bC
noncomputable def sE (x:Option α)(n:TS)(f:α→TS):TS:=match x with
 |some a=>f a
 |none=>n
noncomputable def sI (c:Bool)(x:TS):TS:=match c with
 |true=>x
 |false=> .bC
noncomputable def sF (c:Bool)(x y:TS):TS:=match c with
 |true=>x
 |false=>y
end
noncomputable def cZ (ρ:ao)(σ:St)(fs:List aD):TS:= .bM (.next ρ σ) fs []
noncomputable def yj (a:V)(n:N)(v:V)(σ:St):Option St:=(gQ a).bind λk=>(fL σ k).bind λp=>jx (hZ p.1 n=true∧p.2.length<500) (gX σ k (.ins p.1 (jA p.2 n v)))
noncomputable def yn (a i v:V)(σ:St):Option St:=(gQ a).bind λk=>(lY σ k).bind λd=>(pW d i v).bind λq=>jx (d.length<1000) (gX σ k (.fN q))
inductive VK where
 |PV (l:List Expr)
 |cmp (e:Expr) (gs:List Comprehension) (sc:Scope) (p:Pos)
 |val
 |bC
noncomputable def LM:Expr→VK
 | .List l _=> .PV l
 | .ListComp e gs sc p=> .cmp e gs sc p
 | .SetComp .. => .bC
 | .DictComp .. => .bC
 |_=> .val
noncomputable def eI (e:Expr):Bool:=match LM e with
 | .PV _=>true
 | .val=>true
 |_=>false
noncomputable def LG:Expr→Option (List Expr)
 | .Tuple l _ _=>some l
 |_=>none
noncomputable def KH:Operator→Bool
 | .Add=>true| .Sub=>true
 |_=>false
section
variable (L:Lv)(sx:Sx)
noncomputable def Sx.zt (s:Str):Bool:=lJ s&& !sx.cm&&decide (sx.ks.lookup s=some .local)
noncomputable def Sx.aG (s:Str):Bool:=lJ s&& !sx.cm&&decide (sx.ks.lookup s=some .cell)&&decide ((cellsFrom 0 sx.ks []).map (·.1)=[s])
noncomputable def Ph (v:Expr)(ρ:ao)(σ:St)(fs:List aD):TO V:=match LM v with
 | .cmp e gs sc p=>oR L sx e gs sc p ρ σ fs
 | .bC=> .bC
 |_=>jF L sx v ρ σ fs
noncomputable def EA (x:N)(v:Expr)(ρ:ao)(σ:St)(fs:List aD):TS:=(Ph L sx v ρ σ fs).so λv ρ σ fs=>cZ (b8 ρ x (.val v)) σ fs
noncomputable def Iu (x:N)(l:List Expr)(ρ:ao)(σ:St)(fs:List aD):TS:=(qz L sx l ρ σ fs).so λvs ρ σ fs=>sI (decide (vs.length<16000000)) (cZ (b8 ρ x (.own vs)) σ fs)
noncomputable def Iw (s:Str)(v:Expr)(ρ:ao)(σ:St)(fs:List aD):TS:=sF (sx.zt s) (sE (AO v) (EA L sx (dk s) v ρ σ fs) λl=>Iu L sx (dk s) l ρ σ fs) (sI (sx.aG s) (EA L sx (dk s) v ρ σ fs))
noncomputable def sU:List Expr→Option (List N)
 |e::r=>(gi e).bind λs=>if sx.zt s=true then (sU r).map (dk s::·) else none
 |[]=>some []
noncomputable def Ir:V→Option (List V)
 | .au l=>some l
 |_=>none
noncomputable def CZ (l:List Expr)(v:Expr)(ρ:ao)(σ:St)(fs:List aD):TS:=sI (sx.lp&&eI v&&(LG v).isNone) (sO (sU sx l) λxs=>(jF L sx v ρ σ fs).so λv ρ σ fs=>sO (Ir v) λvs=>sO (nP xs vs ρ) λρ=>cZ ρ σ fs)
noncomputable def IC (n:N)(v:Expr)(ρ:ao)(σ:St)(fs:List aD):TO V:=tF (xk v&&(decide (n=Vs)||decide (n=VR))) (FX (.gg []) ρ σ fs) (jF L sx v ρ σ fs)
noncomputable def CX (o:Expr)(s:Str)(v:Expr)(ρ:ao)(σ:St)(fs:List aD):TS:=sI (lJ s&&eI v) ((IC L sx (dk s) v ρ σ fs).so λv ρ σ fs=>(jF L sx o ρ σ fs).so λa ρ σ fs=>sO (yj a (dk s) v σ) λσ=>cZ ρ σ fs)
noncomputable def CY (o i v:Expr)(ρ:ao)(σ:St)(fs:List aD):TS:=sI (eI v) ((jF L sx v ρ σ fs).so λv ρ σ fs=>(jF L sx o ρ σ fs).so λa ρ σ fs=>(jF L sx i ρ σ fs).so λj ρ σ fs=>sO (yn a j v σ) λσ=>cZ ρ σ fs)
noncomputable def Ni (t v:Expr)(ρ:ao)(σ:St)(fs:List aD):TS:=match t with
 | .Name s _=>Iw L sx s v ρ σ fs
 | .Tuple l _ _=>CZ L sx l v ρ σ fs
 | .Attribute o s _=>CX L sx o s v ρ σ fs
 | .Subscript o i _=>CY L sx o i v ρ σ fs
 |_=> .bC
noncomputable def Cu (ρ:ao)(x:N):Option V:=match cu ρ x with
 |some (.val v)=>some v
 |_=>none
noncomputable def v7 (o:Operator)(i:Int)(d:Expr)(ρ:ao)(σ:St)(fs:List aD):TO Int:=(jF L sx d ρ σ fs).bind λv ρ σ fs=>tO ((bT v).bind (cF o i)) λk=> .ok k ρ σ fs []
noncomputable def ID (s:Str)(o:Operator)(d:Expr)(ρ:ao)(σ:St)(fs:List aD):TS:=sI (sx.zt s&&sx.X (dk s)&&KH o) (sO ((Cu ρ (dk s)).bind bT) λi=>(v7 L sx o i d ρ σ fs).so λk ρ σ fs=>cZ (b8 ρ (dk s) (.val (.int k))) σ fs)
noncomputable def C3 (e:Expr)(s:Str)(o:Operator)(d:Expr)(ρ:ao)(σ:St)(fs:List aD):TS:=sI (lJ s&&KH o) ((jF L sx e ρ σ fs).so λa ρ σ fs=>sO ((oZ a (dk s) σ).bind bT) λi=>(v7 L sx o i d ρ σ fs).so λk ρ σ fs=>sO (yj a (dk s) (.int k) σ) λσ=>cZ ρ σ fs)
noncomputable def Ju (a:V)(n:N)(σ:St):Option Int:=(mX (.v a) σ).bind λq=>(jw q (.str n)).bind λy=>y.bind bT
noncomputable def C4 (e i:Expr)(o:Operator)(d:Expr)(ρ:ao)(σ:St)(fs:List aD):TS:=sO (qe i) λs=>sI (lJ s&&KH o) ((jF L sx e ρ σ fs).so λa ρ σ fs=>sO (Ju a (dk s) σ) λi=>(v7 L sx o i d ρ σ fs).so λk ρ σ fs=>sO (yn a (.str (dk s)) (.int k) σ) λσ=>cZ ρ σ fs)
noncomputable def IE (t:Expr)(o:Operator)(d:Expr)(ρ:ao)(σ:St)(fs:List aD):TS:=match t with
 | .Name s _=>ID L sx s o d ρ σ fs
 | .Attribute e s _=>C3 L sx e s o d ρ σ fs
 | .Subscript e i _=>C4 L sx e i o d ρ σ fs
 |_=> .bC
noncomputable def B7 (st:Stmt)(ρ:ao)(σ:St)(p:Option (zQ×List aD))(x:TS):TS:=sE p x λp=> .bM p.1.o p.2 [(.eJ st ρ σ sx,.eJ p.1.s p.1.ρ p.1.σ (bj p.1.f p.1.ρ p.1.σ))]
noncomputable def JC (c:Expr)(a b:List Stmt)(ρ:ao)(σ:St)(fs:List aD):TS:=(L.ev sx true c ρ σ fs).so λt ρ σ fs=>sO (cc t) λt=>sF t (L.bl sx a ρ σ fs) (L.bl sx b ρ σ fs)
noncomputable def gq (x:TS)(k:ao→St→List aD→TS):TS:=match x with
 | .bM o fs ks=>(match o with
  | .next ρ σ=>(k ρ σ fs).pre ks
  | .ew ρ σ=>(k ρ σ fs).pre ks
  | .brk ρ σ=> .bM (.next ρ σ) fs ks
  |o=> .bM o fs ks)
 | .bC=> .bC
noncomputable def qp (c:Expr)(b:List Stmt):Nat→ao→St→List aD→TS
 |0,_,_,_=> .bC
 |n+1,ρ,σ,fs=>(L.ev sx true c ρ σ fs).so λt ρ σ fs=>sO (cc t) λt=>sF t (gq (L.bl sx b ρ σ fs) (qp c b n)) (cZ ρ σ fs)
noncomputable def E8 (get:ao→St→Option (List V))(x:N)(b:List Stmt):Nat→Nat→ao→St→List aD→TS
 |0,i,ρ,σ,fs=>sO (get ρ σ) λl=>sI (decide (l.length=i)) (cZ ρ σ fs)
 |n+1,i,ρ,σ,fs=>sO (get ρ σ) λl=>sO l[i]? λv=>gq (L.bl sx b (b8 ρ x (.val v)) σ fs) (E8 get x b n (i+1))
noncomputable def i5 (T:(ao→St→Option (List V))→N→Nat→ao→St→List aD→TS)(s:Str)(it:Expr)(ρ:ao)(σ:St)(fs:List aD):TS:=sI (sx.lp&&sx.zt s) (sE (GL it)
 (sI (ij it) ((L.ev sx false it ρ σ fs).so λr ρ σ fs=>sO (ji r) λa=>sO (bf (.v a) ρ σ) λl=>T (bf (.v a)) (dk s) l.length ρ σ fs))
 λa=>sI (jn sx (Str.ofString "range")) ((jF L sx a ρ σ fs).so λv ρ σ fs=>sO (bT v) λn=>sI (decide (n.natAbs<16000000)) (T (λZ Z=>some (aX n)) (dk s) n.toNat ρ σ fs)))
noncomputable def Jp (s:Str)(it:Expr)(b:List Stmt)(ρ:ao)(σ:St)(fs:List aD):TS:=i5 L sx (λget x n=>E8 L sx get x b n 0) s it ρ σ fs
noncomputable def qN:V→Option (N×List V)
 | .aO c l=>some (c,l)
 |_=>none
noncomputable def pj (a v:V)(σ:St):Option St:=(gQ a).bind λk=>(eu σ k).bind λq=>q.getLast?.bind λz=>(qN z).bind λp=>(gP p.1).bind λns=>(yl ns p.2 SI v).map λl=>gX σ k (.iT (q.dropLast++[.aO p.1 l]))
noncomputable def Dy (o v:Expr)(ρ:ao)(σ:St)(fs:List aD):TS:=sI (eI v) ((jF L sx v ρ σ fs).so λv ρ σ fs=>(jF L sx o ρ σ fs).so λa ρ σ fs=>sO (pj a v σ) λσ=>cZ ρ σ fs)
noncomputable def vZ (e:Expr):Option (Expr×Str):=match vE e with
 | .IA o s=>some (o,s)
 |_=>none
noncomputable def Hb (e:Expr):Option (Expr×Expr):=match vE e with
 | .sub a i=>some (a,i)
 |_=>none
noncomputable def FW (e:Expr):Option Expr:=match vE e with
 | .LJ u e=>jx (u= .USub) e
 |_=>none
noncomputable def Dx (t:Expr):Option Expr:=(vZ t).bind λp=>(Hb p.1).bind λq=>(FW q.2).bind λe=>jx (rh e=some 1∧p.2=nm SI) q.1
noncomputable def It (t v:Expr)(ρ:ao)(σ:St)(fs:List aD):TS:=sE (Dx t) (Ni L sx t v ρ σ fs) λo=>Dy L sx o v ρ σ fs
noncomputable def Pd (x:TS)(k:ao→St→List aD→TS):TS:=match x with
 | .bM o fs ks=>(match o with
  | .ba ρ σ=>(k ρ σ fs).pre ks
  |o=> .bM o fs ks)
 | .bC=> .bC
noncomputable def LD (b:List Stmt)(h:ExceptHandler)(ρ:ao)(σ:St)(fs:List aD):TS:=match h with
 | .ExceptHandler t n hb _=>sO (t.bind gi) λs=>sI (n.isNone&&decide (s=nm Tu)&&decide (sx.f0=Sz)&& !sx.cm&&jn sx s&& !hb.isEmpty) (Pd (L.bl sx b ρ σ fs) (L.bl {sx with lp:=false} hb))
noncomputable def KQ (e:Option Expr)(ρ:ao)(σ:St)(fs:List aD):TS:=sE e (.bM (.ret .none σ) fs []) λe=>(jF L sx e ρ σ fs).so λv Z σ fs=> .bM (.ret v σ) fs []
noncomputable def ej (st:Stmt)(ρ:ao)(σ:St)(fs:List aD):TS:=match st with
 | .Expr e _=>sI (eI e) ((L.ev sx false e ρ σ fs).so λZ ρ σ fs=>cZ ρ σ fs)
 | .Assign ts v _=>(match ts with
  |t::r=>sI r.isEmpty (It L sx t v ρ σ fs)
  |[]=> .bC)
 | .AugAssign t o d _=>IE L sx t o d ρ σ fs
 | .If c a b _=>B7 sx st ρ σ (Im fs) (JC L sx c a b ρ σ fs)
 | .While c b e _=>sI (!sx.cm&&e.isEmpty) (B7 sx st ρ σ (CV fs) (qp L sx c b 8 ρ σ fs))
 | .For t it b e _=>sI (!sx.cm&&e.isEmpty) (B7 sx st ρ σ (CV fs) (sO (gi t) λs=>Jp L sx s it b ρ σ fs))
 | .Return e _=>KQ L sx e ρ σ fs
 | .Try b hs e f _=>(match hs with
  |h::r=>sI (r.isEmpty&&e.isEmpty&&f.isEmpty) (LD L sx b h ρ σ fs)
  |[]=> .bC)
 | .Break _=> .bM (.brk ρ σ) fs []
 | .Continue _=> .bM (.ew ρ σ) fs []
 | .Pass _=>cZ ρ σ fs
 |_=> .bC
noncomputable def oN:List Stmt→ao→St→List aD→TS
 |[],ρ,σ,fs=>cZ ρ σ fs
 |st::r,ρ,σ,fs=>(ej L sx st ρ σ fs).then (oN r)
end
noncomputable def SO.Qz:SO→Option qw
 | .next _ σ=>some (.ok .none σ)
 | .ret v σ=>some (.ok v σ)
 | .ba _ σ=>some (.ba σ)
 |_=>none
noncomputable def CP (f:N)(l:List V):List V:=l++(iG f).drop ((iG f).length+l.length - (jz f).length)
noncomputable def dq (L:Lv)(f:N)(l:List V)(σ:St)(fs:List aD):TC:=(jm (jz f) (CP f l)).bind λρ=>match L.bl (vv f l σ) (dQ f) ρ σ fs with
 | .bM o fs ks=>o.Qz.map λr=>(r,fs,ks)
 | .bC=>none
noncomputable def JF (L:Lv)(f:N)(l:List V)(σ:St)(fs:List aD):TC:=if (lG.contains f&& !eG f&& !decide (f=Sr)&& !decide (f=SA)&& !decide (f=Sz))=true then dq L f l σ fs else none
noncomputable def Ql (L:Lv):Lv:={ev:=mB L,bl:=oN L,ca:=JF L}
noncomputable def lv (n:Nat):Lv:=n.rec {ev:=λZ Z Z Z Z Z=> .bC,bl:=λZ Z Z Z Z=> .bC,ca:=λZ Z Z Z=>none} λZ L=>Ql L
end Mine
end
noncomputable section
namespace Mine
open PySem PySem.W PySem.Calls PyProof.Rows
section
variable {α β:Type}{P:Prop}
theorem no {a:α}(h:none=some a):P:=ig h
theorem ax {x:Option α}(h0:x=none→P)(h1: ∀a,x=some a→P):P:=by
 cases x with
 |none=>exact h0 rfl
 |some a=>exact h1 a rfl
theorem aR {x:Option α}{f:α→Option β}{b:β}(h:x.bind f=some b)(k: ∀a,x=some a→f a=some b→P):P:=by
 cases x with
 |none=>exact no h
 |some a=>exact k a rfl h
theorem cG {x:Option α}{f:α→β}{b:β}(h:x.map f=some b)(k: ∀a,x=some a→f a=b→P):P:=by
 cases x with
 |none=>exact no h
 |some a=>exact k a rfl (cH h)
theorem ey {p:Prop} [Decidable p] {x:Option α}{b:α}(h:(if p then x else none)=some b)(k:p→x=some b→P):P:=by
 by_cases q:p
 ·rw [WE q] at h;exact k q h
 ·rw [WG q] at h;exact no h
theorem aM {p:Prop} [Decidable p] {a b:α}(h:jx p a=some b):p∧a=b:=ey h λq e=>⟨q,cH e⟩
theorem ay {a b:Bool}(h:(a&&b)=true)(k:a=true→b=true→P):P:=k (Ws h).1 (Ws h).2
end
theorem qO {a:Int}(h:a.natAbs<2^60):Builtin.Int.intBits a≤64:=by
 unfold Builtin.Int.intBits;by_cases q:(a==0)=true
 ·refine aa (WE q) ?_;decide
 ·refine aa (WG q) ?_;have:=(Nat.log2_lt λz=>q (beq_iff_eq.mpr (Int.natAbs_eq_zero.mp z))).mpr h;exact Nat.le_trans (Nat.succ_le_succ (Nat.le_of_lt this)) (by decide)
section
variable {prog:Program}{w:World}{A:Around}{E:Value→Shared→Prop}{s:Shared}{a b k:Int}{t u:Tok}{Q:Value→Shared→Prop}{o:Operator}
theorem Fh (e:cF o a b=some k)(h:Q (.int k s.toks) {s with toks:=s.toks+1}):wpAny (model prog w) A (binaryOp o (.int a t) (.int b u)) Q E s:=by
 cases o with
 |Add=>obtain rfl:=cH e;exact AutoIntOps.add_0 h
 |Sub=>obtain rfl:=cH e;exact AutoIntOps.sub_0 h
 |Mult=>
  obtain ⟨q,rfl⟩:=aM e;exact AutoIntOps.mul_0 h (.of_left (qO q))
 |FloorDiv=>
  obtain ⟨q,rfl⟩:=aM e;refine AutoIntOps.floordiv_1 (by simp;lia) (by refine aa (PyProof.noPylong_small (by lia)) ?_;simp) ?_;show Q (.int (a.fdiv b) s.toks) _;exact aa (Int.fdiv_eq_ediv_of_nonneg _ (Int.le_of_lt q.1)) h
 |Mod=>
  obtain ⟨q,rfl⟩:=aM e;refine AutoIntOps.mod_1 (by simp;lia) ?_;show Q (.int (a.fmod b) s.toks) _;exact aa (Int.fmod_eq_emod_of_nonneg _ (Int.le_of_lt q)) h
 |Pow=>
  obtain ⟨⟨rfl,h0,h1⟩,rfl⟩:=aM e;by_cases hb:b=0
  ·subst hb;exact AutoIntOps.pow_0 (by decide) (by decide) h
  ·refine AutoIntOps.pow_4 h0 (by simpa using hb) (by decide) (by decide) ?_ h;refine aa (show Builtin.Int.intBits 2=2 by decide+kernel) ?_;unfold Builtin.Int.intTooBig;have e:(bitsLine:Int)=134217728:=by unfold bitsLine;decide
   exact λz=>by have:=Wy z;rw [e] at this;lia
 |BitAnd=>obtain rfl:=cH e;exact and_int h
 |_=>exact ig e
theorem Ax (ho:KH o=true)(e:cF o a b=some k)(h:Q (.int k s.toks) {s with toks:=s.toks+1}):wpAny (model prog w) A (inplaceOp o (.int a t) (.int b u)) Q E s:=by
 cases o with
 |Add=>obtain rfl:=cH e;exact AutoIntOps.iadd_0 h
 |Sub=>obtain rfl:=cH e;exact AutoIntOps.isub_0 h
 |_=>exact bK ho
end
section
variable {σ:St}{k:Nat}{ρ:ao}{x:N}{l:List V}{d:List (V×V)}
theorem ru (h:pD σ k=some l):σ[k]? =some (.gg l):=by
 unfold pD at h;revert h;cases σ[k]? with
 |none=>exact no
 |some m=>cases m with
  |gg q=>exact λh=>WJ (λq=>some (MO.gg q)) (cH h)
  |_=>exact no
theorem qX (h:lY σ k=some d):σ[k]? =some (.fN d):=by
 unfold lY at h;revert h;cases σ[k]? with
 |none=>exact no
 |some m=>cases m with
  |fN q=>exact λh=>WJ (λq=>some (MO.fN q)) (cH h)
  |_=>exact no
theorem kX (h:eu σ k=some l):σ[k]? =some (.iT l):=by
 unfold eu at h;revert h;cases σ[k]? with
 |none=>exact no
 |some m=>cases m with
  |iT q=>exact λh=>WJ (λq=>some (MO.iT q)) (cH h)
  |_=>exact no
theorem rg {p:N×List (N×V)}(h:fL σ k=some p):σ[k]? =some (.ins p.1 p.2):=by
 unfold fL at h;revert h;cases σ[k]? with
 |none=>exact no
 |some m=>cases m with
  |ins c q=>exact λh=>WJ (λp=>some (MO.ins p.1 p.2)) (cH h)
  |_=>exact no
theorem gA (h:nH ρ x=some l):cu ρ x=some (.own l):=by
 unfold nH at h;revert h;cases cu ρ x with
 |none=>exact no
 |some m=>cases m with
  |own q=>exact λh=>WJ (λq=>some (LV.own q)) (cH h)
  |val _=>exact no
theorem ed {v:V}:gQ v=some k→v= .obj k:=by
 cases v with
 |obj j=>exact λh=>WJ V.obj (cH h)
 |_=>exact no
theorem dv {v:V}{i:Int}:bT v=some i→v= .int i:=by
 cases v with
 |int j=>exact λh=>WJ V.int (cH h)
 |_=>exact no
theorem j0 {v:V}{n:N}:fK v=some n→v= .str n:=by
 cases v with
 |str j=>exact λh=>WJ V.str (cH h)
 |_=>exact no
theorem cS {r:R}{v:V}:ji r=some v→r= .v v:=by
 cases r with
 |v a=>exact λh=>WJ R.v (cH h)
 |lr _=>exact no
theorem uC {r:R}{i:Int}(h:ri r=some i):r= .v (.int i):=aR h λZ e e'=>(cS e).trans (WJ R.v (dv e'))
theorem ml {r:R}:xN r=some k→r= .v (.obj k):=by
 cases r with
 |v a=>exact λh=>WJ R.v (ed h)
 |lr _=>exact no
theorem oJ {r:R}{b:Bool}:cc r=some b→r=bY b:=by
 cases r with
 |v a=>cases a with
  |bool c=>exact λh=>WJ bY (cH h)
  |_=>exact no
 |lr _=>exact no
end
section
variable {α β:Type}{C:Cx}{ρ:ao}{σ:St}{γ:GS}{s:Shared}{r:R}{u:Value}{l:List V}{a:Addr}{o:Obj}{rel:Cx→GS→α→β→Prop}{m:Sem β}{fs:List aD}
theorem KT.tO {α0:Type}{x:Option α0}{f:α0→TO α}{P:(β→Shared→Prop)→(Value→Shared→Prop)→Prop}(h: ∀a,x=some a→KT C γ rel (f a) P):KT C γ rel (tO x f) P:=by
 cases x with
 |none=>exact False.elim
 |some a=>exact h a rfl
theorem KT.tE {α0:Type}{x:Option α0}{n:TO α}{f:α0→TO α}{P:(β→Shared→Prop)→(Value→Shared→Prop)→Prop}(h0:x=none→KT C γ rel n P)(h: ∀a,x=some a→KT C γ rel (f a) P):KT C γ rel (tE x n f) P:=by
 cases x with
 |none=>exact h0 rfl
 |some a=>exact h a rfl
theorem KT.tI {c:Bool}{o:TO α}{P:(β→Shared→Prop)→(Value→Shared→Prop)→Prop}(h:c=true→KT C γ rel o P):KT C γ rel (tI c o) P:=by
 cases c with
 |true=>exact h rfl
 |false=>exact False.elim
theorem KT.tF {c:Bool}{o o':TO α}{P:(β→Shared→Prop)→(Value→Shared→Prop)→Prop}(h:c=true→KT C γ rel o P)(h':c=false→KT C γ rel o' P):KT C γ rel (tF c o o') P:=by
 cases c with
 |true=>exact h rfl
 |false=>exact h' rfl
theorem KS.sO {α0:Type}{x:Option α0}{f:α0→TS}{P:(Flow→Shared→Prop)→(Value→Shared→Prop)→Prop}(h: ∀a,x=some a→KS C γ (f a) P):KS C γ (sO x f) P:=by
 cases x with
 |none=>exact False.elim
 |some a=>exact h a rfl
theorem KS.sE {α0:Type}{x:Option α0}{n:TS}{f:α0→TS}{P:(Flow→Shared→Prop)→(Value→Shared→Prop)→Prop}(h0:x=none→KS C γ n P)(h: ∀a,x=some a→KS C γ (f a) P):KS C γ (sE x n f) P:=by
 cases x with
 |none=>exact h0 rfl
 |some a=>exact h a rfl
theorem KS.sI {c:Bool}{o:TS}{P:(Flow→Shared→Prop)→(Value→Shared→Prop)→Prop}(h:c=true→KS C γ o P):KS C γ (sI c o) P:=by
 cases c with
 |true=>exact h rfl
 |false=>exact False.elim
theorem KS.sF {c:Bool}{o o':TS}{P:(Flow→Shared→Prop)→(Value→Shared→Prop)→Prop}(h:c=true→KS C γ o P)(h':c=false→KS C γ o' P):KS C γ (sF c o o') P:=by
 cases c with
 |true=>exact h rfl
 |false=>exact h' rfl
theorem WO.rF {a:α}{fs:List aD}{ks:Ks}(h:WO C γ rel a ρ σ m s):bO C γ rel (.ok a ρ σ fs ks) m s:=λZ=>h
theorem bO.HG {x:Option α}(h: ∀a,x=some a→WO C γ rel a ρ σ m s):bO C γ rel (nF x ρ σ fs) m s:=KT.tO λa e=>(h a e).rF
theorem FS.get (F:FS C ρ σ γ s)(h:(a,o)∈aL γ C.rest):s.heap.get? a=some o:=F.nw.get h
theorem FS.ko (F:FS C ρ σ γ s)(h:(a,o)∈γ.fz):s.heap.get? a=some o:=F.get (WB _ (WB _ (WB _ (WB _ h))))
theorem FS.eZ (F:FS C ρ σ γ s)(h:(a,o)∈γ.mu):s.heap.get? a=some o:=F.get (WB _ (WB _ (WC _ h)))
theorem FS.Ko (F:FS C ρ σ γ s)(h:(a,o)∈γ.own):s.heap.get? a=some o:=F.get (WB _ (WC _ h))
theorem FS.fb (F:FS C ρ σ γ s)(h:(a,o)∈C.rest):s.heap.get? a=some o:=F.get (WB _ (WB _ (WB _ (WC _ h))))
theorem FS.at (K:aW C)(F:FS C ρ σ γ s)(h:At C.D γ.fz a o):s.heap.get? a=some o:=h.elim F.ko λh=>F.fr.keep _ _ (K.fh _ _ h)
theorem bF {h:Heap}{vs:List Value}{e:Nat}(x:h.get? a=some (bh vs e)):h.IsList a vs.toArray:=⟨_,x,rfl,e,rfl⟩
theorem ef {h:Heap}{vs:List Value}{e:Nat}(x:h.get? a=some (fQ vs e)):IsTup h a vs.toArray:=⟨_,x,rfl,e,rfl⟩
theorem iK {α:Type}{p:α}{pre post:List α}:p∈pre++p::post:=WB _ (.head _)
noncomputable abbrev H3 (C:Cx)(γ:GS)(σ:St)(k:Nat)(a:Addr)(pre post:aJ):Prop:= ∀m' led',gN C.D γ.fz γ.αs m' a led'→bX C.D γ.fz γ.αs (σ.set k m') γ.αs (pre++(led'++post))
theorem FS.obj {k:Nat}{m:MO}(F:FS C ρ σ γ s)(hr:aU C.D γ.fz γ.αs (.obj k) u)(e:σ[k]? =some m){P:Prop}(h: ∀a aL pre post,u= .ref a→γ.mu=pre++(aL++post)→H3 C γ σ k a pre post→CK C.D γ.fz γ.αs m a aL P):P:=
 hr.eV λa hu ha=>by
  obtain ⟨g1,g2,g3,g4⟩:=F.mu.pM e;obtain rfl:=cH (ha.symm.trans g1);exact g2.eV (h a _ _ _ hu g3 (g4 _ .refl))
section
variable {k:Nat}{P:Prop}
theorem FS.gg (F:FS C ρ σ γ s)(hr:aU C.D γ.fz γ.αs (.obj k) u)(e:pD σ k=some l)(h: ∀a vs n pre post,u= .ref a→γ.mu=pre++(a,bh vs n)::post→aH C.D γ.fz γ.αs l vs→H3 C γ σ k a pre post→P):P:=
 F.obj hr (ru e) λa aL pre post hu g3 w vs n hl r=>h a vs n pre post hu (by exact aa g3 (aa hl rfl)) r w
theorem FS.fN {d:List (V×V)}(F:FS C ρ σ γ s)(hr:aU C.D γ.fz γ.αs (.obj k) u)(e:lY σ k=some d)(h: ∀a o pre post,u= .ref a→γ.mu=pre++(a,o)::post→oF C.D γ.fz γ.αs d o→H3 C γ σ k a pre post→P):P:=
 F.obj hr (qX e) λa aL pre post hu g3 w o hl r=>h a o pre post hu (by exact aa g3 (aa hl rfl)) r w
theorem FS.iT (F:FS C ρ σ γ s)(hr:aU C.D γ.fz γ.αs (.obj k) u)(e:eu σ k=some l)(h: ∀a vs n q pre post,u= .ref a→γ.mu=pre++(a,bh vs n)::(q++post)→qy C.D γ.fz γ.αs l vs q→H3 C γ σ k a pre post→P):P:=
 F.obj hr (kX e) λa aL pre post hu g3 w vs n q hl r=>h a vs n q pre post hu (by exact aa g3 (aa hl rfl)) r w
theorem FS.ins {p:N×List (N×V)}(F:FS C ρ σ γ s)(hr:aU C.D γ.fz γ.αs (.obj k) u)(e:fL σ k=some p)(h: ∀a d es n pre post,u= .ref a→γ.mu=pre++(a,instObj (C.D.ca p.1) d)::(d,dictOf es n)::post→dH C.D γ.fz γ.αs p.2 es→H3 C γ σ k a pre post→P):P:=
 F.obj hr (rg e) λa aL pre post hu g3 w d es n hl r=>h a d es n pre post hu (by exact aa g3 (aa hl rfl)) r w
end
inductive jU (C:Cx)(γ:GS)(s:Shared)(u:Value)(l:List V):Prop
 |mk {a vs n} (hu:u= .ref a) (hg:s.heap.get? a=some (bh vs n)) (r:aH C.D γ.fz γ.αs l vs):jU C γ s u l
inductive zO (C:Cx)(γ:GS)(s:Shared)(u:Value)(l:List V):Prop
 |xA {a vs n} (hu:u= .ref a) (hg:s.heap.get? a=some (bh vs n)) (r:aH C.D γ.fz γ.αs l vs):zO C γ s u l
 |au {a vs n} (hu:u= .ref a) (hg:s.heap.get? a=some (fQ vs n)) (r:aH C.D γ.fz γ.αs l vs):zO C γ s u l
theorem jU.seq (h:jU C γ s u l):zO C γ s u l:=by obtain ⟨a,b,c⟩:=h;exact .xA a b c
theorem FS.J0 {v:V}(F:FS C ρ σ γ s)(hr:aU C.D γ.fz γ.αs v u):cw (.v v) ρ σ=some l→jU C γ s u l:=by
 cases v with
 |list q=>exact λe=>cH e▸hr.eV λa vs n hu hm r=> .mk hu (F.ko hm) r
 |obj k=>exact λe=>F.gg hr e λa vs n pre post hu g3 r Z=> .mk hu (F.eZ (g3▸iK)) r
 |_=>exact no
theorem FS.cw (F:FS C ρ σ γ s)(hr:aA C γ r u)(e:cw r ρ σ=some l):jU C γ s u l:=by
 cases r with
 |v b=>exact F.J0 hr e
 |lr x=>
  obtain ⟨g1,g2,g3,g4,g5⟩:=F.ow.pM (gA e);exact .mk (cH (hr.2.symm.trans (g1 hr.1))) (F.Ko (g3▸WB _ (.head _))) g2
theorem FS.bf (K:aW C)(F:FS C ρ σ γ s)(hr:aA C γ r u):bf r ρ σ=some l→zO C γ s u l:=by
 cases r with
 |v b=>cases b with
  |au q=>exact λe=>cH e▸aU.eV hr λa vs n hu hm r=> .au hu (F.at K hm) r
  |_=>exact λe=>(F.cw hr e).seq
 |lr x=>exact λe=>(F.cw hr e).seq
theorem qy.len {D:Wd}{fz:aJ}{αs:List Addr}{vs:List Value}{aL:aJ}(h:qy D fz αs l vs aL):l.length=vs.length:=by
 induction h with
 |nil=>rfl
 |cons _ _ _ ih=>exact WJ (·+1) ih
theorem dj {n:Nat}(h:n<16000000):n≤sizeLine:=by exact aa sizeLine_eq (Nat.le_trans (Nat.le_of_lt h) (by decide))
theorem mQ {vs:List Value}(r:l.length=vs.length)(h:l.length<16000000):vs.toArray.size≤sizeLine:=by exact aa List.size_toArray (fF r (dj h))
theorem jZ {vs:List Value}(r:l.length=vs.length)(h:l.length<16000000):((vs.toArray.size:Nat):Int)<2^63:=by exact aa List.size_toArray (fF r (Int.lt_of_lt_of_le (Int.ofNat_lt.mpr h) (by decide)))
theorem Gm (K:aW C){n:Nat}(F:FS C ρ σ γ s)(hr:aA C γ r u)(e:xw r ρ σ=some n)(hn:n<16000000):WO C γ aA (.v (.int n)) ρ σ (call (.builtin "len") [u]) s:=by
 have fin: ∀{l:List V} {vs:List Value} {t s'},l.length=n→l.length=vs.length→FS C ρ σ γ s'→fV C γ aA (.v (.int n)) ρ σ (.int (vs.toArray.size:Int) t) s':=λq q' F=> .mk .refl F (by exact aa List.size_toArray (fF q' (aa q (aU.int _ _))));unfold xw at e;revert e;refine ax (x:=bf r ρ σ) (λq=> ?_) λl q=> ?_
 ·refine aa q ?_;refine λe=>cG e λl e' hl=>aR e' λk e1 e2=> ?_;rw [ml e1] at hr;refine F.iT hr e2 λa vs n q pre post hu g3 r Z=> ?_;subst hu;exact PyProof.Rows.len_list (bF (F.eZ (g3▸iK))) (jZ r.len (hl▸hn)) (fin hl r.len F.same)
 ·refine aa q ?_;intro e;have hl:=cH e;cases F.bf K hr q with
  |xA hu hg r=>subst hu;exact PyProof.Rows.len_list (bF hg) (jZ r.len (hl▸hn)) (fin hl r.len F.same)
  |au hu hg r=>subst hu;exact PyProof.Rows.len_tuple (ef hg) (jZ r.len (hl▸hn)) (fin hl r.len F.same)
end
end Mine
end
noncomputable section
namespace Mine
open PySem PySem.W PySem.Calls PyProof.Rows PySem.SeqAt
variable {L:Lv}{pos p2 p3 px spos:Pos}{γ0 γ1 γ2:GS}{α:Type}{c iter:Expr}{us:List Value}{fz R0:aJ}{αs:List Addr}{le:List Expr}{w u2 vu:Value}{P P':(Flow→Shared→Prop)→(Value→Shared→Prop)→Prop}{ts:TS}{pl:Sem Bool}{A A':Around}{it:Addr}{sc:Scope}{D:Wd}{fd:FuncData}
noncomputable def dG.i:dG→Nat
 | .lt n=>n
 |_=>0
noncomputable def dG.b:dG→Bool
 | .av b=>b
 |_=>false
noncomputable def dG.l:dG→List V
 | .ag l _=>l
 | .lh l=>l
 |_=>[]
noncomputable def dG.j:dG→Int
 | .ag _ i=>i
 |_=>0
noncomputable def dG.o:dG→Operator×Int×Int
 | .op o a b=>(o,a,b)
 |_=>(.Add,0,0)
section
variable {β:Type}{C:Cx}{ρ:ao}{σ:St}{γ:GS}{s s':Shared}{x y r:R}{u v:Value}{l q:List V}{a:Addr}{o:Obj}{rel:Cx→GS→α→β→Prop}{m:Sem β}{fs:List aD}{P:(β→Shared→Prop)→(Value→Shared→Prop)→Prop}
theorem FS.A0 (F:FS C ρ σ γ s)(F':Fr C.g C.L s'.heap γ.m)(N':News C.g C.L s'.heap ((s.heap.objs.size,o)::aL γ C.rest))(hg:s'.gens=s.gens:=by rfl)(ho:s'.os=s.os:=by rfl):FS C ρ σ (γ.oY [(s.heap.objs.size,o)]) s':=
 (F.alloc F' N' F.fresh hg ho).hY
theorem KT.HG {x:Option α}{β':Type}{f:α→ao→St→List aD→TO β}{rel:Cx→GS→β→β'→Prop}{P:(β'→Shared→Prop)→(Value→Shared→Prop)→Prop}(h: ∀a,x=some a→KT C γ rel (f a ρ σ fs) P):KT C γ rel ((nF x ρ σ fs).bind f) P:=by
 cases x with
 |none=>exact False.elim
 |some a=>exact KT.pre λZ=>h a rfl
theorem KT.Qr {α0:Type}{y:Option α0}{x:Option α}{g:α0→TO α}{β':Type}{f:α→ao→St→List aD→TO β}{rel:Cx→GS→β→β'→Prop}{P:(β'→Shared→Prop)→(Value→Shared→Prop)→Prop}(h: ∀a,x=some a→KT C γ rel (f a ρ σ fs) P)(h': ∀p,KT C γ rel ((g p).bind f) P):KT C γ rel ((Mine.tE y (nF x ρ σ fs) g).bind f) P:=by
 cases y with
 |none=>exact KT.HG h
 |some p=>exact h' p
theorem KT.lt {n:Nat}{f:Unit→ao→St→List aD→TO α}(h:n<16000000→ ∀fs',KT C γ rel (f () ρ σ fs') P):KT C γ rel ((FH n ρ σ fs).bind f) P:=
 KT.Qr (λZ e=>h (aM e).1 fs) λp=>KT.pre λk=>h (WD (Nat.le_of_eq (WJ dG.i k.1)) p.1.2) p.2
theorem KT.op {op:Operator}{i j:Int}{f:Int→ao→St→List aD→TO α}(h: ∀k,cF op i j=some k→ ∀fs',KT C γ rel (f k ρ σ fs') P):KT C γ rel ((Qs op i j ρ σ fs).bind f) P:=
 KT.Qr (λk e=>h k e fs) λp=>KT.pre λk=>h _ (by
  have e:(op,i,j)=_:=WJ dG.o k.1;cases e;exact p.1.2) p.2
theorem Aw {i:Int}(h:ri r=some i)(hr:aA C γ r u){P:Prop}(k: ∀t,u= .int i t→P):P:=by
 rw [uC h] at hr;exact aU.eV hr k
theorem gY {w:V}{i:Int}(h:bT w=some i)(hr:aU C.D γ.fz γ.αs w u){P:Prop}(k: ∀t,u= .int i t→P):P:=by
 rw [dv h] at hr;exact aU.eV hr k
theorem Gk (F:FS C ρ σ γ s)(rx:aA C γ x u)(ry:aA C γ y v)(hx:cw x ρ σ=some l)(hy:cw y ρ σ=some q)(hn:l.length+q.length<16000000):WO C γ aA (.v (.list (l++q))) ρ σ (binaryOp .Add u v) s:=by
 obtain ⟨hu,hg,r1⟩:=F.cw rx hx;obtain ⟨hv,hg',r2⟩:=F.cw ry hy;subst hu hv;exact add_lists F.fr F.nw (bF hg) (bF hg') (λh' F' N'=> .mk .oY (F.A0 (s':={s with heap:=h'}) F' N') (aU.eP (.head _) (aH.aw cg (r1.eU r2)))) (dj (r1.len▸r2.len▸hn))
theorem BC {op:Operator}(F:FS C ρ σ γ s)(rx:aA C γ x u)(ry:aA C γ y v):bO C γ aA (II op x y ρ σ fs) (binaryOp op u v) s:=
 KT.tE (λZ=>KT.tI λho=>Wy ho▸KT.tO λl hl=>KT.tO λq hq=>KT.lt λhn fs'=>(Gk F rx ry hl hq hn).rF) λi hi=>KT.tO λj hj=>KT.op λk hk fs'=>
  Aw hi rx λt hu=>Aw hj ry λt' hv=>hu▸hv▸WO.rF (Fh hk (.mk .refl F.same (aU.int _ _)))
theorem kg {l:List V}{vs:List Value}(h:l.length=vs.length):(!vs.toArray.isEmpty)= !l.isEmpty:=by
 cases l with
 |nil=>cases vs with
  |nil=>rfl
  |cons _ _=>cases h
 |cons _ _=>cases vs with
  |nil=>cases h
  |cons _ _=>rfl
theorem mH (K:aW C){b:Bool}(F:FS C ρ σ γ s)(hr:aA C γ r u):(match bf r ρ σ with
   |some l=>if l.length<16000000 then some (!l.isEmpty) else none
   |none=>none)=some b→WO C γ gM (bY b) ρ σ (truthy u) s:=by
 refine ax (x:=bf r ρ σ) (λq=> ?_) λl q=> ?_
 ·exact aa q no
 ·refine aa q ?_;refine λe=>ey e λhn e=> ?_;obtain rfl:=cH e;cases F.bf K hr q with
  |xA hu hg r=>subst hu;exact wpAny_truthy_list (bF hg) (jZ r.len hn) (kg r.len▸ .mk .refl F.same rfl)
  |au hu hg r=>subst hu;exact truthy_tuple (ef hg) (jZ r.len hn) (kg r.len▸ .mk .refl F.same rfl)
theorem kF (K:aW C){b:Bool}(F:FS C ρ σ γ s)(hr:aA C γ r u):tP r ρ σ=some b→WO C γ gM (bY b) ρ σ (truthy u) s:=by
 cases r with
 |v a=>cases a with
  |bool c=>exact λe=>cH e▸aU.eV hr λhu=>hu▸wpAny_truthy_bool (.mk .refl F rfl)
  |int i=>exact λe=>cH e▸aU.eV hr λt hu=>hu▸PyProof.Rows.truthy_int (.mk .refl F (WJ bY (decide_not.trans rfl)))
  |none=>exact λe=>cH e▸aU.eV hr λhu=>hu▸truthy_none (.mk .refl F rfl)
  |_=>exact mH K F hr
 |lr x=>exact mH K F hr
theorem qk {b:Bool}:D5 r=some b→tP r ρ σ=some b:=by
 cases r with
 |v a=>cases a with
  |bool _=>exact id
  |int _=>exact id
  |_=>exact no
 |lr _=>exact no
theorem Bg {l:List V}{q:List V×V×List V}(h:Kp r ρ=some l)(e:l=q.1)(hq:q.1.getLast? =some q.2.1∧q.1.dropLast=q.2.2∧q.1.length<16000000):tP r ρ σ=some true:=by
 subst e;cases r with
 |v a=>exact no h
 |lr x=>
  show (match nH ρ x with|some l=>if l.length<16000000 then some (!l.isEmpty) else none|none=>none)=_;refine aa (show nH ρ x=some q.1 from h) ?_;show (if q.1.length<16000000 then some (!q.1.isEmpty) else none)=_;refine aa (WE hq.2.2) ?_;have h1:=hq.1;revert h1;cases q.1 with
  |nil=>exact ig
  |cons _ _=>exact λZ=>rfl
theorem tH (K:aW C)(F:FS C ρ σ γ s)(hr:aA C γ r u):bO C γ gM (vy r ρ σ fs) (truthy u) s:=
 KT.tE (λZ=>KT.tE (λZ=>bO.HG λa e=>cG e λb e1 e2=>e2▸kF K F hr e1) λp hp k=>aR hp λl h1 h2=>cG h2 λq Z e=>by
  subst e;exact kF K F hr (Bg h1 (WJ dG.l k.1) q.1.2)) λp Z=>KT.tO λb hb k=>kF K F hr ((qk hb).trans (WJ some ((WJ dG.b k.1).trans p.1.2)))
theorem sX {vs:List Value}{i:Int}{w:V}(hR:aH C.D γ.fz γ.αs l vs)(e:ag l i=some w):
  ∃x j,seqIndex? i vs.length=some j∧vs[j]? =some x∧aU C.D γ.fz γ.αs w x∧(0≤i→j=i.toNat)∧(i<0→ -(vs.length:Int)≤i∧j=(i+vs.length).toNat)∧ -16000000≤i∧i<16000000:=by
 have hlen:=hR.len;unfold ag at e;by_cases h0:0≤i
 ·rw [WE h0] at e;refine ey e λh1 e=> ?_;obtain ⟨x,hx,hr⟩:=hR.get e;have hj:i.toNat<vs.length:=(List.getElem?_eq_some_iff.mp hx).1;refine ⟨x,i.toNat,?_,hx,hr,λZ=>rfl,λh=>WK h0 (Int.not_le.mpr h),Int.le_trans (by decide) h0,h1⟩;unfold seqIndex?
  simp only [Int.not_lt.mpr h0,if_false]
  rw [WE (by simp;lia)]
 ·rw [WG h0] at e;refine ey e λh1 e=> ?_;obtain ⟨x,hx,hr⟩:=hR.get e;have h0:i<0:=Int.not_le.mp h0;have he:(↑l.length+i).toNat=(i+vs.length).toNat:=by rw [hlen,Int.add_comm]
  rw [he] at hx;refine ⟨x,(i+vs.length).toNat,?_,hx,hr,λh=>WK h (Int.not_le.mpr h0),λZ=>⟨by lia,rfl⟩,h1.2,by lia⟩;unfold seqIndex?
  simp only [h0,if_true]
  rw [WE (by simp;lia)]
noncomputable def dJ:Expr→Bool
 | .Slice .. =>false
 |_=>true
theorem bV {sl:Expr}{i:Value}(h:dJ sl=true):subscripted sl false u i=operate [u,i] (getItem u i):=by
 cases sl with
 |Slice _ _ _ _=>exact bK h
 |_=>rfl
theorem sZ (K:aW C){gr slice:Expr}{i:Int}{t:Tok}{w:V}(F:FS C ρ σ γ s)(hr:aA C γ r u)(e:bf r ρ σ=some l)(hv:ag l i=some w)(hs:dJ slice=true):WO C γ aA (.v w) ρ σ (subscriptTail gr slice u (.int i t)) s:=by
 cases F.bf K hr e with
 |xA hu hg hR=>
  subst hu;obtain ⟨x,j,h1,h2,h3,h4,h5,h6,h7⟩:=sX hR hv;have hl:=bF hg;refine tail_any hl.typeIs slot_list_getitem.lookup ?_ (bV hs);by_cases h0:0≤i
  ·refine wpAny_getItem_list hl h0 (Int.lt_of_lt_of_le h7 (by decide)) (x:=x) ?_ (.mk .refl F h3);exact fF (h4 h0) (aa (List.getElem?_toArray) h2)
  ·obtain ⟨h8,h9⟩:=h5 (Int.not_le.mp h0);refine wpAny_getItem_list_neg hl (Int.not_le.mp h0) (by exact aa List.size_toArray h8) (Int.le_trans (by decide) h6) (x:=x) ?_ (.mk .refl F h3);rw [h9] at h2;exact aa List.size_toArray (aa (List.getElem?_toArray) h2)
 |au hu hg hR=>
  subst hu;obtain ⟨x,j,h1,h2,h3,h4,h5,h6,h7⟩:=sX hR hv;have hl:=ef hg;exact tail_any hl.typeIs slot_tuple_getitem.lookup (getItem_tuple hl (Int.le_trans (by decide) h6) (Int.lt_of_lt_of_le h7 (by decide)) (by exact aa List.size_toArray h1) (by exact aa (List.getElem?_toArray) h2) (.mk .refl F h3)) (bV hs)
end
noncomputable def dS (f:Option (V→PyData))(a:V):PyData:=match a with
 | .none=> .none
 | .bool b=> .bool b
 | .int i=> .int i
 | .str x=> .str (nm x)
 | .au l=>(match f with
  |some f=> .tuple (l.map f)
  |none=> .none)
 | .list l=>(match f with
  |some f=> .list (l.map f)
  |none=> .none)
 |_=> .none
noncomputable def jv (n:Nat):V→PyData:=n.rec (dS none) λZ f=>dS (some f)
theorem fq {f:V→PyData}{l:List V}(h: ∀v,(f v).canLay0=true):PyData.canLayAll0 (l.map f)=true:=by
 induction l with
 |nil=>rfl
 |cons v r ih=>exact (congr (WJ and (h v)) ih:((f v).canLay0&&PyData.canLayAll0 (r.map f))=(true&&true))
theorem iF {f:V→PyData}{k:Nat}{l:List V}(h: ∀v,(f v).depth≤k):PyData.depthAll (l.map f)≤k:=by
 induction l with
 |nil=>exact Nat.zero_le _
 |cons v r ih=>exact (Nat.max_le.mpr ⟨h v,ih⟩:max (f v).depth (PyData.depthAll (r.map f))≤k)
theorem cY {n:Nat}: ∀(v:V),(jv n v).canLay0=true:=by
 have iu: ∀(f:Option (V→PyData)),(∀g,f=some g→ ∀v,(g v).canLay0=true)→ ∀v,(dS f v).canLay0=true:=λf hf v=>by
  cases v with
  |str x=>exact Kg x
  |au l=>cases f with
   |none=>rfl
   |some g=>exact fq (hf g rfl)
  |list l=>cases f with
   |none=>rfl
   |some g=>exact fq (hf g rfl)
  |_=>rfl
 induction n with
 |zero=>exact iu none λZ=>no
 |succ n ih=>exact iu (some (jv n)) λg e=>cH e▸ih
theorem iZ {n:Nat}: ∀(v:V),(jv n v).depth≤n:=by
 induction n with
 |zero=>intro v;cases v<;>exact Nat.le_refl _
 |succ n ih=>
  intro v;cases v with
  |au l=>exact Nat.succ_le_succ (iF ih)
  |list l=>exact Nat.succ_le_succ (iF ih)
  |_=>exact Nat.zero_le _
section
variable {C:Cx}{ρ:ao}{σ:St}{γ:GS}{s:Shared}{v x y:V}{u:Value}{l q:List V}{vs:List Value}{r r2:R}{t:Bool}{E:Value→Shared→Prop}{Q:Value→Shared→Prop}
inductive Rd (h:Heap)(u:Value)(d:PyData):Prop
 |mk {as} (r:Reads h u d as):Rd h u d
inductive PF (h:Heap)(us:List Value)(d:List PyData):Prop
 |mk {as} (r:ReadsAll h us d as):PF h us d
theorem cP {f:V→PyData}{p:V→Bool}(ih: ∀{v u},p v=true→aU C.D γ.fz γ.αs v u→Rd s.heap u (f v))(h:aH C.D γ.fz γ.αs l vs):l.all p=true→PF s.heap vs (l.map f):=by
 induction h with
 |nil=>exact λZ=> .mk .nil
 |cons h1 _ ih2=>exact λh=>ay h λa b=>by obtain ⟨x⟩:=ih a h1;obtain ⟨y⟩:=ih2 b;exact .mk (.cons x y)
theorem eh (K:aW C)(F:FS C ρ σ γ s){n:Nat}: ∀{v u},bS n v=true→aU C.D γ.fz γ.αs v u→Rd s.heap u (jv n v):=by
 have iu: ∀{f:Option (V→PyData)} {p:List V→Bool},(∀{l u},p l=true→aU C.D γ.fz γ.αs (.au l) u→Rd s.heap u (dS f (.au l)))→(∀{l u},p l=true→aU C.D γ.fz γ.αs (.list l) u→Rd s.heap u (dS f (.list l)))→
   ∀{v u},ur p v=true→aU C.D γ.fz γ.αs v u→Rd s.heap u (dS f v):=λ{f p} ht hl {v u} hd h=>by
  cases v with
  |none=>exact h.eV λhu=>hu▸ .mk .none
  |bool b=>exact h.eV λhu=>hu▸ .mk (.bool b)
  |int i=>exact h.eV λt hu=>hu▸ .mk (.int i t)
  |str x=>exact h.eV λt hu=>hu▸ .mk (.str _ t)
  |au l=>exact ht hd h
  |list l=>exact hl hd h
  |_=>exact bK hd
 induction n with
 |zero=>exact iu (f:=none) (p:=λZ=>false) (bK) bK
 |succ n ih=>
  intro v u;refine iu (f:=some (jv n)) (p:=λl=>l.all (bS n)) (λhd h=>h.eV λa vs e hu hm r=> ?_) λhd h=>h.eV λa vs e hu hm r=> ?_
  ·obtain ⟨z⟩:=cP ih r hd;exact hu▸ .mk (.tuple (F.at K hm) rfl rfl z)
  ·obtain ⟨z⟩:=cP ih r hd;exact hu▸ .mk (.list (F.ko hm) rfl rfl z)
theorem tU {f:V→V→Option Bool}{g:V→PyData}{p:V→Bool}(ih: ∀{a b t},p a=true→p b=true→f a b=some t→PyData.eqv (g a) (g b)=t):
  ∀{q:List V} {t:Bool},l.all p=true→q.all p=true→vC f l q=some t→PyData.eqvAll (l.map g) (q.map g)=t:=by
 induction l with
 |nil=>intro q t _ _ e;cases q<;>exact cH e
 |cons a l ih2=>
  intro q t h1 h2 e;cases q with
  |nil=>exact cH e
  |cons b q=>
   refine ay h1 λa1 a2=>ay h2 λb1 b2=> ?_;show (PyData.eqv (g a) (g b)&&PyData.eqvAll (l.map g) (q.map g))=t;have e:Hl (f a b) (vC f l q)=some t:=e;revert e;refine ax (x:=f a b) (λq=> ?_) λc hc=> ?_
   ·exact aa q no
   ·refine aa hc (aa (ih a1 b1 hc) ?_);cases c with
    |true=>exact λe=>ih2 a2 b2 e
    |false=>exact λe=>cH e
theorem rJ {n:Nat}: ∀{a b:V} {t:Bool},bS n a=true→bS n b=true→jB n a b=some t→PyData.eqv (jv n a) (jv n b)=t:=by
 have iu: ∀{f:Option (V→PyData)} {p:List V→Bool} {g:List V→List V→Option Bool},(∀{l q t},p l=true→p q=true→g l q=some t→PyData.eqv (dS f (.au l)) (dS f (.au q))=t∧PyData.eqv (dS f (.list l)) (dS f (.list q))=t)→
   ∀{a b t},ur p a=true→ur p b=true→Cv g a b=some t→PyData.eqv (dS f a) (dS f b)=t:=λ{f p g} hg {a b t} h1 h2 e=>by
  cases a with
  |none=>cases b with
   |none=>exact cH e
   |_=>exact no e
  |bool x=>cases b with
   |bool y=>exact Eq.trans (by cases x<;>cases y<;>rfl) (cH e)
   |_=>exact no e
  |int x=>cases b with
   |int y=>exact Eq.trans rfl (cH e)
   |_=>exact no e
  |str x=>cases b with
   |str y=>exact Eq.trans n7 (cH e)
   |_=>exact no e
  |au x=>cases b with
   |au y=>exact (hg h1 h2 e).1
   |_=>exact no e
  |list x=>cases b with
   |list y=>exact (hg h1 h2 e).2
   |_=>exact no e
  |_=>exact bK h1
 induction n with
 |zero=>exact iu (f:=none) λZ Z=>no
 |succ n ih=>exact iu (f:=some (jv n)) λh1 h2 e=>⟨tU ih h1 h2 e,tU ih h1 h2 e⟩
theorem iA (K:aW C)(F:FS C ρ σ γ s)(hr:aA C γ r u)(e:fW r ρ σ=some x)(hd:bS 8 x=true):Rd s.heap u (jv 8 x):=by
 unfold fW at e;revert e;refine ax (x:=cw r ρ σ) (λq=> ?_) λl q=> ?_
 ·refine aa q ?_;cases r with
  |v a=>exact λe=>eh K F hd (cH e▸hr)
  |lr _=>exact no
 ·refine aa q ?_;intro e;have e:=cH e;subst e;obtain ⟨hu,hg,rr⟩:=F.cw hr q;obtain ⟨z⟩:=cP (eh K F (n:=7)) rr hd;exact hu▸ .mk (.list hg rfl rfl z)
theorem zb: ∀{t:Bool},bS 8 x=true→l.all (bS 8)=true→vD x l=some t→((l.map (jv 8)).any λy=>PyData.eqv y (jv 8 x))=t:=by
 induction l with
 |nil=>exact λZ Z e=>cH e
 |cons a r ih=>
  intro t hx hl e;refine ay hl λha hr=> ?_;show (PyData.eqv (jv 8 a) (jv 8 x)||_)=t;have e:Pj (jB 8 a x) (vD x r)=some t:=e;revert e;refine ax (x:=jB 8 a x) (λq=> ?_) λc hc=> ?_
  ·exact aa q no
  ·refine aa hc (aa (rJ ha hx hc) ?_);cases c with
   |true=>exact λe=>cH e
   |false=>exact λe=>ih hx hr e
theorem P0 {a k:Nat}(h:a+64<cLine)(hk:k≤8):a+1+k<cLine:=WD (lB hk) h
theorem DK (K:aW C)(hx:aU C.D γ.fz γ.αs x u)(F:FS C ρ σ γ s)(hr:aA C γ r2 u2)(e:bf r2 ρ σ=some l)(hv:HS x l=some t):
  (Q (.bool t) s→wpAny (aC C) C.A (compareOp .In u u2) Q E s)∧(Q (.bool (!t)) s→wpAny (aC C) C.A (compareOp .NotIn u u2) Q E s):=by
 unfold HS at hv;refine ey hv λhd hv=>ay hd λd1 d2=> ?_;obtain ⟨ra⟩:=eh K F d1 hx;have hc:PyData.canLayAll0 (l.map (jv 8))=true:=fq cY;have hu:C.A.units+1+min (PyData.depthAll (l.map (jv 8))) (jv 8 x).depth<cLine:=P0 K.units (Nat.le_trans (Nat.min_le_right _ _) (iZ x));have hany:=zb d1 d2 hv;cases F.bf K hr e with
 |xA hu' hg rr=>
  obtain ⟨rb⟩:=cP (eh K F (n:=8)) rr d2;subst hu';exact ⟨λh=>in_list_reads (.list hg rfl rfl rb) ra hc (cY x) hu (hany▸h),λh=>notIn_list_reads (.list hg rfl rfl rb) ra hc (cY x) hu (hany▸h)⟩
 |au hu' hg rr=>
  obtain ⟨rb⟩:=cP (eh K F (n:=8)) rr d2;subst hu';exact ⟨λh=>in_tuple_reads (.tuple hg rfl rfl rb) ra hc (cY x) hu (hany▸h),λh=>notIn_tuple_reads (.tuple hg rfl rfl rb) ra hc (cY x) hu (hany▸h)⟩
theorem DJ (K:aW C)(F:FS C ρ σ γ s)(h1:aA C γ r u)(h2:aA C γ r2 u2)(e:Hw r r2 ρ σ=some t):
  (Q (.bool t) s→wpAny (aC C) C.A (compareOp .Eq u u2) Q E s)∧(Q (.bool (!t)) s→wpAny (aC C) C.A (compareOp .NotEq u u2) Q E s):=by
 unfold Hw at e;revert e;refine ax (x:=fW r ρ σ) (λq=> ?_) λx hx=> ?_
 ·exact aa q no
 refine aa hx ?_;refine ax (x:=fW r2 ρ σ) (λq=> ?_) λy hy=> ?_
 ·exact aa q no
 refine aa hy ?_;refine λe=>ey e λhd e=>ay hd λd1 d2=> ?_;obtain ⟨ra⟩:=iA K F h1 hx d1;obtain ⟨rb⟩:=iA K F h2 hy d2;have hq:=rJ d1 d2 e;have hu:C.A.units+min (jv 8 x).depth (jv 8 y).depth<cLine:=WD (Nat.add_le_add_left (Nat.le_trans (Nat.min_le_left _ _) (Nat.le_trans (iZ x) (by decide))) _) K.units;exact ⟨λh=>compareEq_reads ra rb (cY x) (cY y) hu (hq▸h),λh=>compareNe_reads ra rb (cY x) (cY y) hu (hq▸h)⟩
end
theorem om {κ:Type} [DecidableEq κ] (k k':κ)(x:Value)(f:List (κ×Value)):valueAt ((k,x)::f) k'=if k=k' then some x else valueAt f k':=by
 unfold valueAt;by_cases h:k=k'<;>simp [h]
theorem qd {κ:Type} [DecidableEq κ] (k k':κ)(x u:Value)(f:List (κ×Value))(hn:(((k,x)::f).map (·.1)).Nodup):stored ((k,x)::f) k' u=if k=k' then (k,u)::f else (k,x)::stored f k' u:=by
 unfold stored;by_cases h:k=k'
 ·subst h;have:f.map (λkv=>if kv.1=k then (kv.1,u) else kv)=f:=by
   conv=>rhs;rw [←List.map_id f]
   refine List.map_congr_left λp hp=>WG λe=>(List.nodup_cons.mp hn).1 ?_;rw [←e];exact List.mem_map_of_mem (f:=(·.1)) hp
  simp [this]
 ·simp only [List.any_cons,h,decide_false,Bool.false_or,if_false]
  split<;>simp [h]
structure Kf {κ:Type} [DecidableEq κ] (kf:V→κ→Prop):Prop where
 q: ∀{a b x k},kf a b→kf x k→ku a x=some (decide (b=k))
theorem Me:Kf LY:=⟨λ{a b x k} h h'=>by
 obtain ⟨n,rfl,rfl⟩:=h;obtain ⟨m,rfl,rfl⟩:=h';exact WJ some (decide_eq_decide.mpr ⟨WJ nm,xJ⟩)⟩
theorem N8:Kf MT:=⟨λ{a b x k} h h'=>by
 cases h;cases h';rfl⟩
section
variable {κ:Type} [DecidableEq κ] {kf:V→κ→Prop}{l q:List (V×V)}{f:List (κ×Value)}{x v:V}{k:κ}{u:Value}
noncomputable def zG (D:Wd)(fz:aJ)(αs:List Addr)(y:Option V)(z:Option Value):Prop:=match y with
 |some v=> ∃u,z=some u∧aU D fz αs v u
 |none=>z=none
theorem zG.some {y:Option V}{z:Option Value}(h:zG D fz αs y z):z.isSome=y.isSome:=by
 cases y with
 |none=>exact aa h rfl
 |some v=>obtain ⟨u,rfl,_⟩:=h;rfl
theorem iO (H:Kf kf)(hx:kf x k)(h:bZ (KR kf D fz αs) l f): ∀{y},jw l x=some y→zG D fz αs y (valueAt f k):=by
 induction h with
 |nil=>intro y e;exact ey (x:=some none) e λZ e=>cH e▸rfl
 | @cons p b r g h _ ih=>
  intro y e;have e0:=H.q h.1 hx;unfold jw at e;rw [e0] at e;show zG D fz αs y (valueAt ((b.1,b.2)::g) k);refine aa (om ..) ?_;by_cases hb:b.1=k
  ·refine aa (WE hb) ?_;rw [WA hb] at e;exact cH e▸⟨_,rfl,h.2⟩
  ·refine aa (WG hb) ?_;rw [Wz hb] at e;exact ih e
theorem tv (H:Kf kf)(hx:kf x k)(hR:aU D fz αs v u)(h:bZ (KR kf D fz αs) l f): ∀{q},(f.map (·.1)).Nodup→pW l x v=some q→bZ (KR kf D fz αs) q (stored f k u):=by
 induction h with
 |nil=>intro q _ e;exact ey (x:=some [(x,v)]) e λZ e=>cH e▸ .cons ⟨hx,hR⟩ .nil
 | @cons p b r g h hr ih=>
  intro q hn e;have e0:=H.q h.1 hx;unfold pW at e;rw [e0] at e;show bZ _ q (stored ((b.1,b.2)::g) k u);refine aa (qd _ _ _ _ _ hn) ?_;by_cases hb:b.1=k
  ·refine aa (WE hb) ?_;rw [WA hb] at e;exact cH e▸ .cons ⟨h.1,hR⟩ hr
  ·refine aa (WG hb) ?_;rw [Wz hb] at e;exact cG (f:=λr=>p::r) e λw hw e=>e▸ .cons h (ih (List.nodup_cons.mp hn).2 hw)
end
section
variable {l q:List (V×V)}{o:Obj}{n:N}{i:Int}{v:V}
theorem jq {κ κ':Type} [DecidableEq κ] [DecidableEq κ'] {k:KeyKind pw D.w κ}{k':KeyKind pw D.w κ'}{o:Obj}(h:o.IsDictOf k []):o.IsDictOf k' []:=by
 obtain ⟨es,ep,a,b,c,d,e⟩:=h;have:es= #[]:=by simpa using d.length
 subst this;exact ⟨#[],ep,a,b,λZ h=>by simp at h,.nil,List.nodup_nil⟩
theorem zV {α:Type}{P:Prop}{z:Option α}(h:oF D fz αs l o)(hz: ∀p r,l=p::r→ku p.1 (.str n)=none→z=none){y:α}(e:z=some y)(k: ∀f,bZ (KR LY D fz αs) l f→o.IsDictOf (PySem.strKind pw D.w) f→P):P:=by
 cases h with
 |s h d=>exact k _ h d
 |i h d=>induction h with
  |nil=>exact k [] .nil (jq d)
  | @cons p b r g h _=>exact no ((hz p r rfl (by exact aa h.1 rfl)).symm.trans e)
theorem EB {α:Type}{P:Prop}{z:Option α}(h:oF D fz αs l o)(hz: ∀p r,l=p::r→ku p.1 (.int i)=none→z=none){y:α}(e:z=some y)(k: ∀f,bZ (KR MT D fz αs) l f→o.IsDictOf (PySem.intKind pw D.w) f→P):P:=by
 cases h with
 |i h d=>exact k _ h d
 |s h d=>induction h with
  |nil=>exact k [] .nil (jq d)
  | @cons p b r g h _=>exact no ((hz p r rfl (by obtain ⟨m,e,_⟩:=h.1;exact aa e rfl)).symm.trans e)
theorem f7 {x:V}: ∀p r,l=p::r→ku p.1 x=none→jw l x=none:=λp r e h=>by refine aa e ?_;rw [jw];exact aa h rfl
theorem pX {x v:V}: ∀p r,l=p::r→ku p.1 x=none→pW l x v=none:=λp r e h=>by refine aa e ?_;rw [pW];exact aa h rfl
theorem o5 {x:V}{y:Option V}(e:jw l x=some y):kD x=true:=by
 cases l with
 |nil=>exact ey e λh Z=>h
 |cons p r=>
  unfold jw at e;revert e;refine ax (x:=ku p.1 x) (λq=> ?_) λt q=> ?_
  ·exact aa q no
  ·intro _;unfold ku at q;unfold kD;revert q;cases fK p.1 with
   |some a=>exact λq=>cG q λb hb Z=>by exact aa hb rfl
   |none=>cases bT p.1 with
    |some a=>exact λq=>cG q λb hb Z=>by exact aa hb (Bool.or_true _)
    |none=>exact no
theorem yo {x v:V}{y:List (V×V)}(e:pW l x v=some y):kD x=true:=by
 cases l with
 |nil=>exact ey e λh Z=>h
 |cons p r=>
  unfold pW at e;revert e;refine ax (x:=ku p.1 x) (λq=> ?_) λt q=> ?_
  ·exact aa q no
  ·intro _;unfold ku at q;unfold kD;revert q;cases fK p.1 with
   |some a=>exact λq=>cG q λb hb Z=>by exact aa hb rfl
   |none=>cases bT p.1 with
    |some a=>exact λq=>cG q λb hb Z=>by exact aa hb (Bool.or_true _)
    |none=>exact no
theorem eg {κ:Type} [DecidableEq κ] {k:KeyKind pw D.w κ}{o:Obj}{f:List (κ×Value)}{h:Heap}{a:Addr}(hg:h.get? a=some o)(q:o.IsDictOf k f):h.MapOf k a (valueAt f):=
 (Heap.dictOf_iff.mpr ⟨o,hg,q⟩:h.DictOf k a f).mapOf
end
theorem f9 {w:World}(x:Str)(t:Tok):(PySem.strKind pw w).is x (.str x t)=true:=by simp [PySem.strKind,Value.isStrOf]
theorem jH {w:World}(x:Int)(t:Tok):(PySem.intKind pw w).is x (.int x t)=true:=by simp [PySem.intKind,Value.isInt]
theorem rE {D:Wd}{fz:aJ}{αs:List Addr}{v:V}{u:Value}(h:aU D fz αs v u):(u== .none)=i7 v:=by
 cases h<;>rfl
section
variable {C:Cx}{ρ:ao}{σ:St}{γ:GS}{s:Shared}{u:Value}{x y j:V}{r r2:R}{d:List (V×V)}{k:Nat}{t:Bool}{fs:List aD}{E:Value→Shared→Prop}{Q:Value→Shared→Prop}
theorem A8 (K:aW C){a:Addr}(h:C.g.get? a=none):(a==sysModules)=false:=by
 rw [beq_eq_false_iff_ne]
 rintro rfl
 have:=K.vw;rw [h] at this;exact bK this
theorem FS.AV {a:Addr}{o:Obj}{pre post:aJ}(F:FS C ρ σ γ s)(h:γ.mu=pre++(a,o)::post):C.g.get? a=none:=F.nw.fresh (WB _ (WB _ (WC _ (h▸iK))))
theorem i0 (h:mX r σ=some d){P:Prop}(k: ∀j,r= .v (.obj j)→lY σ j=some d→P):P:=aR h λj e1 e2=>k j (ml e1) e2
theorem Fo (hx:aU C.D γ.fz γ.αs x u)(h:kD x=true){P:Prop}(kS: ∀n t,x= .str n→u= .str (nm n) t→P)(kI: ∀i t,x= .int i→u= .int i t→P):P:=by
 cases x with
 |str n=>exact hx.eV λt hu=>kS n t rfl hu
 |int i=>exact hx.eV λt hu=>kI i t rfl hu
 |_=>exact bK h
theorem Av (K:aW C){z:Option V}(hx:aU C.D γ.fz γ.αs x u)(F:FS C ρ σ γ s)(hr:aA C γ r u2)(e:mX r σ=some d)(hv:jw d x=some z):
  ((∀s',FS C ρ σ γ s'→Q (.bool z.isSome) s')→wpAny (aC C) C.A (compareOp .In u u2) Q E s)∧((∀s',FS C ρ σ γ s'→Q (.bool (!z.isSome)) s')→wpAny (aC C) C.A (compareOp .NotIn u u2) Q E s):=by
 refine i0 e λj hr' hj=> ?_;rw [hr'] at hr;refine F.fN hr hj λa o pre post hu hm hD Z=> ?_;have hg:=F.eZ (hm▸iK);have hs:=A8 K (F.AV hm);refine Fo hx (o5 hv) (λn t hx hu'=> ?_) λi t hx hu'=> ?_
 ·subst hx hu hu';refine zV hD f7 hv λf h1 h2=> ?_;have G:=(iO Me ⟨n,rfl,rfl⟩ h1 hv).some;exact ⟨λh=>wpAny_in_of (knd:=strKind pw C.D.w) (k:=nm n) (f9 _ _) hs (eg hg h2) (G▸h _ F.same),λh=>wpAny_notIn_of (knd:=strKind pw C.D.w) (k:=nm n) (f9 _ _) hs (eg hg h2) (G▸h _ F.same)⟩
 ·subst hx hu hu';refine EB hD f7 hv λf h1 h2=> ?_;have G:=(iO N8 rfl h1 hv).some;exact ⟨λh=>wpAny_in_of (knd:=intKind pw C.D.w) (k:=i) (jH _ _) hs (eg hg h2) (G▸h _ F.same),λh=>wpAny_notIn_of (knd:=intKind pw C.D.w) (k:=i) (jH _ _) hs (eg hg h2) (G▸h _ F.same)⟩
theorem wZ (K:aW C){gr slice:Expr}{v:V}(hx:aU C.D γ.fz γ.αs x u)(F:FS C ρ σ γ s)(hr:aA C γ r u2)(e:mX r σ=some d)(hv:jw d x=some (some v))(hs:dJ slice=true):WO C γ aA (.v v) ρ σ (subscriptTail gr slice u2 u) s:=by
 refine i0 e λj hr' hj=> ?_;rw [hr'] at hr;refine F.fN hr hj λa o pre post hu hm hD Z=> ?_;have hg:=F.eZ (hm▸iK);refine Fo hx (o5 hv) (λn t hx hu'=> ?_) λi t hx hu'=> ?_
 ·subst hx hu hu';refine zV hD f7 hv λf h1 h2=> ?_;obtain ⟨z,hz,hR⟩:=iO Me ⟨n,rfl,rfl⟩ h1 hv;have hm:=eg hg h2;exact tail_any hm.typeIs slot_dict_getitem.lookup (wpAny_getItem_of (knd:=strKind pw C.D.w) (k:=nm n) (f9 _ _) hm hz (.mk .refl F.same hR)) (bV hs)
 ·subst hx hu hu';refine EB hD f7 hv λf h1 h2=> ?_;obtain ⟨z,hz,hR⟩:=iO N8 rfl h1 hv;have hm:=eg hg h2;exact tail_any hm.typeIs slot_dict_getitem.lookup (wpAny_getItem_of (knd:=intKind pw C.D.w) (k:=i) (jH _ _) hm hz (.mk .refl F.same hR)) (bV hs)
theorem Jz {n y:Nat}(h:NR n=some y){P:Prop}(k: ∀c,(seqIndex? 0 (nm n).length).bind ((nm n).cps[·]?)=some c→nm y=⟨#[c]⟩→P):P:=by
 unfold NR at h;by_cases h0:n%256=0
 ·rw [WE h0] at h;exact no h
 ·rw [WG h0] at h;obtain rfl:=cH h;have hc:=jO (n:=n) (λe=>h0 (by rw [e]));refine k (n%256) ?_ (F9 h0 (Nat.mod_lt _ (by decide)));have hsz:(nm n).length=(nm (n / 256)).cps.toList.length+1:=by
   show (nm n).cps.size=_;rw [←Array.length_toList,hc];rfl
  unfold seqIndex?;rw [hsz]
  simp only [show¬((0:Int)<0) by decide,if_false]
  rw [WE (by simp)];show (nm n).cps[0]? =some _;rw [←Array.getElem?_toList,hc];rfl
theorem BX (K:aW C){a b:Expr}{l:List V}{i:Int}{t:Tok}(F:FS C ρ σ γ s)(hr:aA C γ r u)(hl:bf r ρ σ=some l)(hs:dJ b=true):bO C γ aA (Kj l i ρ σ fs) (subscriptTail a b u (.int i t)) s:=
 KT.tE (λZ=>bO.HG λz e=>cG e λv e hz=>hz▸sZ K F hr hl e hs) λp Z k=>
  have e1:l=p.1.1.1:=WJ dG.l k.1;have e2:i=p.1.1.2.1:=WJ dG.j k.1
  sZ K F hr hl (e1▸e2▸p.1.2) hs
theorem Kl {a b:Expr}{i:Int}{t:Tok}{z:R}(F:FS C ρ σ γ s)(hr:aA C γ r u)(hs:dJ b=true)(e:(Qa r i).map R.v=some z):WO C γ aA z ρ σ (subscriptTail a b u (.int i t)) s:=by
 refine cG e λv e' hz=> ?_;subst hz;clear e;cases r with
 |v w=>cases w with
  |str n=>
   refine ey e' λhn e=>cG e λc hc hv=> ?_;subst hn hv;refine aU.eV hr λt' hu=>Jz hc λk h1 h2=> ?_;subst hu;exact tail_any (typeIs_str s _ _) PySem.F.slot_str_getitem.lookup (PySem.P.getItem_str (by decide) h1 (.mk .refl F.same (h2▸aU.str c _))) (bV hs)
  |_=>exact no e'
 |lr _=>exact no e'
theorem vk (K:aW C){a b:Expr}(F:FS C ρ σ γ s)(hr:aA C γ r u)(hj:aU C.D γ.fz γ.αs j u2)(hs:dJ b=true):bO C γ aA (q5 r j ρ σ fs) (subscriptTail a b u u2) s:=
 KT.tE (λZ=>KT.tO λi hi=>gY hi hj λt hu=>hu▸KT.tE (λZ=>bO.HG λz e=>Kl F hr hs e) λl hl=>BX K F hr hl hs)
  λd hd=>KT.tO λy hy=>bO.HG λz e=>cG e λv e hz=>hz▸wZ K hj F hr hd (hy.trans (WJ some e)) hs
theorem s9 {f:Int→Int→Bool}(h1:aA C γ r u)(h2:aA C γ r2 u2)(e:HD f r r2=some t){P:Prop}(k: ∀i j a b,u= .int i a→u2= .int j b→f i j=t→P):P:=by
 unfold HD at e;revert e;refine ax (x:=ri r) (λq=> ?_) λi q=> ?_
 ·exact aa q no
 exact aa q (λe=>cG e λj hj e=>Aw q h1 λa ha=>Aw hj h2 λb hb=>k i j a b ha hb e)
theorem xP (K:aW C){o:CmpOp}(F:FS C ρ σ γ s)(h1:aA C γ r u)(h2:aA C γ r2 u2)(e:wx o r r2 ρ σ=some t)(h: ∀s',FS C ρ σ γ s'→Q (.bool t) s'):wpAny (aC C) C.A (compareOp o u u2) Q E s:=by
 have isO': ∀{b},Mc r r2=some b→u2= .none∧(u== .none)=b:=λ{b} e=>by
  unfold Mc at e;revert e;refine ax (x:=ji r2) (λq=> ?_) λw q=> ?_
  ·exact aa q no
  refine aa q ?_;refine λe=>ey e λhw e=>cG e λv hv e=> ?_;rw [cS q] at h2;rw [cS hv] at h1;refine ⟨?_,(rE h1).trans e⟩;cases w with
  |none=>exact aU.eV h2 id
  |_=>exact bK hw
 have inO': ∀{b},HA r r2 ρ σ=some b→((∀s',FS C ρ σ γ s'→Q (.bool b) s')→wpAny (aC C) C.A (compareOp .In u u2) Q E s)∧((∀s',FS C ρ σ γ s'→Q (.bool (!b)) s')→wpAny (aC C) C.A (compareOp .NotIn u u2) Q E s):=λ{b} e=>by
  unfold HA at e;revert e;refine ax (x:=ji r) (λq=> ?_) λx q=> ?_
  ·exact aa q no
  refine aa q ?_;rw [cS q] at h1;refine ax (x:=mX r2 σ) (λq=> ?_) λd q=> ?_
  ·refine aa q ?_;refine ax (x:=bf r2 ρ σ) (λq=> ?_) λl q=> ?_
   ·exact aa q no
   exact aa q (λe=>⟨λh=>(DK K h1 F h2 q e).1 (h s F),λh=>(DK K h1 F h2 q e).2 (h s F)⟩)
  ·exact aa q (λe=>cG e λz hz e=>e▸Av K h1 F h2 q hz)
 cases o with
 |Eq=>exact (DJ K F h1 h2 e).1 (h s F)
 |NotEq=>exact cG e λb hb e=>(DJ K F h1 h2 hb).2 (e▸h s F)
 |Lt=>exact s9 h1 h2 e λi j a b hu hv hf=>hu▸hv▸PyProof.Rows.lt_int (hf▸h s F)
 |LtE=>exact s9 h1 h2 e λi j a b hu hv hf=>hu▸hv▸PyProof.Rows.le_int (hf▸h s F)
 |Gt=>exact s9 h1 h2 e λi j a b hu hv hf=>hu▸hv▸PyProof.Rows.gt_int (hf▸h s F)
 |GtE=>exact s9 h1 h2 e λi j a b hu hv hf=>hu▸hv▸PyProof.Rows.ge_int (hf▸h s F)
 |Is=>exact (isO' e).1▸PySem.is_none ((isO' e).2▸h s F)
 |IsNot=>exact cG e λb hb e=>(isO' hb).1▸PySem.isNot_none ((isO' hb).2▸e▸h s F)
 |In=>exact (inO' e).1 h
 |NotIn=>exact cG e λb hb e=>(inO' hb).2 (e▸h)
end
structure aK (L:Lv):Prop where
 ev: ∀{C sx},az C sx→ ∀{pe ρ σ fs γ s},FS C ρ σ γ s→bO C γ aA (L.ev sx false pe ρ σ fs) (eval pe C.env) s
 et: ∀{C sx},az C sx→ ∀{pe ρ σ fs γ s},FS C ρ σ γ s→bO C γ gM (L.ev sx true pe ρ σ fs) (isTrue pe C.env (eval pe C.env)) s
 bl: ∀{C sx},az C sx→ ∀{l ρ σ fs γ s},FS C ρ σ γ s→cp C γ (L.bl sx l ρ σ fs) (PySem.execs l C.env) s
 ca: ∀{f l σ fs p},L.ca f l σ fs=some p→bN p.2.2→aq f l σ p.1
section
variable {sx:Sx}{β:Type}{C:Cx}{ρ:ao}{σ:St}{γ:GS}{s:Shared}{r:R}{u:Value}{v:V}{n:N}{l:List Expr}{fs:List aD}{rel:Cx→GS→α→β→Prop}{P:(β→Shared→Prop)→(Value→Shared→Prop)→Prop}
theorem BO (m:Nx γ0 γ)(F:FS C ρ σ γ s)(hr:aA C γ r u):KT C γ0 ly (EY r ρ σ fs) λQ E=>Q u s:=by
 cases r with
 |v a=>exact λZ=> .mk m F hr
 |lr x=>
  refine KT.tO λl hl Z=>F.EZ (gA hl) λa vs e own h1 h2 F'=> ?_;obtain rfl:u= .ref a:=cH (hr.2.symm.trans (h1 hr.1));exact .mk (γ':={γ with own:=own,fz:=(a,bh vs e)::γ.fz}) (m.trans ⟨rfl,rfl,cg (tmp:=[_])⟩) F' (aU.eP (.head _) (aH.aw (cg (tmp:=[_])) h2))
theorem bO.Rh {x:TO R}{m:Sem Value}(h:bO C γ aA x m s):bO C γ ly (x.bind EY) m s:=KT.aE (G:=λb Q E s'=>Q b s') h λa ρ σ fs γ' b s' n F r=>BO n F r
theorem bG (O:aK L)(H:az C sx)(F:FS C ρ σ γ s){e:Expr}:bO C γ ly (jF L sx e ρ σ fs) (eval e C.env) s:=(O.ev H F).Rh
theorem bp {e:Expr}{r:List Expr}{env:PySem.Env}(h:(!dw e)=true):starEach (e::r) env=(false,eval e env)::starEach r env:=by
 cases e with
 |Starred _ _=>exact bK h
 |_=>rfl
theorem cJ {env:PySem.Env}(h:cC l=true):(backTo pos (starEach l env)).any (·.1)=false:=by
 induction l with
 |nil=>rfl
 |cons e r ih=>
  refine ay (a:= !dw e) (b:=cC r) h λh1 h2=> ?_;exact aa (bp h1) (ih h2)
theorem yC (O:aK L)(H:az C sx)(hs:cC l=true): ∀{ρ σ fs γ s},FS C ρ σ γ s→bO C γ H8 (E3 L sx l ρ σ fs) (spliced (backTo pos (starEach l C.env))) s:=by
 induction l with
 |nil=>exact λF Z=>wpAny_items_nil (.mk .refl F .nil)
 |cons e r ih=>
  refine λF=>ay (a:= !dw e) (b:=cC r) hs λh1 h2 g=>wpAny_items_cons ?_ (bp h1);refine (KT.aE (bG O H F) λv ρ1 σ1 fs1 γ1 u s1 n1 F1 r1=>KT.aE (G:=λus Q E s'=>Q (u::us) s') (ih h2 F1) λvs ρ2 σ2 fs2 γ2 us s2 n2 F2 r2 Z=> ?_) g;exact .mk (n1.trans n2) F2 (.cons (aU.aw n2.ext r1) r2)
theorem iQ (O:aK L)(H:az C sx)(F:FS C ρ σ γ s):bO C γ H8 (qz L sx l ρ σ fs) (spliced (backTo pos (starEach l C.env))) s:=KT.tI λh=>yC O H h F
theorem KT.args (O:aK L)(H:az C sx)(F:FS C ρ σ γ s){fn:Value}{first:List Value}(hk:keepIn C.D.K fn=true){f:List V→ao→St→List aD→TO α}{rel:Cx→GS→α→β→Prop}{T:(β→Shared→Prop)→(Value→Shared→Prop)→Value→Shared→Prop}
  (k: ∀vs ρ σ fs γ' us s',Nx γ γ'→FS C ρ σ γ' s'→aH C.D γ'.fz γ'.αs vs us→KT C γ0 rel (f vs ρ σ fs) λQ E=>wpAny (aC C) C.A (call fn (first++us)) (T Q E) E s'):
  KT C γ0 rel ((qz L sx l ρ σ fs).bind f) λQ E=>wpAny (aC C) C.A (callWith pos fn first (backTo pos (starEach l C.env)) []) (T Q E) E s:=by
 have hIn: ∀{ρ σ γ' s'},FS C ρ σ γ' s'→C.D.K.In s'.heap:=λF=>H.K.fh.keeps F.fr.keep;cases l with
 |nil=>exact KT.pre λZ g=>callWith_of (P:=C.D.K.In) rfl (keeps_K hk) (evalArgs_nil3 ⟨hIn F,k [] ρ σ fs γ [] s .refl F .nil g⟩)
 |cons e r=>
  intro g;have hs:cC (e::r)=true:=by
   cases q:cC (e::r) with
   |true=>rfl
   |false=>unfold qz at g;rw [q] at g;exact g.elim
  refine ay (a:= !dw e) (b:=cC r) hs λh1 h2=>callWith_K H.K.fh hk ?_ (bp h1) (cJ h2);exact (KT.aE (G:=λus Q E s'=>C.D.K.In s'.heap∧wpAny (aC C) C.A (call fn (first++us)) (T Q E) E s') (iQ O H F) λvs ρ1 σ1 fs1 γ1 us s1 n1 F1 r1 g=>⟨hIn F1,k vs ρ1 σ1 fs1 γ1 us s1 n1 F1 r1 g⟩) g
theorem i8 {a b:N}{t:Tok}:(Value.str (nm a) t).isStr (nm b)=decide (a=b):=n7
section
variable {a:List (N×V)}{es:List DictEntry}
theorem l9 {e:DictEntry}{m:N}(h:Ee m e):getL (nm n) (e::es)=if m=n then some (some e.val) else getL (nm n) es:=by
 obtain ⟨t,h⟩:=h;obtain ⟨hh,k,x⟩:=e;obtain rfl:k= .str (nm m) t:=h;show (match (DictEntry.mk hh (.str (nm m) t) x::es).find? λe=>e.key.isStr (nm n) with
  |some e=>_
  |none=>_)=_
 refine aa (List.find?_cons) ?_;by_cases q:m=n
 ·subst q;exact aa (WE rfl) (aa (i8.trans (WA rfl)) rfl)
 ·exact aa (WG q) (aa (i8.trans (Wz q)) rfl)
theorem pQ (h:dH D fz αs a es):f6 a n=some v→ ∃u,getL (nm n) es=some (some u)∧aU D fz αs v u:=by
 induction h with
 |nil=>exact no
 | @cons p e _ _ h _ ih=>
  refine aa (l9 h.1) ?_;by_cases q:p.1=n
  ·refine aa (WE q) ?_;rw [f6];exact aa (WE q) (λe=>cH e▸⟨_,rfl,h.2⟩)
  ·refine aa (WG q) ?_;rw [f6];exact aa (WG q) ih
theorem mx (h:dH D fz αs a es):f6 a n=none→getL (nm n) es=some none:=by
 induction h with
 |nil=>exact λZ=>rfl
 | @cons p e _ _ h _ ih=>
  refine aa (l9 h.1) ?_;by_cases q:p.1=n
  ·rw [f6];exact aa (WE q) (AZ)
  ·refine aa (WG q) ?_;rw [f6];exact aa (WG q) ih
theorem mw (h:dH D fz αs a es):(getL (nm n) es).isSome=true:=by
 cases q:f6 a n with
 |none=>exact aa (mx h q) rfl
 |some v=>obtain ⟨u,e,_⟩:=pQ h q;exact aa e rfl
theorem pR {hs:Int}{t:Tok}(hR:aU D fz αs v u)(h:dH D fz αs a es):dH D fz αs (jA a n v) (PySem.W.putL (nm n) hs (.str (nm n) t) u es):=by
 induction h with
 |nil=>exact .cons ⟨⟨t,rfl⟩,hR⟩ .nil
 | @cons p e r g h hr ih=>
  obtain ⟨⟨t',h1⟩,h2⟩:=h;obtain ⟨hh,k,x⟩:=e;obtain rfl:k= .str (nm p.1) t':=h1;unfold jA PySem.W.putL;refine aa i8 ?_;by_cases q:p.1=n
  ·exact aa (WE q) (aa (WA q) (.cons ⟨⟨t',rfl⟩,hR⟩ hr))
  ·exact aa (WG q) (aa (Wz q) (.cons ⟨⟨t',rfl⟩,h2⟩ ih))
theorem oX {ns:List N}: ∀{l:List V},jG ns l n=f6 (ns.zip l) n:=by
 induction ns with
 |nil=>intro l;rfl
 |cons y r ih=>intro l;cases l with
  |nil=>rfl
  |cons w l=>exact WJ (λz=>if y=n then some w else z) ih
end
theorem q9 (h:aU C.D γ.fz γ.αs v u):handedIn u=true:=by
 cases v with
 |none=>exact h.eV λhu=>hu▸rfl
 |bool _=>exact h.eV λhu=>hu▸rfl
 |int _=>exact h.eV λZ hu=>hu▸rfl
 |str _=>exact h.eV λZ hu=>hu▸rfl
 |au _=>exact h.eV λZ Z Z hu Z Z=>hu▸rfl
 |list _=>exact h.eV λZ Z Z hu Z Z=>hu▸rfl
 |aO _ _=>exact h.eV λZ Z Z Z Z hu Z Z Z Z=>hu▸rfl
 |obj _=>exact h.eV λZ hu Z=>hu▸rfl
inductive zI (C:Cx)(γ:GS)(s:Shared)(u:Value)(c:N)(l:List (N×V)):Prop
 |mk {a d es n} (hu:u= .ref a) (h1:s.heap.get? a=some (instObj (C.D.ca c) d)) (h2:s.heap.get? d=some (dictOf es n)) (r:dH C.D γ.fz γ.αs l es):zI C γ s u c l
theorem FS.JG {p:N×List (N×V)}{k:Nat}(F:FS C ρ σ γ s)(hr:aU C.D γ.fz γ.αs (.obj k) u)(e:fL σ k=some p):zI C γ s u p.1 p.2:=
 F.ins hr e λa d es n pre post hu g3 r Z=> .mk hu (F.eZ (g3▸iK)) (F.eZ (g3▸WB _ (.tail _ (.head _)))) r
theorem o9 (K:aW C){c:N}{l:List (N×V)}{b:Bool}{A:Around}(G:jj C.D c n)(F:FS C ρ σ γ s)(I:zI C γ s u c l)(e:f6 l n=some v):wpAny (aC C) A (getAttr u (nm n) b) (fV C γ aA (.v v) ρ σ) (λZ Z=>False) s:=by
 obtain ⟨hu,h1,h2,r⟩:=I;subst hu;obtain ⟨x,hx,hR⟩:=pQ r e;obtain ⟨attr,g1,g2⟩:=G.own;exact get_own F.fr K.fh (ox:=instObj (C.D.ca c) _) ⟨h1,rfl,rfl,h2⟩ G.plain G.dict g1 g2 hx (q9 hR) (.mk .refl F.same hR)
theorem wY {k:Nat}:oZ (.obj k) n σ=(fL σ k).bind λp=>if hZ p.1 n=true then f6 p.2 n else none:=by
 unfold oZ;dsimp only;cases fL σ k<;>rfl
theorem xO (H:az C sx){a:V}{b:Bool}(F:FS C ρ σ γ s)(hr:aU C.D γ.fz γ.αs a u):oZ a n σ=some v→WO C γ aA (.v v) ρ σ (getAttr u (nm n) b) s:=by
 cases a with
 |aO c l=>
  refine λe=>hr.eV λa d ns es m hu hf h1 h2 r=> ?_;unfold oZ at e;dsimp only at e;rw [hf] at e;exact ey (x:=jG ns l n) e λha e=>o9 H.K (H.H.KO c n ha) F (.mk hu (F.ko h1) (F.ko h2) r) (oX.symm.trans e)
 |obj k=>
  refine λe=>aR (wY.symm.trans e) λp q e=> ?_
  ·exact ey (x:=f6 p.2 n) e λha e=>o9 H.K (H.H.KO p.1 n ha) F (F.JG hr q) e
 |_=>exact no
theorem rP {o:Expr}{x:Str}{env:PySem.Env}{w:Sem Value}:e9 o=true→attributeBase o x env w=w:=by
 cases o with
 |Call f l k p=>cases f with
  |Name s q=>cases l with
   |nil=>cases k with
    |nil=>exact bK
    |cons a b=>exact λZ=>rfl
   |cons a b=>exact λZ=>rfl
  |_=>exact λZ=>rfl
 |_=>exact λZ=>rfl
theorem By (O:aK L)(H:az C sx){a:Expr}{x:Str}(F:FS C ρ σ γ s):bO C γ aA (IB L sx a x ρ σ fs) (eval (.Attribute a x pos) C.env) s:=
 KT.tI λh=>ay h λh1 h2 g=>Attribute_any_ ((KT.aE (G:=λu Q E s'=>wpAny (aC C) C.A (getAttr u x true) Q E s') (O.ev H F) λr ρ1 σ1 fs1 γ1 u s1 n1 F1 r1=>KT.tO λw hw=>KT.tO λv hv=>by
  rw [cS hw] at r1;exact aa (bH h1) ((xO H F1 r1 hv).rF.nx n1)) g) (by exact aa (arm_eval_Attribute ..) (aa (rP h2) rfl))
end
theorem dy {κ ν:Type} [BEq κ] [LawfulBEq κ] {k:κ}{v:ν}{l:List (κ×ν)}:l.lookup k=some v→(k,v)∈l:=by
 induction l with
 |nil=>exact no
 |cons p r ih=>
  show (match k==p.1 with
   |true=>some p.2
   |false=>r.lookup k)=some v→_
  cases q:k==p.1 with
  |true=>exact λe=>by obtain rfl:=cH e;exact aa (eq_of_beq q) (.head _)
  |false=>exact λe=> .tail _ (ih e)
theorem An {fz:aJ}{αs:List Addr}:dE [] [] fz αs:=⟨(λZ h=>(nomatch h)),(λk a h=>by simp at h)⟩
theorem j7 {env:PySem.Env}{aG:aJ}{x:N}{u:Value}{P:Prop}(h:fX env aG x=some u)(k: ∀c o,env.cells.lookup (nm x)=some c→(c,o)∈aG→o.data= .cell (some u)→P):P:=
 aR h λc h1 h=>aR h λo h2 h=>k c o h1 (dy h2) (by
  revert h;cases o.data with
  |cell v=>exact λe=>e▸rfl
  |_=>exact no)
section
variable {sx:Sx}{β:Type}{C:Cx}{ρ:ao}{σ:St}{γ:GS}{s:Shared}{r:R}{u:Value}{v:V}{n:N}{l:List Expr}{a b e pe:Expr}{fs:List aD}{x:Str}{o:TO R}{m:Sem Value}{k:Nat}
theorem gy (K:aW C){Q:Value→Shared→Prop}{E:Value→Shared→Prop}{A:Around}(F:FS C ρ σ γ s)(hN:jP n=true)(hl:bP C.env γ.m γ.aG n=some u)(h:Q u s):wpAny (aC C) A (eval (.Name (nm n) pos) C.env) Q E s:=by
 unfold bP at hl;revert hl;cases hk:C.env.kindOf (nm n) with
 |none=>exact no
 |some t=>cases t with
  |«local»=>exact λhl=>wpAny_Name (wpAny_loadName_local K.hk hk F.fr.ns hl h) (da hN)
  |cell=>exact λhl=>j7 hl λc o h1 h2 h3=>wpAny_Name (wpAny_loadName_cell K.hk hk h1 ⟨o,F.nw.get (WC _ h2),h3⟩ h) (da hN)
  |free=>exact λhl=>j7 hl λc o h1 h2 h3=>wpAny_Name (wpAny_loadName_free K.hk hk h1 ⟨o,F.nw.get (WC _ h2),h3⟩ h (xH hN)) (da hN)
  |_=>exact no
theorem WO.nm {rel:Cx→GS→α→Value→Prop}{t:α}(hx:lJ x=true)(h:WO C γ rel t ρ σ (eval (.Name (nm (dk x)) pos) C.env) s):WO C γ rel t ρ σ (eval (.Name x pos) C.env) s:=
 (WJ (λy=>WO C γ rel t ρ σ (eval (.Name y pos) C.env) s) (bH hx)).mpr h
theorem dI (H:az C sx)(h:jn sx x=true):C.env.kindOf x=some .globalImplicit:=(H.ks x).trans (Wy h)
theorem Gl (H:az C sx)(hk:C.env.kindOf (nm n)=some .globalImplicit)(hn:jP n=true)(F:FS C ρ σ γ s)(h:w9 n=some v):WO C γ aA (.v v) ρ σ (eval (.Name (nm n) pos) C.env) s:=by
 obtain ⟨u,h1,h2⟩:=H.H.GO.Rm n v h;exact nameG_K F.fr H.K.fh H.K.qj h1 (.mk .refl F (h2.aw An)) H.K.uy H.K.hk hk (da hn)
theorem Gn (H:az C sx){v:LV}(F:FS C ρ σ γ s)(h:cu ρ n=some v)(hx:sx.X n=true):WO C γ aA (Qk n v) ρ σ (eval (.Name (nm n) pos) C.env) s:=by
 have hX:C.X n=true:=(H.X n).trans hx;cases v with
 |val v=>
  obtain ⟨u,h1,h2⟩:=F.ow.As h hX;exact gy H.K F (H.K.LU n hX) h1 (.mk .refl F h2)
 |own l=>
  obtain ⟨g1,g2,g3,g4,g5⟩:=F.ow.pM h;exact gy H.K F (H.K.LU n hX) (g1 hX) (.mk .refl F ⟨hX,g1 hX⟩)
theorem yI (H:az C sx)(F:FS C ρ σ γ s):bO C γ aA (DE sx x ρ σ fs) (eval (.Name x pos) C.env) s:=
 KT.tI λhx=>KT.tF (λh=>ay h λh1 h2=>KT.tO λv hv=>(WO.nm hx (Gl H (bH hx▸dI H h1) h2 F hv)).rF) λZ=>KT.tO λv hv=>KT.tI λh=>(WO.nm hx (Gn H F hv h)).rF
theorem BK {c:Const}(F:FS C ρ σ γ s):bO C γ aA (I7 c ρ σ fs) (eval (.Constant c k pos) C.env) s:=by
 cases c with
 |none=>exact WO.rF (wpAny_Constant_none (.mk .refl F .none))
 |bool t=>exact WO.rF (wpAny_Constant_bool (.mk .refl F (.bool t)))
 |int i=>exact WO.rF (wpAny_Constant_int (.mk .refl F.same (.int i _)))
 |str y=>exact KT.tI λh=>WO.rF (wpAny_Constant_str (.mk .refl F.same ((WJ (λz=>aA C γ (.v (.str (dk y))) (.str z _)) (bH h)).mpr (.str _ _))))
 |_=>exact False.elim
noncomputable def jY (m:Bool)(C:Cx)(γ:GS)(o:TO R)(e:Expr)(s:Shared):Prop:=match m with
 |true=>bO C γ gM o (isTrue e C.env (eval e C.env)) s
 |false=>bO C γ aA o (eval e C.env) s
theorem bO.sf {m:Sem Bool}(h:bO C γ gM o m s):bO C γ gM (o.bind vy) m s:=KT.aE (G:=λb Q E s'=>Q b s') h λa ρ σ fs γ' b s' n F r=>by
 obtain rfl:a= .v (.bool b):=r;exact KT.tE (λZ q=> .mk n F rfl) λp Z=>KT.tO λc hc=>by
  obtain rfl:=cH hc;exact λq=> .mk n F (WJ bY ((WJ dG.b q.1).trans p.1.2).symm)
theorem bO.Jl (K:aW C){whole:Sem Value}(h:bO C γ aA o whole s)(he:isTrue e C.env whole=(do let v←whole;standAt e.pos;holding [v] (truthy v))):bO C γ gM (o.bind vy) (isTrue e C.env whole) s:=λg=>
 wpAny_isTrue_value ((KT.aE (G:=λu Q E s'=>wpAny (aC C) C.A (truthy u) Q E s') h λr ρ σ fs γ' u s' n F hr=>(tH K F hr).nx n) g) he
theorem iR (K:aW C){m:Bool}(h:bO C γ aA o (eval e C.env) s)(he:isTrue e C.env (eval e C.env)=(do let v←eval e C.env;standAt e.pos;holding [v] (truthy v))):jY m C γ (kl m o) e s:=by
 cases m with
 |true=>exact h.Jl K he
 |false=>exact h
theorem fG {m:Bool}(h:bO C γ aA o (eval e C.env) s):jY m C γ (kl m (tI (!m) o)) e s:=by
 cases m with
 |true=>exact λq=>q.elim
 |false=>exact h
theorem KT.cc {f:Bool→TO α}{rel:Cx→GS→α→β→Prop}{P:(β→Shared→Prop)→(Value→Shared→Prop)→Prop}(hr:aA C γ0 r u)(h: ∀b,r=bY b→u= .bool b→KT C γ rel (f b) P):KT C γ rel (Mine.tO (Mine.cc r) f) P:=
 KT.tO λb hb=>by
  have e:=oJ hb;rw [e] at hr;exact aU.eV hr λhu=>h b e hu
theorem yw (O:aK L)(H:az C sx){o:BoolOp}: ∀{ρ σ fs γ s},FS C ρ σ γ s→bO C γ gM (ug L sx true (decide (o= .And)) l ρ σ fs) (allTrue o l C.env) s:=by
 induction l with
 |nil=>
  refine λF=>KT.tI λZ=>WO.rF ?_;cases o with
  |And=>exact wpAny_allTrue_And_nil (.mk .refl F rfl)
  |Or=>exact wpAny_allTrue_Or_nil (.mk .refl F rfl)
 |cons a r ih=>
  intro ρ σ fs γ s F;have k: ∀(b:R) ρ' σ' fs' γ' (t:Bool) s',Nx γ γ'→FS C ρ' σ' γ' s'→gM C γ' b t→KT C γ gM (tO (Mine.cc b) λc=>tF ((!true&&r.isEmpty)||c !=decide (o= .And)) (.ok (bY c) ρ' σ' fs' []) (ug L sx true (decide (o= .And)) r ρ' σ' fs')) λQ E=>if t=decide (o= .And) then wpAny (aC C) C.A (allTrue o r C.env) Q E s' else Q t s':=λb ρ' σ' fs' γ' t s' n F' hb=>by
   obtain rfl:b= .v (.bool t):=hb;refine KT.tF (λq=>λg=> ?_) λq=>λg=> ?_
   ·exact aa (WG (by cases t<;>cases o<;>first|(exact bK q;done)|decide)) (.mk n F' rfl)
   ·exact aa (WE (by cases t<;>cases o<;>first|(exact jN q;done)|decide)) (((ih F').nx n) g)
  have h:=KT.aE (G:=λt Q E s'=>if t=decide (o= .And) then wpAny (aC C) C.A (allTrue o r C.env) Q E s' else Q t s') (O.et H F (pe:=a) (fs:=fs)) k;intro g;cases o with
  |And=>exact wpAny_allTrue_And_cons (wpAny_mono (h g) (λt Z q=>by cases t<;>exact q) λZ Z q=>q)
  |Or=>exact wpAny_allTrue_Or_cons (wpAny_mono (h g) (λt Z q=>by cases t<;>exact q) λZ Z q=>q)
set_option backward.match.sparseCases true in
theorem oP {M:Model}{A:Around}{env:PySem.Env}{o:BoolOp}{Q:Value→Shared→Prop}{E:Value→Shared→Prop}(h:wpAny M A (eval a env) (λv s'=>wpAny M A (truthy v) (λt s'=>if t=decide (o= .And) then wpAny M A (boolOp pos o (evalEach (b::l) env)) Q E s' else Q v s') E s') E s):
  wpAny M A (boolOp pos o (evalEach (a::b::l) env)) Q E s:=by
 cases o with
 |And=>
  show wpAny _ _ (do
   let v←eval a env
   standAt pos
   let t←holding [v] (truthy v)
   match BoolOp.And,t with
   | .And,false| .Or,true=>pure v
   |_,_=>boolOp pos .And (evalEach (b::l) env)) _ _ s
  exact wpAny_bind (wpAny_mono h (λv s' h=>wpAny_bind (wpAny_standAt (wpAny_bind (wpAny_holding (wpAny_mono h (λt Z q=>by cases t<;>first|exact wpAny_pure q|exact q) λZ Z q=>q))))) λZ Z q=>q)
 |Or=>
  show wpAny _ _ (do
   let v←eval a env
   standAt pos
   let t←holding [v] (truthy v)
   match BoolOp.Or,t with
   | .And,false| .Or,true=>pure v
   |_,_=>boolOp pos .Or (evalEach (b::l) env)) _ _ s
  exact wpAny_bind (wpAny_mono h (λv s' h=>wpAny_bind (wpAny_standAt (wpAny_bind (wpAny_holding (wpAny_mono h (λt Z q=>by cases t<;>first|exact wpAny_pure q|exact q) λZ Z q=>q))))) λZ Z q=>q)
theorem yx (O:aK L)(H:az C sx){o:BoolOp}: ∀{ρ σ fs γ s},FS C ρ σ γ s→bO C γ aA (ug L sx false (decide (o= .And)) l ρ σ fs) (boolOp pos o (evalEach l C.env)) s:=by
 induction l with
 |nil=>exact λF=>KT.tI bK
 |cons a r ih=>
  intro ρ σ fs γ s F;have st:bO C γ aA ((L.ev sx false a ρ σ fs).bind wh) (eval a C.env) s:=KT.aE (G:=λb Q E s'=>Q b s') (O.ev H F) λr ρ σ fs γ' b s' n F' hr=>by
   unfold wh;refine KT.cc hr λb hb hu=> ?_;subst hu;exact KT.tE (λZ q=> .mk n F' (.bool b)) λp Z q=> .mk n F' ((WJ (λz=>aA C γ' (bY p.1.1.2) (.bool z)) ((WJ dG.b q.1).trans p.1.2)).mpr (.bool _))
  cases r with
  |nil=>
   refine KT.aE (G:=λb Q E s'=>Q b s') st λr ρ σ fs γ' b s' n F' hr=>KT.cc hr λb hb hu=> ?_;subst hu;exact λZ=> .mk n F' (.bool b)
  |cons b r=>
   refine λg=>oP ((KT.aE (G:=λv Q E s'=>wpAny (aC C) C.A (truthy v) (λt s'=>if t=decide (o= .And) then wpAny (aC C) C.A (boolOp pos o (evalEach (b::r) C.env)) Q E s' else Q v s') E s') st λw ρ' σ' fs' γ' v s' n F' hr=>KT.cc hr λt hb hu=> ?_) g);subst hu;refine KT.tF (λq Z=>wpAny_truthy_bool ?_) λq g=>wpAny_truthy_bool ?_
   ·exact aa (WG (by cases t<;>cases o<;>first|(exact bK q;done)|decide)) (.mk n F' (.bool _))
   ·exact aa (WE (by cases t<;>cases o<;>first|(exact jN q;done)|decide)) (((ih F').nx n) g)
theorem BD (O:aK L)(H:az C sx){o:BoolOp}{m:Bool}(F:FS C ρ σ γ s):jY m C γ (kl m (ug L sx m (decide (o= .And)) l ρ σ fs)) (.BoolOp o l pos) s:=by
 cases m with
 |true=>exact λg=>wpAny_isTrue_BoolOp ((yw O H F).sf g)
 |false=>exact yx O H F
end
section
variable {β δ:Type}{ks:Ks}
theorem TO.nO {k:Ks}{x:TO α}:(x.pre k).pre ks=x.pre (ks++k):=by
 cases x with
 |ok _ _ _ _ q=>exact WJ (TO.ok _ _ _ _) (Wn ks k q).symm
 |ba _ _ _ q=>exact WJ (TO.ba _ _ _) (Wn ks k q).symm
 |bC=>rfl
theorem TO.x8 {x:TO α}{f:α→ao→St→List aD→TO β}:(x.pre ks).bind f=(x.bind f).pre ks:=by
 cases x with
 |ok a ρ σ fs q=>exact TO.nO.symm
 |ba _ _ _ q=>rfl
 |bC=>rfl
theorem TO.Iy {x:TO α}{f:α→ao→St→List aD→TO β}{g:β→ao→St→List aD→TO δ}:(x.bind f).bind g=x.bind λa ρ σ fs=>(f a ρ σ fs).bind g:=by
 cases x with
 |ok a ρ σ fs q=>exact TO.x8
 |ba _ _ _ q=>rfl
 |bC=>rfl
end
section
variable {e f:Expr}{x s:Str}{P:Prop}{c:Const}{i:Int}{l:List Expr}{k:List Keyword}
theorem lX:uq e=some c→ ∃k p,e= .Constant c k p:=by
 have h:=kY e;unfold uq;revert h;generalize vE e=v;intro h
 induction h with
 | @Ab c k p=>exact λh=>⟨k,p,WJ (λc=>Expr.Constant c k p) (cH h)⟩
 |_=>exact no
theorem cb (h:gi e=some x)(q: ∀p,e= .Name x p→P):P:=by
 have o:=kY e;unfold gi at h;revert h o;generalize vE e=v;intro h o
 induction o with
 | @uP s p=>exact q p (WJ (λc=>Expr.Name c p) (cH h))
 |_=>exact no h
theorem uJ (h:AO e=some l)(q: ∀p,e= .List l p→P):P:=by
 have o:=kY e;unfold AO at h;revert h o;generalize vE e=v;intro h o
 induction o with
 | @xA s p=>exact q p (WJ (λc=>Expr.List c p) (cH h))
 |_=>exact no h
theorem lV (h:qQ e=some (f,l,k)): ∃p,e= .Call f l k p:=by
 have o:=kY e;unfold qQ at h;revert h o;generalize vE e=v;intro h o
 induction o with
 | @IS f l k p=>
  obtain ⟨rfl,z⟩:=OU h;obtain ⟨rfl,rfl⟩:=lj z;exact ⟨p,rfl⟩
 |_=>exact no h
theorem eX (h:rh e=some i)(q: ∀k p,e= .Constant (.int i) k p→P):P:=by
 unfold rh at h;cases hc:uq e with
 |none=>rw [hc] at h;exact no h
 |some c=>
  rw [hc] at h;cases c with
  |int j=>exact (lX hc).elim λk z=>z.elim λp z=>q k p (z.trans (WJ (λj=>Expr.Constant (.int j) k p) (cH h)))
  |_=>exact no h
theorem gG (h:qe e=some x)(q: ∀k p,e= .Constant (.str x) k p→P):P:=by
 unfold qe at h;cases hc:uq e with
 |none=>rw [hc] at h;exact no h
 |some c=>
  rw [hc] at h;cases c with
  |str j=>exact (lX hc).elim λk z=>z.elim λp z=>q k p (z.trans (WJ (λj=>Expr.Constant (.str j) k p) (cH h)))
  |_=>exact no h
end
section
variable {sx:Sx}{β:Type}{C:Cx}{ρ:ao}{σ:St}{γ:GS}{s:Shared}{r:R}{u:Value}{v:V}{n:N}{l:List Expr}{a b e pe:Expr}{fs:List aD}{x:Str}{k:Nat}{m:Bool}{q:List V}{vs:List Value}
theorem B4 (O:aK L)(H:az C sx){o:PySem.UnaryOp}(F:FS C ρ σ γ s):jY m C γ (kl m (LK L sx m o a ρ σ fs)) (.UnaryOp o a pos) s:=by
 cases o with
 |Not=>
  cases m with
  |true=>exact bO.sf λg=>wpAny_isTrue_Not ((KT.aE (G:=λt Q E s'=>Q (!t) s') (O.et H F) λb ρ σ fs γ' t s' n F' hb=>by
    obtain rfl:b= .v (.bool t):=hb;exact λZ=> .mk n F' rfl) g)
  |false=>
   show bO C γ aA (((L.ev sx false a ρ σ fs).bind vy).bind Ki) _ s;refine aa TO.Iy ?_;exact λg=>wpAny_UnaryOp ((KT.aE (G:=λu Q E s'=>wpAny (aC C) C.A (unaryOp .Not u) Q E s') (O.ev H F) λr ρ σ fs γ' u s' n F' hr g=>not_value ((KT.aE (rel':=aA) (G:=λt (Q:Value→Shared→Prop) E s'=>Q (.bool (!t)) s') (tH H.K F' hr) λb ρ σ fs γ' t s' n2 F' hb=>by
    obtain rfl:b= .v (.bool t):=hb;exact λZ=> .mk (n.trans n2) F' (.bool _)) g)) g)
 |USub=>exact fG (KT.tO λi hi=>eX hi λk p e=>by subst e;exact WO.rF (wpAny_UnaryOp (wpAny_Constant_int (PyProof.Rows.neg_int (.mk .refl F.same (.int _ _))))))
 |_=>cases m<;>exact λg=>g.elim
theorem BS (O:aK L)(H:az C sx)(F:FS C ρ σ γ s):bO C γ aA (JK L sx c a b ρ σ fs) (eval (.IfExp c a b pos) C.env) s:=λg=>
 wpAny_IfExp ((KT.aE (G:=λt Q E s'=>if t then wpAny (aC C) C.A (eval a C.env) Q E s' else wpAny (aC C) C.A (eval b C.env) Q E s') (O.et H F) λr ρ1 σ1 fs1 γ1 t s1 n F1 hr=>by
  obtain rfl:r= .v (.bool t):=hr;cases t with
  |true=>exact (O.ev H F1).nx n
  |false=>exact (O.ev H F1).nx n) g)
theorem Gq (F:FS C ρ σ γ s)(r:aH C.D γ.fz γ.αs q vs)(h:q.length<16000000):WO C γ aA (.v (.au q)) ρ σ (newTuple vs) s:=
 newTuple_N F.fr F.nw (λh' F2 N2=> .mk .oY (F.A0 (s':={s with heap:=h'}) F2 N2) (aU.DC (.inl (.head _)) (aH.aw cg r))) (dj (r.len▸h))
theorem Gp (F:FS C ρ σ γ s)(r:aH C.D γ.fz γ.αs q vs)(h:q.length<16000000):WO C γ aA (.v (.list q)) ρ σ (newList vs) s:=
 newList_N F.fr F.nw (λh' F2 N2=> .mk .oY (F.A0 (s':={s with heap:=h'}) F2 N2) (aU.eP (.head _) (aH.aw cg r))) (dj (r.len▸h))
theorem p8 {w:R}{m:Sem Value}(h:q.length<16000000→WO C γ aA w ρ σ m s):bO C γ aA (FA q w ρ σ fs) m s:=
 KT.tO λz hz=>(aM hz).2▸(h (aM hz).1).rF
theorem B3 (O:aK L)(H:az C sx)(F:FS C ρ σ γ s):bO C γ aA (LH L sx l ρ σ fs) (eval (.Tuple l k pos) C.env) s:=λg=>
 Tuple_ ((KT.aE (G:=λvs Q E s'=>wpAny (aC C) C.A (newTuple vs) Q E s') (iQ O H F) λq ρ σ fs γ' vs s' n F' r=>(p8 (Gq F' r)).nx n) g)
theorem BV (O:aK L)(H:az C sx)(F:FS C ρ σ γ s):bO C γ aA (J4 L sx l ρ σ fs) (eval (.List l pos) C.env) s:=λg=>
 List_ ((KT.aE (G:=λvs Q E s'=>wpAny (aC C) C.A (newList vs) Q E s') (iQ O H F) λq ρ σ fs γ' vs s' n F' r=>(p8 (Gp F' r)).nx n) g)
theorem yV {D:Wd}{fz fz':aJ}{αs:List Addr}{q:List V}{aL:aJ}(y:dE fz αs fz' αs)(h:qy D fz αs q vs aL):(∀p∈aL,p∈fz')→aH D fz' αs q vs:=by
 induction h with
 |nil=>exact λZ=> .nil
 |cons e1 e2 _ ih=>exact λh=> .cons (.xD e1 (h _ (.head _)) (h _ (.tail _ (.head _))) (e2.aw y)) (ih λp hp=>h p (.tail _ (.tail _ hp)))
theorem u9 {rest pre post ld:aJ}{p:Addr×Obj}(e:γ.mu=pre++(p::(ld++post))):(aL γ rest).Perm (aL {γ with mu:=pre++(p::post),fz:=ld++γ.fz} rest):=by
 refine WH _ (WH _ ?_);show (γ.mu++(rest++γ.fz)).Perm ((pre++(p::post))++(rest++(ld++γ.fz)));refine aa e (aa (Wn ..) (aa (Wn ..) ?_));refine WH _ (List.Perm.cons _ ?_);show ((ld++post)++(rest++γ.fz)).Perm (post++(rest++(ld++γ.fz)));refine aa (Wn ..) ?_;rw [←Wn post,←Wn post,←Wn ld,←Wn (post++rest)];exact List.Perm.append_right _ List.perm_append_comm
inductive jX (C:Cx)(γ:GS)(ρ:ao)(σ:St)(s:Shared):Prop
 |mk {γ'} (n:Nx γ γ') (F:FS C ρ σ γ' s):jX C γ ρ σ s
theorem FS.OS {k:Nat}{q:List V}(F:FS C ρ σ γ s)(e:eu σ k=some q):jX C γ ρ (σ.set k (.gg q)) s:=by
 obtain ⟨g1,g2,g3,g4⟩:=F.mu.pM (kX e);refine g2.eV λvs n ld hl gt=> ?_;subst hl;have y:dE γ.fz γ.αs (ld++γ.fz) γ.αs:=cg;have pm:=u9 (rest:=C.rest) g3;refine .mk (γ':={γ with mu:=_,fz:=ld++γ.fz}) ⟨rfl,rfl,y⟩ ⟨F.fr,bw F.nw λp hp=>pm.mem_iff.mpr hp,F.ds.dA pm,F.ow.aw y,?_,F.ge,F.os,F.x0.trans y⟩;exact g4 _ y (.gg q) [_] (.gg (yV y gt λp hp=>WC _ hp))
end
theorem Ly {s y:Nat}(h:Pa s=some y):Txt.slice (nm s) (some 1) none=nm y∧(nm s).length≤100:=by
 unfold Pa at h;by_cases h0:s=0∨2^800≤s
 ·rw [WE h0] at h;exact no h
 ·rw [WG h0] at h;obtain rfl:=cH h;obtain ⟨h0,h1⟩:=not_or.mp h0;refine ⟨?_,F8 (Nat.lt_of_not_le h1)⟩;have hc:=jO h0;have hl:(nm s).length=(nm (s / 256)).cps.toList.length+1:=by
   show (nm s).cps.size=_;rw [←Array.length_toList,hc];rfl
  rw [slice_from_eq (b:=((nm s).length:Int)) (by decide) (by rw [hl];exact Int.ofNat_le.mpr (Nat.le_add_left 1 _)) rfl,hc,hl];show (⟨((nm (s / 256)).cps.toList.take _).toArray⟩:Str)=⟨(nm (s / 256)).cps⟩;rw [List.take_of_length_le (by simp+arith)]
theorem aY {b:Bool}(h:(!b)=true):b=false:=by
 cases b with
 |true=>exact bK h
 |false=>rfl
theorem C9 {s:N}{i:Nat}(h:Ht s=some i):(nm s).cps.toList=[i]:=by
 unfold Ht at h;refine ey (x:=some s) h λh0 h=> ?_;obtain rfl:=cH h;exact aa (jO (Nat.ne_of_gt h0.1)) (aa (Nat.mod_eq_of_lt h0.2) (aa (Nat.div_eq_of_lt h0.2) rfl))
theorem j8 {v:V}{i:Nat}{P:Prop}(h:Hu v=some i)(k: ∀n,v= .str n→Ht n=some i→P):P:=aR h λn e1 e2=>k n (j0 e1) e2
theorem FI {i j:Nat}:(decide (([j]:List Nat)<[i]))=decide (j<i):=by
 by_cases h:j<i
 ·simp [h,List.cons_lt_cons_iff]
 ·simp [h,List.cons_lt_cons_iff]
theorem Dz {prog:Program}{w:World}{A:Around}{E:Value→Shared→Prop}{s:Shared}{x y:N}{i j:Nat}{t u:Tok}{Q:Value→Shared→Prop}(hx:Ht x=some i)(hy:Ht y=some j)(h:Q (.bool (decide (i≤j))) s):
  wpAny (model prog w) A (compareOp .LtE (.str (nm x) t) (.str (nm y) u)) Q E s:=by
 refine PySem.P.le_str ?_;refine aa (C9 hx) (aa (C9 hy) (aa FI ?_));exact aa (show (!decide (j<i))=decide (i≤j) by rw [←decide_not];exact decide_eq_decide.mpr Nat.not_lt) h
section
variable {sx:Sx}{β:Type}{C:Cx}{ρ:ao}{σ:St}{γ γ':GS}{s:Shared}{r:R}{u:Value}{v:V}{n:N}{l:List Expr}{a b e pe:Expr}{fs:List aD}{x y:Str}{k:Nat}{m:Bool}{q ql:List V}{vs:List Value}
theorem aA.nx (n:Nx γ γ')(h:aA C γ r u):aA C γ' r u:=by
 cases r with
 |v a=>exact aU.aw n.ext h
 |lr x=>
  refine ⟨h.1,?_⟩;exact aa n.m (aa n.aG h.2)
theorem KT.un {α β:Type}{rel:Cx→GS→α→β→Prop}{o:TO α}{P P':(β→Shared→Prop)→(Value→Shared→Prop)→Prop}(i: ∀Q E,P Q E→P' Q E)(h:KT C γ rel o P):KT C γ rel o P':=λg=>i _ _ (h g)
theorem KT.ok {α β:Type}{rel:Cx→GS→α→β→Prop}{a:α}{ks:Ks}{P:(β→Shared→Prop)→(Value→Shared→Prop)→Prop}(h:P (fV C γ rel a ρ σ) λZ Z=>False):KT C γ rel (.ok a ρ σ fs ks) P:=λZ=>h
theorem FS.KY (F:FS C ρ σ γ s):jX C γ ρ (yg r σ) s:=by
 unfold yg;cases xN r with
 |none=>exact .mk .refl F
 |some k=>
  refine ax (x:=eu σ k) (λh=> ?_) λq h=> ?_
  ·show jX C γ ρ (match eu σ k with
    |some l=>σ.set k (.gg l)
    |none=>σ) s
   exact aa h (.mk .refl F)
  ·show jX C γ ρ (match eu σ k with
    |some l=>σ.set k (.gg l)
    |none=>σ) s
   exact aa h (F.OS h)
theorem yv (O:aK L)(H:az C sx){o:Operator}(F:FS C ρ σ γ s):bO C γ aA (IH L sx o a b ρ σ fs) (eval (.BinOp a o b pos) C.env) s:=λg=>
 wpAny_BinOp ((KT.aE (G:=λu Q E s'=>wpAny (aC C) C.A (eval b C.env) (λv s'=>wpAny (aC C) C.A (binaryOp o u v) Q E s') E s') (O.ev H F) λx ρ1 σ1 fs1 γ1 u s1 n1 F1 r1=>by
  obtain ⟨n2,F2⟩:=F1.KY (r:=x);exact KT.aE (G:=λv Q E s'=>wpAny (aC C) C.A (binaryOp o u v) Q E s') (O.ev H F2) λy ρ3 σ3 fs3 γ3 v s3 n3 F3 r3=>(BC F3 (r1.nx (n2.trans n3)) r3).nx (n1.trans (n2.trans n3))) g)
theorem Au {o:CmpOp}{x y:R}{q:V×V}{t:Bool}(hq:fh o x y ρ σ=some q)(h:z9 o q.1 q.2=some t):wx o x y ρ σ=some t:=by
 unfold fh at hq;unfold z9 at h;by_cases h1:o= .In
 ·subst h1;rw [WE rfl] at hq h;show HA x y ρ σ=some t;unfold HA;revert hq;refine ax (x:=mX y σ) (λhd=> ?_) λd hd=> ?_
  ·refine aa hd ?_;exact λe=>aR e λv hv e=>cG e λl hl e=>by
    subst e;refine aa hv ?_;dsimp only;exact aa hl h
  ·exact aa hd no
 ·rw [WG h1] at hq h;refine aR hq λv hv e=>cG e λw hw e=> ?_;subst e;have e:Hw x y ρ σ=vB v w:=by
   unfold Hw;rw [hv];dsimp only;rw [hw]
  by_cases h2:o= .Eq
  ·subst h2;exact e.trans h
  ·rw [WG h2] at h;by_cases h3:o= .NotEq
   ·subst h3;rw [WE rfl] at h;exact (WJ (Option.map not) e).trans h
   ·rw [WG h3] at h;exact no h
theorem yz (O:aK L)(H:az C sx){o:CmpOp}(F:FS C ρ σ γ s):jY m C γ (kl m (z4 L sx o a b ρ σ fs)) (.Compare a [o] [b] pos) s:=by
 have iu: ∀{β:Type} {rel:Cx→GS→R→β→Prop} {G:Value→(β→Shared→Prop)→(Value→Shared→Prop)→Shared→Prop},(∀t γ' ρ σ fs s',Nx γ γ'→FS C ρ σ γ' s'→ ∀E,G (.bool t) (fV C γ rel (bY t) ρ σ) E s')→
   KT C γ rel (z4 L sx o a b ρ σ fs) λQ E=>behindInMarks o b=false∧wpAny (aC C) C.A (eval a C.env) (λu s'=>wpAny (aC C) C.A (eval b C.env) (λv s'=>wpAny (aC C) C.A (compareOp o u v) (λw s'=>G w Q E s') E s') E s') E s:=λ{β rel G} hG=>
  KT.tI λhm=>KT.un (λZ Z h=>⟨aY hm,h⟩) (KT.aE (G:=λu Q E s'=>wpAny (aC C) C.A (eval b C.env) (λv s'=>wpAny (aC C) C.A (compareOp o u v) (λw s'=>G w Q E s') E s') E s') (O.ev H F) λx ρ1 σ1 fs1 γ1 u s1 n1 F1 r1=>
   KT.aE (G:=λv Q E s'=>wpAny (aC C) C.A (compareOp o u v) (λw s'=>G w Q E s') E s') (O.ev H F1) λy ρ2 σ2 fs2 γ2 v s2 n2 F2 r2=>KT.tE (λZ=>KT.tO λt ht=>KT.ok (xP H.K F2 (r1.nx n2) r2 ht λs3 F3=>hG t γ2 ρ2 σ2 fs2 s3 (n1.trans n2) F3 _)) λp Z=>KT.tO λq hq g=>by
    obtain ⟨⟨⟨o',x',y',t⟩,h1⟩,fs'⟩:=p;have e:dG.qB o q.1 q.2=dG.qB o' x' y':=g.1;injection e with e1 e2 e3
    subst e1 e2 e3;exact xP H.K F2 (r1.nx n2) r2 (Au hq h1) λs3 F3=>hG t γ2 ρ2 σ2 fs' s3 (n1.trans n2) F3 _)
 cases m with
 |true=>exact bO.sf λg=>
   have h:=iu (rel:=gM) (G:=λw Q E s'=>wpAny (aC C) C.A (truthy w) Q E s') (λt γ' ρ σ fs s' n F E=>wpAny_truthy_bool (.mk n F rfl)) g
   wpAny_isTrue_Compare1 h.2 h.1
 |false=>exact λg=>
   have h:=iu (rel:=aA) (G:=λw Q E s'=>Q w s') (λt γ' ρ σ fs s' n F E=> .mk n F (.bool t)) g
   wpAny_Compare1 h.2 h.1
theorem Gj {z:N}{k':Nat}{t:Bool}{tk:Tok}(F:FS C ρ σ γ s)(hr:aU C.D γ.fz γ.αs v u)(ht:rS (.str n) v (.str z)=some t):
  wpAny (aC C) C.A (compareOp .LtE (.str (nm n) tk) u) (λw s'=>wpAny (aC C) C.A (truthy w) (λt' s'=>if t' then wpAny (aC C) C.A (testChain pos u [.LtE] [eval (.Constant (.str (nm z)) k' p2) C.env]) (fV C γ gM (bY t) ρ σ) (λZ Z=>False) s' else fV C γ gM (bY t) ρ σ false s') (λZ Z=>False) s') (λZ Z=>False) s:=by
 unfold rS at ht;revert ht;refine ax (x:=Hu (.str n)) (λh=> ?_) λi hi=> ?_
 ·exact aa h no
 refine aa hi ?_;refine ax (x:=Hu v) (λh=> ?_) λj hj=> ?_
 ·exact aa h no
 refine aa hj ?_;refine λe=>cG e λk hk e=>j8 hi λn' e1 h1=>j8 hj λy e2 h2=>j8 hk λz' e3 h3=> ?_;injection e1 with eA;subst eA
 injection e3 with eA;subst eA
 subst e2;refine hr.eV λt' hu=> ?_;subst hu;refine Dz h1 h2 (wpAny_truthy_bool ?_);by_cases hij:i≤j
 ·rw [WA hij,Bool.true_and] at e;exact aa (WA hij) (aa (WE rfl) (test_last (wpAny_Constant_str (Dz h2 h3 (wpAny_truthy_bool (.mk .refl F.same (WJ bY e.symm)))))))
 ·rw [Wz hij,Bool.false_and] at e;exact aa (Wz hij) (aa (WG Bool.false_ne_true) (.mk .refl F (WJ bY e.symm)))
theorem yy (O:aK L)(H:az C sx){z:N}{k':Nat}{whole:Sem Value}(F:FS C ρ σ γ s)(hm:lastMarks [.LtE,.LtE] [b,.Constant (.str (nm z)) k' p2]=false):bO C γ gM ((jF L sx b ρ σ fs).bind λy ρ σ fs=>tO (rS (.str n) y (.str z)) λt=> .ok (bY t) ρ σ fs []) (isTrue (.Compare (.Constant (.str (nm n)) k p3) [.LtE,.LtE] [b,.Constant (.str (nm z)) k' p2] pos) C.env whole) s:=
 KT.un (λQ E h=>isTrue_chain (wpAny_Constant_str (test_link h)) hm) (KT.aE (G:=λv Q E s'=>wpAny (aC C) C.A (compareOp .LtE (.str (nm n) s.toks) v) (λw s'=>wpAny (aC C) C.A (truthy w) (λt s'=>if t then wpAny (aC C) C.A (testChain pos v [.LtE] [eval (.Constant (.str (nm z)) k' p2) C.env]) Q E s' else Q false s') E s') E s') (bG O H (s:={s with toks:=s.toks+1}) F.same) λv ρ1 σ1 fs1 γ1 u s1 n1 F1 r1=>
  KT.tO λt ht=>KT.ok (wpAny_mono (Gj F1 r1 ht) (λw s' h=>wpAny_mono h (λt' s' h=>by
   cases t' with
   |true=>exact wpAny_mono h (λZ Z q=>q.nx n1) λZ Z q=>q
   |false=>exact h.nx n1) λZ Z q=>q) λZ Z q=>q))
theorem BE (O:aK L)(H:az C sx){whole:Sem Value}(F:FS C ρ σ γ s):bO C γ gM (EF L sx a b c ρ σ fs) (isTrue (.Compare a [.LtE,.LtE] [b,c] pos) C.env whole) s:=
 KT.tO λx hx=>KT.tO λz hz=>KT.tI λhk=>ay hk λk1 k2=>gG hx λka pa ea=>gG hz λkc pc ec=>by
  subst ea ec;have h:=yy (n:=dk x) (z:=dk z) (k:=ka) (k':=kc) (p3:=pa) (p2:=pc) (pos:=pos) (b:=b) (fs:=fs) (whole:=whole) O H F rfl;rw [←bH k1,←bH k2] at h;exact h
end
theorem jd {e a:Expr}{x:Str}{P:Prop}(h:A9 e=some (x,a))(q: ∀p p',e= .Call (.Name x p) [a] [] p'→dw a=false→P):P:=by
 unfold A9 at h;cases h1:qQ e with
 |none=>rw [h1] at h;exact no h
 |some p=>
  obtain ⟨f,l,k⟩:=p;rw [h1] at h;dsimp only at h;cases h2:gi f with
  |none=>rw [h2] at h;exact no h
  |some s=>
   rw [h2] at h;cases l with
   |nil=>exact no h
   |cons b r=>
    obtain ⟨g,e1⟩:=aM (a:=(s,b)) h;obtain ⟨rfl,rfl⟩:=lj e1;refine ay g λg h5=>ay g λh3 h4=>cb h2 λp0 e2=>(lV h1).elim λp e=> ?_;have h3:r=[]:=Ww h3;have h4:k=[]:=Ww h4;subst h3 h4 e2;exact q p0 p e (aY h5)
section
variable {sx:Sx}{β:Type}{C:Cx}{ρ:ao}{σ:St}{γ γ':GS}{s:Shared}{r:R}{u:Value}{v:V}{n:N}{l:List Expr}{a b e pe:Expr}{fs:List aD}{x y:Str}{k:Nat}{m:Bool}{q ql:List V}{vs:List Value}{o:TO R}
theorem tD (H:az C sx)(F:FS C ρ σ γ s)(h:bO C γ aA o (eval e C.env) s):bO C γ aA (Am sx e ρ σ fs o) (eval e C.env) s:=
 KT.tE (λZ=>h) λp Z g=>by
  obtain ⟨⟨f,e',ρ',σ',r,ρ2,σ2,h⟩,fs'⟩:=p;have g:dG.se e ρ σ sx=dG.se e' ρ' σ' (bj f ρ' σ'):=g.1;cases g;exact h C γ s H F
theorem FS.push (F:FS C ρ σ γ s)(o:Obj):FS C ρ σ γ {s with heap:=s.heap.push o}:=
 F.keep (F.fr.push o) (News.grown F.nw λZ Z e=>Heap.get?_push_of_some _ e)
theorem xQ {hi:Option Int}{x1 x2:Option Expr}(F:FS C ρ σ γ s)(hr:aA C γ r u)(hl:cw r ρ σ=some q)(hlen:q.length<16000000)(pu:IsPart vu hi)
  (hp: ∀vs,aH C.D γ.fz γ.αs q vs→ ∃ws,slicePick (List.toArray vs) none hi none=List.toArray ws∧aH C.D γ.fz γ.αs ql ws):
  WO C γ aA (.v (.list ql)) ρ σ (subscriptTail a (.Slice x1 x2 none pos) u (.ref s.heap.objs.size)) {s with heap:=s.heap.push {cls:= .type "slice",data:= .fields #[.none,vu,.none]}}:=by
 obtain ⟨hu,hg,hR⟩:=F.cw hr hl;subst hu;have hL:=(bF hg).push (o:={cls:= .type "slice",data:= .fields #[.none,vu,.none]});refine tail_any (ops:=[.ref s.heap.objs.size,.ref _]) (Heap.IsList.typeIs (s:={s with heap:=s.heap.push {cls:= .type "slice",data:= .fields #[.none,vu,.none]}}) hL) list_getitem_lookup
  (wpAny_getItem_list_slice hL (Heap.IsSliceOf.new ..) .none pu .none (ig) ?_ (mQ hR.len hlen)) rfl
 obtain ⟨ws,h1,h2⟩:=hp _ hR;refine aa h1 ?_;have F1:=F.push {cls:= .type "slice",data:= .fields #[.none,vu,.none]};exact .mk .oY (F1.A0 (s':={s with heap:=(s.heap.push {cls:= .type "slice",data:= .fields #[.none,vu,.none]}).push (bh ws 0)}) (F1.fr.push _) (News.push F1.fr F1.nw _)) (aU.eP (.head _) (aH.aw cg h2))
theorem Km {k:Nat}{x1:Str}{v:V}(F:FS C ρ σ γ s)(hr:aA C γ r u)(h:QH r=some v):
  WO C γ aA (.v v) ρ σ (subscriptTail (.Name x1 p2) (.Slice (some (.Constant (.int 1) k p3)) none none pos) u (.ref s.heap.objs.size)) {s with heap:=s.heap.push {cls:= .type "slice",data:= .fields #[.int 1 n,.none,.none]}}:=
 aR h λw e1 e2=>aR e2 λy e3 e4=>cG e4 λt ht e=>by
  rw [cS e1,j0 e3] at hr;refine aU.eV hr λtk hu=> ?_;subst hu e;obtain ⟨h1,h2⟩:=Ly ht;exact slice_strN_sn F.fr F.nw (λh' t' k' F3 N3=>h1▸ .mk .refl (F.keep (s':={s with heap:=h',toks:=k'}) F3 N3) (.str _ _)) (hsz:=dj (WD h2 (by decide)))
theorem Cj (vs:List Value)(h:aH C.D γ.fz γ.αs q vs)(i:Nat): ∃ws,slicePick (List.toArray vs) none (some (i:Int)) none=List.toArray ws∧aH C.D γ.fz γ.αs (q.take i) ws:=⟨vs.take i,slicePick_upto' ..,h.take i⟩
theorem H5.none {α:Type}{x:Option α}(h:x.isNone=true):x=none:=by
 cases x with
 |none=>rfl
 |some _=>exact bK h
theorem BM (O:aK L)(H:az C sx){lo hi:Option Expr}(F:FS C ρ σ γ s):bO C γ aA ((L.ev sx false a ρ σ fs).bind (EM lo hi (rj a))) (eval (.Subscript a (.Slice lo hi none p2) pos) C.env) s:=by
  refine KT.un (λQ E h=>Subscript_ h) (KT.aE (G:=λu Q E s'=>wpAny (aC C) C.A (eval (.Slice lo hi none p2) C.env) (λi s'=>wpAny (aC C) C.A (subscriptTail a (.Slice lo hi none p2) u i) Q E s') E s') (O.ev H F) λr ρ1 σ1 fs1 γ1 u s1 n1 F1 r1=> ?_);refine KT.tE (λZ=>KT.tI λh=>ay h λh h3=>ay h λh1 h2=>KT.tO λv hv=>KT.ok ?_) λl hl=>KT.tI λh=>KT.lt λhlt fs'=>KT.tO λq hq=>KT.ok ?_
  ·refine aa (H5.none h3) ?_;refine aR (Wy h2) λel e1 e2=>eX e2 λk p e=> ?_;subst e;refine aa e1 ?_;cases a with
   |Name y p1=>exact wpAny_Slice (wpAny_Constant_int (k:=k) (pos:=p) (wpAny_pure (wpAny_pure (wpAny_mono (Km (s:={s1 with toks:=s1.toks+1}) F1.same r1 hv) (λZ Z q=>q.nx n1) λZ Z q=>q))))
   |_=>exact bK h1
  ·refine aa (H5.none h) ?_;cases hi with
   |none=>
    obtain rfl:=cH hq;exact wpAny_Slice (wpAny_pure (wpAny_pure (wpAny_pure (wpAny_mono (xQ F1 r1 hl hlt .none λvs r=>⟨vs,slicePick_all _,r⟩) (λZ Z q=>q.nx n1) λZ Z q=>q))))
   |some e=>
    refine aR hq λi hi hq=>eX hi λk p e=> ?_;obtain ⟨h0,rfl⟩:=aM hq;subst e;obtain ⟨j,rfl⟩:=Int.eq_ofNat_of_zero_le h0;exact wpAny_Slice (wpAny_pure (wpAny_Constant_int (k:=k) (pos:=p) (wpAny_pure (wpAny_mono (xQ (s:={s1 with toks:=s1.toks+1}) F1.same r1 hl hlt (.int _ _) λvs r=>Cj vs r j) (λZ Z q=>q.nx n1) λZ Z q=>q))))
theorem BQ (O:aK L)(H:az C sx)(F:FS C ρ σ γ s)(hs:dJ b=true):bO C γ aA ((L.ev sx false a ρ σ fs).bind λr ρ σ fs=>(jF L sx b ρ σ fs).bind λj ρ σ fs=>q5 r j ρ σ fs) (eval (.Subscript a b pos) C.env) s:=
 KT.un (λQ E h=>Subscript_ h) (KT.aE (G:=λu Q E s'=>wpAny (aC C) C.A (eval b C.env) (λi s'=>wpAny (aC C) C.A (subscriptTail a b u i) Q E s') E s') (O.ev H F) λr ρ1 σ1 fs1 γ1 u s1 n1 F1 r1=>
  KT.aE (G:=λi Q E s'=>wpAny (aC C) C.A (subscriptTail a b u i) Q E s') (bG O H F1) λj ρ2 σ2 fs2 γ2 i s2 n2 F2 r2=>(vk H.K F2 (r1.nx n2) r2 hs).nx (n1.trans n2))
theorem BZ (O:aK L)(H:az C sx)(F:FS C ρ σ γ s):bO C γ aA (Lg L sx a b pos ρ σ fs) (eval (.Subscript a b pos) C.env) s:=by
 cases b with
 |Slice lo hi st p=>
  cases st with
  |none=>
   show bO C γ aA (tI true (Am sx (.Subscript a (.Slice lo hi none p) pos) ρ σ fs ((L.ev sx false a ρ σ fs).bind (EM lo hi (rj a))))) _ s;exact KT.tI λZ=>tD H F (BM O H F)
  |some _=>exact False.elim
 |_=>exact BQ O H F rfl
theorem gw (K:aW C){w:Value}{E:Value→Shared→Prop}{Q:Value→Shared→Prop}(F:FS C ρ σ γ s)(e:nsIn C.D.K mainGlobals x=some none)(hv:bootBuiltins x=some w)(hn:x≠ "__name__") (hx:C.env.kindOf x=some .globalImplicit) (hd:(x==("__debug__" :Str))=false) (h:Q w s):
  wpAny (aC C) C.A (eval (.Name x pos) C.env) Q E s:=
 Name_function_global K.hk hx (loadGlobal_builtin (env:=C.env) (by exact aa K.uy (K.qj.g.keeps F.fr.keep)) (mg_none_of K.fh K.qj.g e) (by exact aa K.Fe (K.qj.b.keeps F.fr.keep)) ((K.qj.builtins x hn).trans hv) h) hd
theorem BU (O:aK L)(H:az C sx)(F:FS C ρ σ γ s)(hk:C.env.kindOf (Str.ofString "len")=some .globalImplicit) (hs:dw a=false):bO C γ aA (JZ L sx a ρ σ fs) (eval (.Call (.Name (Str.ofString "len") p2) [a] [] pos) C.env) s:=by
 have h1:=bp (r:=[]) (env:=C.env) (e:=a) (WJ not hs);refine KT.un (λQ E h=>Call_Name rfl (gw H.K F H.H.GO.len PyProof.Rows.Boot.«len» (by decide) hk (by decide) (PyProof.Rows.callWith_builtin1 (wpAny_items_cons h h1) h1 (cJ (l:=[]) rfl))))
  (KT.aE (G:=λu Q E s'=>wpAny (aC C) C.A (spliced (backTo pos (starEach [] C.env))) (λvs s'=>wpAny (aC C) C.A (call (.builtin "len") (u::vs)) Q E s') E s') (O.ev H F) λr ρ1 σ1 fs1 γ1 u s1 n1 F1 r1=>KT.un (λQ E h=>wpAny_items_nil h) (KT.tO λn hn=>KT.lt λhlt fs'=>KT.ok (wpAny_mono (Gm H.K F1 r1 hn hlt) (λZ Z q=>q.nx n1) λZ Z q=>q)))
end
section
variable {sx:Sx}{β α' β':Type}{C:Cx}{ρ:ao}{σ:St}{γ γ':GS}{s:Shared}{r:R}{u:Value}{v:V}{n:N}{l:List Expr}{e:Expr}{fs:List aD}{x y:Str}{k:Nat}{m:MO}{rest tmp:aJ}{a:Addr}{o o':Obj}{p:Addr×Obj}{rel:Cx→GS→α→β→Prop}
theorem aW.aS (K:aW C):aW (C.aS rest):=⟨K.IG,K.hA,K.hk,K.uy,K.Fe,K.AN,K.fh,K.qj,K.units,K.vw,K.LU⟩
theorem cV.aS {fe:PySem.Env}(h:cV C fe):cV (C.aS rest) fe:=⟨h.fr,h.fl,h.ff,h.fk,h.ab,h.eq⟩
theorem az.aS (H:az C sx)(h: ∀p∈C.rest,p∈rest):az (C.aS rest) sx:=⟨H.K.aS,by obtain ⟨fe,q⟩:=H.fe;exact ⟨fe,q.aS⟩,H.H,H.Ag,H.un,H.g,H.ks,H.X,H.lp,H.hk.aw h,H.cm,H.aG,H.bg⟩
theorem RK.sub {x t:Addr}{vs:List Value}{l l':aJ}{h:Heap}(q: ∀p∈l',p∈l)(r:RK C x t vs l h):RK C x t vs l' h:=by
 cases r with
 |zp r=>obtain ⟨⟨B,a,b,c⟩,d⟩:=r;exact .zp ⟨⟨B,a,λp hp=>b p (q p hp),c⟩,d⟩
 |lH a b c d e=>exact .lH a (λp hp=>b p (q p hp)) c d e
theorem RK.aS {x t:Addr}{vs:List Value}{l:aJ}{h:Heap}(r:RK (C.aS rest) x t vs l h):RK C x t vs l h:=by
 cases r with
 |zp r=>exact .zp r
 |lH a b c d e=>exact .lH a b c d e
theorem b7.aS {w:Value}(R:b7 (C.aS (p::C.rest)) ρ σ w s):b7 C ρ σ w s:=by
 induction R with
 |comp h=>exact .comp h
 |«at» r=>exact .at ⟨r.fr,r.up,(r.ra.sub λq hq=>eY.mem hq).aS,r.ds.sub eY,r.ow,r.mu,r.ge,r.os,r.x0,r.f2⟩
theorem KT.La {γ1:GS}{x:TO α}{rel:Cx→GS→α→β→Prop}{rel':Cx→GS→α'→β'→Prop}{f:α→ao→St→List aD→TO α'}{m:Sem β}{G:β→(β'→Shared→Prop)→(Value→Shared→Prop)→Shared→Prop}(h:bO (C.aS (p::C.rest)) γ1 rel x m s)
  (k: ∀a ρ σ fs γ' b s',Nx γ1 γ'→FS (C.aS (p::C.rest)) ρ σ γ' s'→rel (C.aS (p::C.rest)) γ' a b→KT C γ rel' (f a ρ σ fs) λQ E=>G b Q E s'):KT C γ rel' (x.bind f) λQ E=>wpAny (aC C) C.A m (λb s'=>G b Q E s') E s:=by
 cases x with
 |bC=>exact False.elim
 |ba ρ σ fs ks=>exact λq=>wpAny_mono (h q) (λZ Z z=>z.elim) λZ Z z=>b7.aS z
 |ok a ρ σ fs ks=>
  have k:=k a ρ σ fs;show KT C γ rel' ((f a ρ σ fs).pre ks) _;revert k;generalize f a ρ σ fs=o;intro k;cases o with
  |bC=>exact False.elim
  |ok b ρ2 σ2 fs2 ks2=>exact λq=>wpAny_mono (h (bN.eU q).1) (λZ Z z=>by cases z with|mk n F r=>exact k _ _ _ n F r (bN.eU q).2) λZ Z z=>z.elim
  |ba ρ2 σ2 fs2 ks2=>exact λq=>wpAny_mono (h (bN.eU q).1) (λZ Z z=>by cases z with|mk n F r=>exact k _ _ _ n F r (bN.eU q).2) λZ Z z=>z.elim
theorem bq:(aL γ (p::rest)).Perm (p::aL γ rest):=(push (push (push (.refl _)))).symm
theorem FS.change {h':Heap}{tk:Nat}(F:FS (C.aS ((a,o)::rest)) ρ σ γ s)(hs:Heap.SameBut a s.heap h')(ho:h'.get? a=some o'):FS (C.aS ((a,o')::rest)) ρ σ γ {s with heap:=h',toks:=tk}:=by
 have m:=F.nw _ (bq.mem_iff.mpr (.head _));have ds:=aN.dA bq F.ds;refine ⟨⟨F.fr.ns.sameBut hs (Ne.symm m.2.1),λb ob e=>(hs.2 b λq=> ?_).trans (F.fr.keep b ob e),F.fr.above⟩,λp hp=> ?_,aN.dA bq.symm (aN.cons (aN.sub (List.sublist_cons_self _ _) ds) ds.sW),F.ow,F.mu,F.ge,F.os,F.x0⟩
 ·rw [q,m.2.2] at e;exact no e
 ·cases Wv (bq.mem_iff.mp hp) with
  |inl eM=>subst eM;exact ⟨ho,m.2.1,m.2.2⟩
  |inr hp=>
   have q:=F.nw _ (bq.mem_iff.mpr (.tail _ hp));exact ⟨(hs.2 _ (ds.sW p hp)).trans q.1,q.2⟩
theorem FS.qb (F:FS (C.aS (tmp++C.rest)) ρ σ γ s)(hR:gN C.D γ.fz γ.αs m a tmp){b:α}{w:β}(h: ∀γ':GS,aU C.D γ'.fz γ'.αs (.obj σ.length) (.ref a)→rel C γ' b w):fV C γ rel b ρ (σ++[m]) w s:=by
 have y:dE γ.fz γ.αs γ.fz (γ.αs++[a]):=⟨λZ h=>h,λk b h=>(List.getElem?_append_left (List.getElem?_eq_some_iff.mp h).1).trans h⟩;have e:aL {γ with αs:=γ.αs++[a],mu:=γ.mu++tmp} C.rest=aL γ (tmp++C.rest):=by
  show γ.aG++(γ.own++((γ.mu++tmp)++(C.rest++γ.fz)))=γ.aG++(γ.own++(γ.mu++((tmp++C.rest)++γ.fz)));rw [Wn γ.mu,Wn tmp]
 refine .mk (γ':={γ with αs:=γ.αs++[a],mu:=γ.mu++tmp}) ⟨rfl,rfl,y⟩ ⟨F.fr,e▸F.nw,e▸F.ds,F.ow.aw y,(F.mu.aw y).qb (hR.aw y),F.ge,F.os,F.x0.trans y⟩ (h _ (.obj ?_));refine fF F.mu.length ?_;exact List.getElem?_concat_length
theorem tc (F:FS C ρ σ γ s)(hm: ∀a,gN C.D γ.fz γ.αs m a [(a,bh [] 0)])(h:xk e=true):bO C γ ly (FX m ρ σ fs) (eval e C.env) s:=by
 cases e with
 |List l p=>
  obtain rfl:=Ww h;exact KT.ok (List_ (wpAny_items_nil (newList_N F.fr F.nw (λh' F' N'=>FS.qb (tmp:=[(s.heap.objs.size,bh [] 0)]) (F.alloc (s':={s with heap:=h'}) F' N' F.fresh) (hm _) λZ q=>q) (dj (by decide)))))
 |_=>exact bK h
noncomputable def JO:Value→Option Str
 | .str x _=>some x
 |_=>none
noncomputable def PE (D:Wd)(fz:aJ)(αs:List Addr)(p:V×V)(q:Value×Value):Prop:=(∃n t,p.1= .str n∧q.1= .str (nm n) t)∧aU D fz αs p.2 q.2
structure MY (ks:List (Option Expr))(C:Cx)(γ:GS)(l:List (V×V))(ps:List (Value×Value)):Prop where
 r:bZ (PE C.D γ.fz γ.αs) l ps
 k:ps.map (λq=>JO q.1)=ks.map λk=>k.bind qe
theorem GZ (O:aK L)(H:az C sx)(F:FS C ρ σ γ s):bO C γ ly (PW L sx n e ρ σ fs) (eval e C.env) s:=
 KT.tF (λh=>tc F (λa=>by
  by_cases q:n=1936420724
  ·exact aa (WE q) (.iT .nil)
  ·exact aa (WG q) (.gg .nil)) (Ws h).1) λZ=>bG O H F
theorem yB (O:aK L)(H:az C sx){ks:List (Option Expr)}: ∀{es ρ σ fs γ s},FS C ρ σ γ s→bO C γ (MY ks) (EP L sx ks es ρ σ fs) (evalPairs (pairTrees ks es C.env pos)) s:=by
 induction ks with
 |nil=>
  refine λ{es} _ _ _ _ _ F=>KT.tI λh=> ?_;obtain rfl:=Ww h;exact KT.ok (pairTrees_nil_walk (.mk .refl F ⟨.nil,rfl⟩))
 |cons k ks ih=>
  refine λ{es} ρ σ fs γ s F=> ?_;cases es with
  |nil=>exact False.elim
  |cons e es=>
   refine KT.tO λx hx=>KT.tI λhs=>aR hx λke e1 e2=>gG e2 λkk p e3=> ?_;subst e1 e3;refine KT.un (λQ E h=>pairTrees_cons_walk (wpAny_Constant_str h)) (KT.aE (G:=λv Q E s'=>wpAny (aC C) C.A (evalPairs (pairTrees ks es C.env pos)) (λr s'=>Q ((.str x s.toks,v)::r) s') E s') (GZ O H (s:={s with toks:=s.toks+1}) F.same) λv ρ1 σ1 fs1 γ1 u s1 n1 F1 r1=>
    KT.aE (G:=λr Q E s'=>Q ((.str x s.toks,u)::r) s') (ih F1) λl ρ2 σ2 fs2 γ2 ps s2 n2 F2 r2=>KT.ok ?_)
   exact .mk (n1.trans n2) F2 ⟨.cons ⟨⟨dk x,_,rfl,WJ (λy=>Value.str y s.toks) (bH hs)⟩,aU.aw n2.ext r1⟩ r2.r,WJ (some x::·) r2.k⟩
theorem Bj {D:Wd}{fz:aJ}{αs:List Addr}{l:List (V×V)}{ps:List (Value×Value)}(h:bZ (PE D fz αs) l ps):allStrKeys ps=true∧(strPairs ps).map (λq=>some q.1)=ps.map (λq=>JO q.1)∧bZ (KR LY D fz αs) l (strPairs ps):=by
 induction h with
 |nil=>exact ⟨rfl,rfl,.nil⟩
 | @cons p q _ _ h _ ih=>
  obtain ⟨⟨n,t,h1,h2⟩,h3⟩:=h;obtain ⟨q1,q2⟩:=q;subst h2;exact ⟨ih.1,WJ (some (nm n)::·) ih.2.1,.cons ⟨⟨n,h1,rfl⟩,h3⟩ ih.2.2⟩
theorem oV {w:World}{κ:Type} [DecidableEq κ] (knd:KeyKind pw w κ):({cls:= .type "dict",data:= .dict #[]}:Obj).IsDictOf knd []:=by
 obtain ⟨o,ho,hd⟩:=Heap.dictOf_iff.mp (Heap.DictOf.new (knd:=knd) ({}:Heap));rw [Heap.get?_push_size _ rfl] at ho;obtain rfl:=cH ho;exact hd
theorem BN (O:aK L)(H:az C sx){ks:List (Option Expr)}{es:List Expr}(F:FS C ρ σ γ s):bO C γ aA (I8 L sx ks es ρ σ fs) (eval (.Dict ks es pos) C.env) s:=
 KT.tI λh=>ay h λh h4=>ay h λh h3=>ay h λh1 h2=>by
  have F1:=F.alloc (s':={s with heap:=s.heap.push {cls:= .type "dict",data:= .dict #[]}}) (F.fr.push _) (F.nw.push F.fr _) F.fresh;cases ks with
  |nil=>
   obtain rfl:=List.length_eq_zero_iff.mp (Wy h3).symm;exact KT.pre λZ=>KT.ok (wpAny_Dict_empty (FS.qb (tmp:=[(s.heap.objs.size,{cls:= .type "dict",data:= .dict #[]})]) F1 (.fN (.s .nil (oV _))) λZ q=>q))
  |cons k ks=>
   refine KT.un (λQ E h=>wpAny_Dict_walk (knd:=strKind pw C.D.w) h4 (Wy h3) (λh=>nomatch h) (Wy h1) h)
    (KT.La (p:=(s.heap.objs.size,{cls:= .type "dict",data:= .dict #[]})) (G:=λvs (Q:Value→Shared→Prop) E s₁=> ∃kvs,Carries (strKind pw C.D.w) vs kvs∧s₁.heap.DictOf (strKind pw C.D.w) s.heap.objs.size []∧ ∀h',h'.DictOf (strKind pw C.D.w) s.heap.objs.size (merged [] kvs)→Heap.SameBut s.heap.objs.size s₁.heap h'→Q (.ref s.heap.objs.size) {s₁ with heap:=h',toks:=s₁.toks+vs.length})
     (yB (ks:=k::ks) (es:=es) (pos:=pos) (fs:=fs) O (H.aS λp hp=> .tail _ hp) F1) λl ρ2 σ2 fs2 γ2 ps s2 n2 F2 r2=>KT.ok ?_)
   obtain ⟨k1,k2,k3⟩:=Bj r2.r;refine display_done_str k1 ?_ (Heap.dictOf_iff.mpr ⟨_,F2.fb (.head _),oV _⟩) λh' hm hs=> ?_
   ·have q:((strPairs ps).map (λq=>some q.1)).Nodup:=by exact aa k2 (aa r2.k (Wy h2))
    rw [show (λq:Str×Value=>some q.1)=some∘(·.1) from rfl,←List.map_map] at q;exact List.Pairwise.of_map some (λa b h e=>h (WJ some e)) q
   ·obtain ⟨o',ho',hd'⟩:=Heap.dictOf_iff.mp hm;exact fV.nx n2 (FS.qb (tmp:=[(s.heap.objs.size,o')]) (FS.change (tk:=s2.toks+ps.length) F2 hs ho') (.fN (.s k3 hd')) λZ q=>q)
end
noncomputable def dG.va:dG→V
 | .v a=>a
 |_=> .none
noncomputable def dG.PU:dG→V×V
 | .dd a=>a
 |_=>(.none,.none)
theorem GJ {f:N}(h:(bA f).1≠0):(f,bA f)∈Mi:=by
 unfold bA at*;revert h;refine ax (x:=bt Mi f) (λq=> ?_) λp q=> ?_
 ·exact aa q (λh=>WK rfl h)
 ·exact aa q (λZ=>aZ q)
theorem nU {f:N}(h:(bA f).1=4):f=SA:=(by decide+kernel: ∀p∈Mi,p.2.1=4→p.1=SA) _ (GJ (by refine aa h ?_;decide)) h
theorem uO {f:N}{D:V×V}{w:V}(h:(bA f).1=0):nB f D w=(bA f).2:=by unfold nB;refine aa h ?_;rfl
theorem AW {f:N}{D:V×V}{w:V}(h:(bA f).1=1):nB f D w=(bA f).2+8*Tm D:=by unfold nB;refine aa h ?_;rfl
theorem AX {f:N}{D:V×V}{w:V}(h:(bA f).1=4):nB f D w=(bA f).2+min (fR w) 200:=by unfold nB;refine aa h ?_;rfl
theorem AY {f:N}{D:V×V}{w:V}(h0:(bA f).1≠0)(h1:(bA f).1≠1)(h4:(bA f).1≠4):nB f D w=(bA f).2+5*wA (if eG f=true then 1 else 2) w:=by
 unfold nB;revert h0 h1 h4;generalize (bA f).1=n
 match n with
 |0=>exact λh=>WK rfl h
 |1=>exact λZ h=>WK rfl h
 |2=>exact λZ Z Z=>rfl
 |3=>exact λZ Z Z=>rfl
 |4=>exact λZ Z h=>WK rfl h
 |n+5=>exact λZ Z Z=>rfl
theorem Af {k:Int}{w:V}:wA k w≤61:=by
 unfold wA;cases bT w with
 |none=>exact Nat.zero_le _
 |some d=>exact Nat.min_le_right ..
theorem xE {f:N}{D:V×V}{w:V}:(bA f).2≤nB f D w:=by
 by_cases h0:(bA f).1=0
 ·exact aa (uO h0) (Nat.le_refl _)
 by_cases h1:(bA f).1=1
 ·exact aa (AW h1) (Nat.le_add_right ..)
 by_cases h4:(bA f).1=4
 ·exact aa (AX h4) (Nat.le_add_right ..)
 ·exact aa (AY h0 h1 h4) (Nat.le_add_right ..)
theorem Kc {f:N}{D:V×V}{w:V}:nB f D w≤(bA f).2+wg (bA f).1:=by
 unfold wg;by_cases h0:(bA f).1=0
 ·exact aa (uO h0) (Nat.le_add_right ..)
 by_cases h1:(bA f).1=1
 ·exact aa (AW h1) (aa (WE h1) (Nat.add_le_add_left (Nat.mul_le_mul_left 8 (Nat.sub_le ..)) _))
 by_cases h4:(bA f).1=4
 ·exact aa (AX h4) (aa (WG h1) (aa (WE h4) (Nat.add_le_add_left (Nat.min_le_right ..) _)))
 ·exact aa (AY h0 h1 h4) (aa (WG h1) (aa (WG h4) (Nat.add_le_add_left (Nat.mul_le_mul_left 5 Af) _)))
theorem zZ {d:Int}(h0:0≤d)(h:d<40):j9 (uA (.int d))=j9 (.int d)+1∧j9 (.int d)≤39:=by
 obtain ⟨n,rfl⟩:=Int.eq_ofNat_of_zero_le h0;have h:n<40:=Int.ofNat_lt.mp h;exact ⟨(Nat.min_eq_left h).trans (WJ (·+1) (Nat.min_eq_left (Nat.le_of_lt h)).symm),Nat.le_trans (Nat.min_le_left ..) (Nat.le_of_lt_succ h)⟩
theorem DY {c:Nat}(h:c<80):80 - (c+1)+1≤80 - c:=Nat.le_of_eq (Nat.succ_pred (Nat.ne_of_gt (Nat.sub_pos_of_lt h)))
theorem Lh {a b:Nat}(ha:a≤39)(hb:b≤40):80 - (a+1+b)+1≤80 - (a+b):=by rw [Nat.add_right_comm];exact DY (Nat.lt_succ_of_le (Nat.add_le_add ha hb))
theorem Li {a b:Nat}(ha:a≤39)(hb:b≤40):80 - (b+(a+1))+1≤80 - (b+a):=DY (Nat.lt_succ_of_le (Nat.add_le_add hb ha))
theorem Gu {a t u:Nat}(h:a<13)(k:t+1≤u):a+8*t<5+8*u:=by lia
theorem J6 {a b:Nat}(h:a<b)(hb:b≤200):min a 200<min b 200:=by rw [Nat.min_eq_left hb];exact WD (Nat.min_le_left ..) h
theorem JB {a b:Nat}{d:Int}(d0: -1≤d)(d1:d<59)(h:a<b+5):a+5*min (d+1).toNat 61<b+5*min (d+2).toNat 61:=by
 obtain ⟨n,hn⟩:=Int.eq_ofNat_of_zero_le (show 0≤d+1 from Int.add_le_add_right d0 1);have e2:d+2=((n+1:Nat):Int):=(Int.add_assoc d 1 1).symm.trans (WJ (·+1) hn);have h1:n+1≤61:=Int.ofNat_le.mp (e2▸Int.add_le_add_right (Int.le_of_lt d1) 2);rw [hn,e2];show a+5*min n 61<b+5*min (n+1) 61;rw [Nat.min_eq_left h1,Nat.min_eq_left (Nat.le_of_succ_le h1)];exact lB h
theorem rW {v:V}:j9 v≤40:=by
 unfold j9;cases bT v with
 |none=>exact Nat.zero_le _
 |some d=>exact Nat.min_le_right ..
theorem Co {w:V}{D:V×V}(h:Mb 0 40 (qY w D)):Tm (zX D w)+1≤Tm D:=by
 obtain ⟨d,hd,h0,h1⟩:=h;obtain ⟨c1,c2⟩:=zZ h0 h1;have e1:=rW (v:=D.1);have e2:=rW (v:=D.2);unfold qY at hd;unfold zX;revert hd;refine ax (x:=gQ w) (λq=> ?_) λk q=> ?_
 ·exact aa q (λh=>nomatch h)
 refine aa q ?_;dsimp only;by_cases k6:k=6
 ·refine aa (WE k6) (aa (WE k6) ?_);intro hd;unfold Tm;dsimp only;rw [hd,c1];exact Lh c2 e2
 ·refine aa (WG k6) (aa (WG k6) ?_);by_cases k18:k=18
  ·refine aa (WE k18) ?_;intro hd;unfold Tm;dsimp only;rw [hd,c1];exact Li c2 e1
  ·exact aa (WG k18) (λh=>nomatch h)
theorem iE {k d:Int}:wA k (.int d)=min (d+k).toNat 61:=rfl
theorem xf {w:V}{d:Int}(h:uA w= .int d): ∃a,w= .int a∧a+1=d:=by
 unfold uA at h;revert h;refine ax (x:=bT w) (λq=> ?_) λa q=> ?_
 ·exact aa q (λh=>nomatch h)
 ·exact aa q (λh=>⟨a,dv q,by cases h;rfl⟩)
section
variable {sx:Sx}{f:N}{w:V}{D:V×V}{fs fs':List aD}{ks:Ks}
theorem wj (h:wi sx w fs=(ks,fs'))(hk:bN ks)(g0:Mb (-1) 59 sx.w0): ∃a,w= .int a∧sx.w0= .int (a+1):=by
 unfold wi at h;revert h;refine ax (x:=CS fs) (λq=> ?_) λp q=> ?_
 ·refine aa q ?_;intro h;obtain ⟨rfl,rfl⟩:=lj h;obtain ⟨d,hd,_,_⟩:=g0;obtain ⟨a,ha,e⟩:=xf ((WJ dG.va hk.1).trans hd);exact ⟨a,ha,by exact aa hd (aa e rfl)⟩
 ·refine aa q ?_;intro h;obtain ⟨rfl,rfl⟩:=lj h;exact ⟨p.1.1.1,WJ dG.va hk.1,(WJ dG.va hk.2.1).trans (WJ V.int p.1.2.symm)⟩
theorem wq (h:C7 sx w fs=some (ks,fs'))(hk:bN ks):fR w<fR sx.w0:=
 cG h λp hp e=>by
  obtain ⟨rfl,rfl⟩:=lj e;have h1:w=p.1.1.1:=WJ dG.va hk.1;have h2:sx.w0=p.1.1.2:=WJ dG.va hk.2.1;exact aa h1 (aa h2 p.1.2)
theorem wo (h:wm sx f w D fs=some (ks,fs'))(hk:bN ks)(g0:zH sx.f0 sx.D0 sx.w0)(g:zH f D w):nB f D w<sx.n:=by
 show nB f D w<nB sx.f0 sx.D0 sx.w0;unfold wm at h;by_cases h0:(bA f).1=0
 ·rw [WE h0] at h;exact aa (uO h0) (Nat.lt_of_lt_of_le (aM h).1 xE)
 rw [WG h0] at h;by_cases he:(bA f).1=(bA sx.f0).1
 ·rw [WE he] at h;by_cases h1:(bA f).1=1
  ·rw [WE h1] at h;refine aa (AW h1) (aa (AW (he.symm.trans h1)) ?_);by_cases hp:sx.f0=Sr
   ·rw [WE hp] at h;obtain ⟨h',e⟩:=aM h;obtain ⟨rfl,rfl⟩:=lj e;have e:D=zX sx.D0 sx.w0:=WJ dG.PU hk.1;have t:=Co (g0.1 hp);exact aa e (aa hp (aa (show (bA Sr).2=5 by decide+kernel) (Gu h' t)))
   ·rw [WG hp] at h;obtain ⟨h',e⟩:=aM h;obtain ⟨rfl,rfl⟩:=lj e;have e:D=sx.D0:=WJ dG.PU hk.1;exact aa e (Nat.add_lt_add_right h' _)
  rw [WG h1] at h;by_cases h4:(bA f).1=4
  ·rw [WE h4] at h;have v:=wq h hk;have q:=g0.2.2 (nU (he.symm.trans h4));rw [AX h4,AX (he.symm.trans h4),nU h4,nU (he.symm.trans h4)];exact Nat.add_lt_add_left (J6 v q) _
  rw [WG h4] at h;refine aa (AY h0 h1 h4) (aa (AY (he▸h0) (he▸h1) (he▸h4)) ?_);by_cases u0:eG sx.f0=true
  ·rw [WE u0] at h;by_cases u:eG f=true
   ·rw [WE u] at h;exact no h
   ·rw [WG u] at h;obtain ⟨h,e⟩:=aM h;obtain ⟨a,ha,e⟩:=wj e hk (g0.2.1 u0);rw [WG u,WE u0,ha,e,iE,iE,show a+1+1=a+2 from Int.add_assoc ..];exact Nat.add_lt_add_right h _
  ·rw [WG u0] at h;obtain ⟨h',e⟩:=aM h;obtain ⟨rfl,rfl⟩:=lj e;have e:w=sx.w0:=WJ dG.va hk.1;refine aa (WG u0) (fF e ?_);by_cases u:eG f=true
   ·obtain ⟨d,hd,d0,d1⟩:=g.2.1 u;rw [WE u] at h'⊢;exact aa hd (aa iE (aa iE (JB d0 d1 h')))
   ·rw [WG u] at h'⊢;exact Nat.add_lt_add_right h' _
 ·rw [WG he] at h;exact WD Kc (Nat.lt_of_lt_of_le (aM h).1 xE)
end
section
variable {sx:Sx}{β:Type}{C:Cx}{ρ:ao}{σ:St}{γ:GS}{s:Shared}{r:qw}{u:Value}{v:V}{n f:N}{l:List V}{fs:List aD}{x:Str}{rel:Cx→GS→α→β→Prop}{P:(β→Shared→Prop)→(Value→Shared→Prop)→Prop}
theorem KT.inl (O:aK L){k:R→ao→St→List aD→TO α}(h: ∀r fs ks,aq f l σ r→KT C γ rel ((u6 r ρ fs ks).bind k) P):KT C γ rel ((xh L f l ρ σ fs).bind k) P:=by
 unfold xh;refine ax (x:=L.ca f l σ fs) (λq=> ?_) λp q=> ?_
 ·exact aa q False.elim
 ·refine aa q ?_;intro g;have k:bN p.2.2:=by
   revert g;obtain ⟨r,fs',ks⟩:=p;cases r with
   |ok v σ'=>
    show ((k (.v v) ρ σ' fs').pre ks).gd→_;cases k (.v v) ρ σ' fs' with
    |bC=>exact False.elim
    |ok _ _ _ _ _=>exact λg=>(bN.eU g).1
    |ba _ _ _ _=>exact λg=>(bN.eU g).1
   |ba σ'=>exact id
  exact h _ _ _ (O.ca q k) g
theorem KT.PZ (O:aK L){k:R→ao→St→List aD→TO α}(h: ∀r fs ks,aq f l σ r→KT C γ rel ((u6 r ρ fs ks).bind k) P):KT C γ rel ((wO L f l ρ σ fs).bind k) P:=by
 unfold wO;cases CQ fs with
 |none=>exact KT.inl O h
 |some p=>
  obtain ⟨⟨f',l',σ',r,hc⟩,fs'⟩:=p;show KT C γ rel ((Mine.tF (decide (f=f')) (u6 r ρ fs' [(.call f l σ,.call f' l' σ')]) (xh L f l ρ σ fs)).bind k) P;cases decide (f=f') with
  |false=>exact KT.inl O h
  |true=>
   intro g;have e:dG.call f l σ=dG.call f' l' σ':=by
    revert g;cases r with
    |ok v σ1=>
     show ((k (.v v) ρ σ1 fs').pre _).gd→_;cases k (.v v) ρ σ1 fs' with
     |bC=>exact False.elim
     |ok _ _ _ _ _=>exact λg=>g.1
     |ba _ _ _ _=>exact λg=>g.1
    |ba σ1=>exact λg=>g.1
   injection e with eA eB eC;subst eA eB eC
   exact h r fs' _ hc g
theorem Bb (H:az C sx)(F:FS C ρ σ γ s){ks:Ks}(hc:aq f l σ r)(hm:Mz f l σ<sx.n)(hlp:(sx.lp||decide (f=Tg))=true)(hr:aH C.D γ.fz γ.αs l us):KT C γ aA (u6 r ρ fs ks) λQ E=>wpAny (aC C) C.A (call (.ref (C.D.fa f)) us) Q E s:=by
 obtain ⟨fe,Nc⟩:=H.fe;have go:=hc.s C fe C.A us ρ γ s H.H H.K Nc Nc.fr ((Wt hlp).imp H.lp Wy) H.hk (by have:=H.Ag;exact lD this hm) (by have:=H.un;lia) F hr;cases r with
 |ok v σ'=>exact λZ=>wpAny_call (codeAny_mono go λr s' q=>by cases q with|ok n F r=>exact .mk n F r)
 |ba σ'=>exact λZ=>wpAny_call (codeAny_mono go λr s' q=>by cases q with|ba R=>exact R)
theorem TO.rQ {x:TO α}:(x.bind λa ρ σ fs=> .ok a ρ σ fs [])=x:=by
 cases x with
 |ok a ρ σ fs ks=>exact WJ (TO.ok a ρ σ fs) (Wr ks)
 |ba _ _ _ _=>rfl
 |bC=>rfl
theorem pZ (O:aK L)(H:az C sx)(F:FS C ρ σ γ s)(hr:aH C.D γ.fz γ.αs l us):KT C γ aA (rU L sx f l ρ σ fs) λQ E=>wpAny (aC C) C.A (call (.ref (C.D.fa f)) us) Q E s:=
 KT.tI λhlp=>KT.tO λp hp=>KT.pre λhk=>by
  refine fF (TO.rQ (x:=wO L f l ρ σ p.2)) ?_;refine KT.PZ O λr fs ks hc=> ?_;exact aa TO.rQ (Bb H F hc (wo hp hk H.g hc.g) hlp hr)
theorem G0 (O:aK L)(H:az C sx)(F:FS C ρ σ γ s)(hk:C.env.kindOf (nm f)=some .globalImplicit)(hn:jP f=true)(h1:Cp.contains f=true)(h2:lG.contains f=true):
  bO C γ aA ((qz L sx le ρ σ fs).bind λvs ρ σ fs=>rU L sx f vs ρ σ fs) (eval (.Call (.Name (nm f) p2) le [] pos) C.env) s:=
 KT.un (λQ E h=>Call_Name rfl (nameG_K F.fr H.K.fh H.K.qj (H.H.FO.fn f (List.contains_iff_mem.mp h1)) h H.K.uy H.K.hk hk (da hn)))
  (KT.args O H F (H.H.FO.keep f (List.contains_iff_mem.mp h2)) λvs ρ σ fs γ' us s' n F' r=>bO.nx n (pZ O H F' r:bO C γ' aA _ (call (.ref (C.D.fa f)) us) s'))
end
theorem mi:nm Va=("append" :Str):=by decide+kernel
theorem Ga:nm 7368560=("pop" :Str):=by decide+kernel
theorem xI:nm V6=("count" :Str):=by decide+kernel
theorem fE (vs:List Value)(u:Value):vs.toArray.push u=(vs++[u]).toArray:=List.push_toArray ..
section
variable {sx:Sx}{β:Type}{C:Cx}{ρ:ao}{σ:St}{γ γ':GS}{s:Shared}{r:R}{u:Value}{v x:V}{n f c:N}{l q:List V}{a:Expr}{fs:List aD}{p:ao×St}{Q:Value×List Value→Shared→Prop}{E:Value→Shared→Prop}
theorem wX {ns:List N}{l:List V}(h:n∉ns):f6 (ns.zip l) n=none:=by
 induction ns generalizing l with
 |nil=>rfl
 |cons y r ih=>cases l with
  |nil=>rfl
  |cons w l=>exact (WG λe:y=n=>h (e▸ .head _)).trans (ih λq=>h (.tail _ q))
theorem sR (H:az C sx){l:List (N×V)}(F:FS C ρ σ γ s)(I:zI C γ s u c l)(hm:gU c n=some f)(hn:f6 l n=none)(h:Q (.ref (C.D.fa f),[u]) s):wpAny (aC C) A (getMethod u (nm n) pl) Q E s:=by
 obtain ⟨hu,h1,h2,r⟩:=I;subst hu;exact method_inst F.fr H.K.fh (ox:=instObj (C.D.ca c) _) ⟨h1,rfl,rfl,h2⟩ (H.H.MO.plain c n f hm) (H.H.MO.find c n f hm) (H.H.MO.fn f) (mx r hn) h
theorem uS (H:az C sx)(F:FS C ρ σ γ s)(hr:aU C.D γ.fz γ.αs v u)(hm:gU c n=some f)(h:Q (.ref (C.D.fa f),[u]) s):De v σ=some c→nC v n σ=true→wpAny (aC C) A (getMethod u (nm n) pl) Q E s:=by
 cases v with
 |aO c' l=>
  refine λe hn=>hr.eV λa d ns es m hu hf h1 h2 r=> ?_;obtain rfl:=cH e;unfold nC at hn;dsimp only at hn;rw [hf] at hn;exact sR H F (.mk hu (F.ko h1) (F.ko h2) r) hm (wX λq=>by
   rw [show (((some ns).getD []).contains n)=true from List.contains_iff_mem.mpr q] at hn;exact bK hn) h
 |obj k=>
  refine λe hn=>cG e λp hp e=> ?_;subst e;unfold nC at hn;dsimp only at hn;rw [hp] at hn;exact sR H F (F.JG hr hp) hm (H5.none hn) h
 |_=>exact no
theorem eH {id:String}{P:Prop}(h:pB n=some id)(h1:n=Va→id= "list.append" →P) (h2:n=7368560→id= "list.pop" →P) (h3:n=V6→id= "list.count" →P):P:=by
 unfold pB at h;by_cases q:n=Va
 ·rw [WE q] at h;obtain rfl:=cH h;exact h1 q rfl
 rw [WG q] at h;by_cases q:n=7368560
 ·rw [WE q] at h;obtain rfl:=cH h;exact h2 q rfl
 rw [WG q] at h;exact ey h λq e=>h3 q (cH e).symm
theorem xR {id:String}(F:FS C ρ σ γ s)(hr:aA C γ r u)(hl:cw r ρ σ=some q)(hm:pB n=some id)(h:Q (.builtin id,[u]) s):wpAny (aC C) A (getMethod u (nm n) pl) Q E s:=by
 obtain ⟨hu,hg,hR⟩:=F.cw hr hl;subst hu;refine eH hm (λq e=> ?_) (λq e=> ?_) λq e=> ?_<;>subst q e
 ·exact aa mi (getMethod_builtin ⟨_,hg,rfl⟩ PySem.F.plainAttrs_list PySem.F.slot_list_append PySem.F.type_list_append (λa e=>by injection e with eA;subst eA;exact ⟨_,hg,rfl⟩) h)
 ·exact aa Ga (getMethod_builtin ⟨_,hg,rfl⟩ PySem.F.plainAttrs_list PySem.F.slot_list_pop PySem.F.type_list_pop (λa e=>by injection e with eA;subst eA;exact ⟨_,hg,rfl⟩) h)
 ·exact aa xI (getMethod_builtin ⟨_,hg,rfl⟩ PySem.F.plainAttrs_list PySem.F.slot_list_count PySem.F.type_list_count (λa e=>by injection e with eA;subst eA;exact ⟨_,hg,rfl⟩) h)
inductive H7 (C:Cx)(ρ:ao)(σ:St)(γ:GS)(s:Shared)(r:R)(u:Value)(q:List V):Prop
 |mk {a vs n} {g:Obj→GS} (hu:u= .ref a) (hR:aH C.D γ.fz γ.αs q vs) (hU: ∀o,Upd a (bh vs n) o (aL γ C.rest) (aL (g o) C.rest)) (hn: ∀o,Nx γ (g o)∧(g o).fz=γ.fz∧(g o).αs=γ.αs)
   (w: ∀q' vs' n' p s',uY r q' ρ σ=some p→aH C.D γ.fz γ.αs q' vs'→Fr C.g C.L s'.heap γ.m→News C.g C.L s'.heap (aL (g (bh vs' n')) C.rest)→s'.gens=s.gens→s'.os=s.os→FS C p.1 p.2 (g (bh vs' n')) s'):H7 C ρ σ γ s r u q
theorem FS.KL (F:FS C ρ σ γ s)(hr:aA C γ r u):Mine.cw r ρ σ=some q→uY r l ρ σ=some p→H7 C ρ σ γ s r u q:=by
 cases r with
 |lr y=>
  refine λhl Z=> ?_;obtain ⟨h1,h2,h3,h4,h5⟩:=F.ow.pM (gA hl);exact .mk (g:=λo=>{γ with own:=_++(_,o)::_}) (cH (hr.2.symm.trans (h1 hr.1))) h2 (λo=>F.RS h3) (λo=>⟨⟨rfl,rfl,.refl⟩,rfl,rfl⟩) λq' vs' n' p s' hp r F' N' hg ho=>by
   obtain rfl:=cH hp;exact F.RQ h3 (h4 _ _ _ r) F' N' hg ho
 |v w=>cases w with
  |obj k=>
   refine λhl hp=>F.gg hr hl λa vs n pre post hu g3 r w=> ?_;exact .mk (g:=λo=>{γ with mu:=pre++(a,o)::post}) hu r (λo=>F.Oj g3) (λo=>⟨⟨rfl,rfl,.refl⟩,rfl,rfl⟩) λq' vs' n' p s' hp r F' N' hg ho=>ey (x:=some (ρ,gX σ k (.gg q'))) hp λZ e=>by
    obtain rfl:=cH e;exact F.Mh g3 (w _ _ (.gg r)) F' N' hg ho
  |_=>exact λZ=>no
set_option tactic.hygienic true in
theorem uR (F:FS C ρ σ γ s)(hr:aA C γ r u)(hx:aU C.D γ.fz γ.αs x w)(hl:cw r ρ σ=some q)(hp:uY r (q++[x]) ρ σ=some p)(hn:q.length<16000000):WO C γ aA (.v .none) p.1 p.2 (call (.builtin "list.append") [u,w]) s:=by
 obtain ⟨hu,hR,hU,hN,k⟩:=F.KL hr hl hp;rename_i a vs n g;subst hu;have U:=hU (bh (vs++[w]) (n+1));have e:bh (vs++[w]) (n+1)=listOf (vs.toArray.push w) (n+1):=WJ (λz=>listOf z (n+1)) (fE vs w).symm;refine append_K F.fr F.nw (e▸U) (λh' F' N'=> ?_) (mQ hR.len hn);exact .mk (hN _).1 (k _ _ (n+1) p {s with heap:=h'} hp (hR.eU (.cons hx .nil)) F' (e▸N') rfl rfl) .none
theorem ro {D:Wd}{fz:aJ}{αs:List Addr}{l:List V}{vs:List Value}(h:aH D fz αs l vs): ∀{v},l.getLast? =some v→ ∃p u,kl_last vs=some (p,u)∧aU D fz αs v u∧aH D fz αs l.dropLast p:=by
 induction h with
 |nil=>exact ig
 | @cons a x l q h r ih=>
  intro v e
  induction r with
  |nil=>obtain rfl:=cH e;exact ⟨[],x,rfl,h,.nil⟩
  | @cons a' x' l q h2 r=>
   obtain ⟨p,u,h3,b,c⟩:=ih (List.getLast?_cons_cons.symm.trans e);refine ⟨x::p,u,?_,b,.cons h c⟩;show (match kl_last (x'::q) with
    |some (q,z)=>some (x::q,z)
    |none=>some ([],x))=_
   exact aa h3 rfl
set_option tactic.hygienic true in
theorem xS (F:FS C ρ σ γ s)(hr:aA C γ r u)(hl:cw r ρ σ=some q)(hx:q.getLast? =some x)(hp:uY r q.dropLast ρ σ=some p)(hn:q.length<16000000):WO C γ aA (.v x) p.1 p.2 (call (.builtin "list.pop") [u]) s:=by
 obtain ⟨hu,hR,hU,hN,k⟩:=F.KL hr hl hp;rename_i a vs n g;subst hu;obtain ⟨ws,z,q1,q2,q3⟩:=ro hR hx;refine kl_pop F.fr F.nw q1 (hU (bh ws (n+1))) (mQ hR.len hn) λh' F' N'=> ?_;exact .mk (hN _).1 (k _ _ (n+1) p {s with heap:=h'} hp q3 F' N' rfl rfl) (aU.aw (hN _).1.ext q2)
theorem qW {x:V}(hx:bS 8 x=true){l:List V}: ∀{k},l.all (bS 8)=true→fZ x l=some k→(l.map (jv 8)).countP (λy=>PyData.eqv y (jv 8 x))=k:=by
 induction l with
 |nil=>exact λZ e=>cH e
 |cons a r ih=>
  refine λhl=>ay hl λh1 h2=> ?_;rw [fZ];refine ax (x:=jB 8 a x) (λq=> ?_) λb hb=> ?_
  ·exact aa q no
  ·refine aa hb ?_;exact λe=>cG e λn hn e=>by exact aa List.map_cons (aa List.countP_cons (aa (ih h2 hn) (aa (rJ h1 hx hb) e)))
theorem pJ (K:aW C){k:Nat}(F:FS C ρ σ γ s)(hr:aA C γ r u)(hx:aU C.D γ.fz γ.αs x w)(hl:cw r ρ σ=some q)(hc:ft x q=some k):WO C γ aA (.v (.int k)) ρ σ (call (.builtin "list.count") [u,w]) s:=by
 obtain ⟨hu,hg,hR⟩:=F.cw hr hl;subst hu;refine ey (x:=fZ x q) hc λhd hc=>ay hd λhd h3=>ay hd λh1 h2=> ?_;obtain ⟨ra⟩:=eh K F h1 hx;obtain ⟨rb⟩:=cP (f:=jv 8) (eh K F) hR h2;have hcan:PyData.canLayAll0 (q.map (jv 8))=true:=fq λv=>cY v;refine call_meets PySem.F.slot_list_count ⟨_,hg,rfl⟩ PySem.F.entry_list_count (PySem.F.args_list_count_2 _ _) (list_countAt _ (List.toArray _) _ none #[] w (λz=>PyData.eqv (readOf s.heap z) (jv 8 x))) ⟨hg,items_eqAt rb ra hcan (cY x) (P0 K.units (Nat.le_trans (Nat.min_le_right ..) (iZ x))),?_⟩;exact aa (show (List.toArray _).toList.countP (λy=>PyData.eqv (readOf s.heap y) (jv 8 x))=k from ((by rw [←readsAll_map _ _ _ hcan rb,List.countP_map];rfl:_=(q.map (jv 8)).countP _)).trans (qW h1 h2 hc)) (.mk .refl F.same (.int _ _))
end
section
variable {sx:Sx}{β:Type}{C:Cx}{ρ:ao}{σ:St}{γ γ':GS}{s:Shared}{r:R}{u:Value}{v x:V}{n f c:N}{l q vs:List V}{a:Expr}{fs:List aD}{p:ao×St}{E:Value→Shared→Prop}{id:String}
theorem KT.Ik (O:aK L)(H:az C sx)(F:FS C ρ σ γ s){first:List Value}{f:List V→ao→St→List aD→TO α}{rel:Cx→GS→α→Value→Prop}
  (k: ∀vs ρ σ fs γ' us s',Nx γ γ'→FS C ρ σ γ' s'→aH C.D γ'.fz γ'.αs vs us→KT C γ0 rel (f vs ρ σ fs) λQ E=>wpAny (aC C) C.A (call (.builtin id) (first++us)) Q E s'):
  KT C γ0 rel ((qz L sx le ρ σ fs).bind f) λQ E=>wpAny (aC C) C.A (callWith pos (.builtin id) first (backTo pos (starEach le C.env)) []) Q E s:=by
 cases le with
 |nil=>exact KT.pre λZ=>KT.un (λQ E h=>callWith_method0 h) ((Wr first)▸k [] ρ σ fs γ [] s .refl F .nil)
 |cons e r=>
  intro g;have hs:cC (e::r)=true:=by
   cases q:cC (e::r) with
   |true=>rfl
   |false=>unfold qz at g;rw [q] at g;exact g.elim
  exact ay (a:= !dw e) (b:=cC r) hs λh1 h2=>callWith_method1 ((KT.aE (G:=λus Q E s'=>wpAny (aC C) C.A (call (.builtin id) (first++us)) Q E s') (iQ O H F) k) g) (bp h1) (cJ h2)
theorem p9 {ks:Ks}{m:Sem Value}(h: ∀p,uY r q ρ σ=some p→WO C γ aA (.v x) p.1 p.2 m s):bO C γ aA (Bh r x q ρ σ fs ks) m s:=KT.tO λp hp=>(h p hp).rF
theorem vl (K:aW C)(F:FS C ρ σ γ s)(hr:aA C γ r u)(hl:cw r ρ σ=some q)(hm:pB n=some id)(hv:aH C.D γ.fz γ.αs vs us):bO C γ aA (DA n r q vs ρ σ fs) (call (.builtin id) ([u]++us)) s:=by
 induction hv with
 |nil=>
  refine KT.tI λh=>eH hm (λq' e=> ?_) (λq' e=> ?_) λq' e=> ?_
  ·rw [q'] at h;exact WK h (by decide+kernel)
  ·subst e;exact KT.tE (λZ=>KT.tO λx hx=>KT.tI λhn=>p9 λp hp=>xS F hr hl hx hp (Wy hn)) λp Z=>KT.tO λp' hp'=>λg=>by
    obtain ⟨⟨⟨l',x,q'⟩,h1,h2,h3⟩,fs'⟩:=p;have e:q=l':=WJ dG.l g.1;subst e;exact xS F hr hl h1 (by exact aa (show q.dropLast=q' from h2) hp') h3
  ·rw [q'] at h;exact WK h (by decide+kernel)
 | @cons x w vs us hx hv=>
  induction hv with
  |cons _ _=>exact False.elim
  |nil=>
   show bO C γ aA (tI true (tF (decide (n=Va)) (Ii r q x ρ σ fs) (tI (decide (n=V6)) (tE (CR fs) (tO (ft x q) λk=> .ok (.v (.int k)) ρ σ fs []) λp=> .ok (.v (.int p.1.1.2.2)) ρ σ p.2 [(.ew x q,.ew p.1.1.1 p.1.1.2.1)])))) _ s;refine KT.tI λZ=>KT.tF (λh=> ?_) λh=>KT.tI λh'=> ?_
   ·refine eH hm (λZ e=> ?_) (λe Z=> ?_) λe Z=> ?_
    ·subst e;exact KT.lt λhn fs'=>p9 λp hp=>uR F hr hx hl hp hn
    ·rw [e] at h;exact WK h (by decide+kernel)
    ·rw [e] at h;exact WK h (by decide+kernel)
   ·refine eH hm (λe Z=> ?_) (λe Z=> ?_) λZ e=> ?_
    ·rw [e] at h';exact WK h' (by decide+kernel)
    ·rw [e] at h';exact WK h' (by decide+kernel)
    ·subst e;refine KT.tE (λZ=>KT.tO λk hk=>(pJ K F hr hx hl hk).rF) λp Z g=> ?_;obtain ⟨⟨⟨x',l',k⟩,h1⟩,fs'⟩:=p;have e:dG.ew x q=dG.ew x' l':=g.1;injection e with e1 e2
     subst e1 e2;exact pJ K F hr hx hl h1
theorem mR {env:PySem.Env}(h:cC le=true):((backTo pos (starEach le env)).all (!·.1))=true:=by
 induction le with
 |nil=>rfl
 |cons e r ih=>
  refine ay (a:= !dw e) (b:=cC r) h λh1 h2=> ?_;exact aa (bp h1) (ih h2)
theorem pF {x:Str}{env:PySem.Env}(hb:e9 a=true)(hs:cC le=true)(hn:le.length<30)(hp:(p2.endLine==pos.line)=true):
  eval (.Call (.Attribute a x p2) le [] pos) env=(do
   let ov←eval a env
   standAt p2.atName
   let (f,first)←holding [ov] (getMethod ov x (do return (←importBound a env).getD true))
   callWith pos f first (backTo pos (starEach le env)) []):=by
 have e:methodCallForm (le.length+([]:List Keyword).length) (backTo pos (starEach le env)) (backToKw pos (keywordEach [] env))=true:=by
  unfold methodCallForm;refine aa (mR hs) ?_;show (true&&true&&decide (le.length+0+0<30))=true;exact aa (show le.length+0+0=le.length from rfl) (aa (WA hn) rfl)
 refine aa (arm_eval_Call ..) (aa (rP hb) ?_);unfold methodCall;refine aa e ?_;unfold calleeOf methodCallPos;exact aa hp rfl
theorem yG (O:aK L)(H:az C sx)(F:FS C ρ σ γ s)(hr:aA C γ r u)(hl:cw r ρ σ=some q):KT C γ aA (Ka L sx r n le ρ σ fs) λQ E=>wpAny (aC C) C.A (getMethod u (nm n) pl) (λfx s₂=>wpAny (aC C) C.A (callWith pos fx.1 fx.2 (backTo pos (starEach le C.env)) []) Q E s₂) E s:=
 KT.tO λid hm g=>xR F hr hl hm ((KT.Ik O H F λvs ρ σ fs γ' us s' n F' r=>KT.tO λq hq=>(vl H.K F' (hr.nx n) hq hm r).nx n) g)
end
theorem vG.ns {h:Heap}{a:Addr}{o:Obj}{m:Str→Option Value}(x:vG o m)(e:h.get? a=some o):h.Ns a m:=by obtain ⟨es,ep,hd,k,r⟩:=x;exact ⟨o,es,ep,e,hd,k,r⟩
theorem dz {h:Heap}{a:Addr}{m:Str→Option Value}(x:h.Ns a m): ∃o,h.get? a=some o∧vG o m:=by obtain ⟨o,es,ep,e,hd,r⟩:=x;exact ⟨o,e,es,ep,hd,r⟩
structure Gd (C:Cx)(L:Addr)(oL:Obj)(keep:aJ)(σ:St)(αs:List Addr)(fz mu:aJ)(s:Shared):Prop where
 lo:s.heap.get? L=some oL
 kp: ∀b o,C.g.get? b=some o→s.heap.get? b=some o
 nw:News C.g L s.heap (mu++(keep++fz))
 ds:aN (mu++(keep++fz))
 mu:bX C.D fz αs σ αs mu
 ge:s.gens=C.gens
 os:s.os=C.os
theorem HH {aG own mu r fz:aJ}:(aG++(own++(mu++(r++fz)))).Perm (mu++(((aG++own)++r)++fz)):=by
 exact aa (Wn ..) (aa (Wn ..) (((List.perm_append_comm_assoc own mu _).append_left aG).trans (List.perm_append_comm_assoc aG mu _)))
theorem Sa {x y:Addr×Obj}{pre post own mu r fz:aJ}:(x::((pre++y::post)++(own++(mu++(r++fz))))).Perm (y::(mu++(((x::((pre++post)++own))++r)++fz))):=
 (((List.perm_middle (l₁:=pre) (l₂:=post)).append_right _).cons x).trans ((List.Perm.swap ..).trans ((((HH (aG:=pre++post)).cons x).trans List.perm_middle.symm).cons y))
inductive Pu (C:Cx)(fe:PySem.Env)(ρ:ao)(σ:St)(γ:GS)(s:Shared):Prop
 |mk {oL m keep} (hn:vG oL m) (G:Gd C fe.locals oL (keep++C.rest) σ γ.αs γ.fz γ.mu s) (hm:C.comp=false→m=γ.m∧keep=γ.aG++γ.own)
   (back: ∀r σ' αs' fz' mu' s',dE γ.fz γ.αs fz' αs'→Gd C fe.locals oL (keep++r) σ' αs' fz' mu' s'→FS (C.aS r) ρ σ' {γ with αs:=αs',fz:=fz',mu:=mu'} s'):Pu C fe ρ σ γ s
section
variable {C:Cx}{ρ:ao}{σ:St}{γ:GS}{s:Shared}{fe:PySem.Env}
theorem FS.q7 (N:cV C fe)(F:FS C ρ σ γ s):Pu C fe ρ σ γ s:=by
 by_cases q:fe.locals=C.L
 ·obtain ⟨oL,ho,hn⟩:=dz F.fr.ns;refine .mk (keep:=γ.aG++γ.own) hn ⟨q▸ho,F.fr.keep,q▸bw F.nw λz hz=>HH.mem_iff.mpr hz,F.ds.dA HH,F.mu,F.ge,F.os⟩ (λZ=>⟨rfl,rfl⟩) λr σ' αs' fz' mu' s' x G=> ?_;exact ⟨⟨hn.ns (q▸G.lo),G.kp,F.fr.above⟩,q▸bw G.nw λz hz=>HH.mem_iff.mp hz,G.ds.dA HH.symm,F.ow.aw x,G.mu,G.ge,G.os,F.x0.trans x⟩
 ·obtain ⟨oL,m,hm,hn⟩:=F.ow.vK.f _ N.fl q;obtain ⟨pre,post,hcel⟩:=List.append_of_mem hm;obtain ⟨oC,hoC,hnC⟩:=dz F.fr.ns;have p: ∀mu r fz:aJ,((C.L,oC)::(γ.aG++(γ.own++(mu++(r++fz))))).Perm ((fe.locals,oL)::(mu++((((C.L,oC)::((pre++post)++γ.own))++r)++fz))):=λmu r fz=>hcel▸Sa;have hL:C.g.get? C.L=none:=Heap.get?_none_of_le F.fr.above;have hN:C.g.get? fe.locals=none:=Heap.get?_none_of_le N.ab;have nw: ∀z∈(C.L,oC)::aL γ C.rest,s.heap.get? z.1=some z.2∧C.g.get? z.1=none:=List.forall_mem_cons.mpr ⟨⟨hoC,hL⟩,λz hz=>⟨(F.nw z hz).1,(F.nw z hz).2.2⟩⟩;have ds:=aN.dA (p γ.mu C.rest γ.fz) (aN.cons F.ds λz hz=>(F.nw z hz).2.1);refine .mk (keep:=(C.L,oC)::((pre++post)++γ.own)) hn ⟨(nw _ ((p _ _ _).mem_iff.mpr (.head _))).1,F.fr.keep,λz hz=> ?_,aN.sub (List.sublist_cons_self _ _) ds,F.mu,F.ge,F.os⟩ (λh=>WK (by exact aa (N.eq h) rfl) q) λr σ' αs' fz' mu' s' x G=> ?_
  ·have h:=nw z ((p _ _ _).mem_iff.mpr (.tail _ hz));exact ⟨h.1,ds.sW z hz,h.2⟩
  ·have d2:=aN.dA (p mu' r fz').symm (aN.cons G.ds λz hz=>(G.nw z hz).2.1);have nw': ∀z∈(C.L,oC)::(γ.aG++(γ.own++(mu'++(r++fz')))),s'.heap.get? z.1=some z.2∧C.g.get? z.1=none:=λz hz=>by
    cases Wv ((p _ _ _).mem_iff.mp hz) with
    |inl eM=>subst eM;exact ⟨G.lo,hN⟩
    |inr hz=>exact ⟨(G.nw z hz).1,(G.nw z hz).2.2⟩
   exact ⟨⟨hnC.ns (nw' _ (.head _)).1,G.kp,F.fr.above⟩,λz hz=>⟨(nw' z (.tail _ hz)).1,d2.sW z hz,(nw' z (.tail _ hz)).2⟩,aN.sub (List.sublist_cons_self _ _) d2,F.ow.aw x,G.mu,G.ge,G.os,F.x0.trans x⟩
end
section
variable {C:Cx}{fe:PySem.Env}{oL:Obj}{m:Str→Option Value}{keep mu:aJ}{σ:St}{s:Shared}{R:Result→Shared→Prop}
 {name qual:Str} {params:Arguments} {body:List Stmt} {scope:Scope} {doc pm cdv ct dV kV:Value} {an:Option Addr} {fo:Obj} {f:Addr} {args:Args} {binds:List (Str×Value)}
theorem iD {cs:List (Str×Addr)}{cm:Str→Option Value}{cells:aJ}(z:CellsAre cm cs cells):cells.map (·.1)=cs.map (·.2):=by
 induction z with
 |nil=>rfl
 |cons _ _ ih=>exact WJ (_::·) ih
set_option backward.match.sparseCases true in
theorem wt (K:aW C)(hA:A'.frames=some (fe::C.outer))(N0:cV C fe)(hn:vG oL m)(G:Gd C fe.locals oL keep σ αs fz mu s)
  (ho:s.heap.get? f=some fo) (hd:fo.data= .func (fnX name qual params body scope [] dV kV doc pm an cdv ct)) (hcd:s.heap.CodeRec cdv qual) (hroom:A'.depth<recursionLimit)
  (hbind:BindsTo s (fnX name qual params body scope [] dV kV doc pm an cdv ct) args binds)
  (hkind: ∀n,∀x∈binds,scope.names.lookup x.1=some .local∨(scope.names.lookup x.1=some .cell∧((cellsFrom n scope.names []).lookup x.1).isSome=true))
  (qA:((cellsFrom 0 scope.names []).map (·.1)).Nodup)
  (h: ∀g L' h₁ tk cells,g.get? fe.locals=some oL→C.g.StaysIn g→Below A' C.base (fe::C.outer) g→Fr g L' h₁ (bindL (envOfC qual scope L' f cdv).kindOf binds λZ=>none)→News g L' h₁ (cells++(mu++(keep++fz)))→
   CellsAre (bindC (envOfC qual scope L' f cdv).kindOf binds λZ=>none) (cellsFrom (L'+1) scope.names []) cells→aN (cells++(mu++(keep++fz)))→
   wpAny (aC C) (A'.deeper (envOfC qual scope L' f cdv)) (PySem.execs body (envOfC qual scope L' f cdv))
    (λfl s'=>LeaveK C.g fe.locals m g R (match fl with| .ret v=>v|_=> .none) s')
    (λe s'=>wpAny (aC C) (A'.deeper (envOfC qual scope L' f cdv)) (leaving (envOfC qual scope L' f cdv) e) (λZ s''=>R (.error e) s'') (λe' s''=>R (.error e') s'') s')
    {s with heap:=h₁,toks:=tk})
  (hco:scope.isCoroutine=false) (hgen:scope.isGenerator=false) (hk:scope.kind= .function):codeAny (aC C) A' (.call (.ref f) args) R s:=by
 have F:Fr C.g fe.locals s.heap m:=⟨hn.ns G.lo,G.kp,N0.ab⟩;obtain ⟨FG,BG,st,lv⟩:=groundX (R:=R) K.IG F G.nw hA N0.ff N0.fk;have nL:fe.locals∉(mu++(keep++fz)).map (·.1):=λq=>by obtain ⟨p,hp,e⟩:=List.mem_map.mp q;exact (G.nw p hp).2.1 e
 refine codeAny_call_function hroom ho hd hco hgen rfl hcd (hbind _ _ _ _ ?_);refine wpAny_newFunctionEnv_cells hk (hkind _) λenv' he s' x=> ?_;subst he;refine ⟨(K.AN.keeps G.kp).keeps x.toInCall.keep,codeAny_func ?_⟩;obtain ⟨h₁,tk,e,_⟩:=x.done;subst e;have hk₁:=x.toInCall.keep;have lo: ∀p∈mu++(keep++fz),p.1<s.heap.objs.size:=λp hp=>Heap.lt_size (G.nw p hp).1;obtain ⟨cells,NC,Y⟩:=Cl.news (h₀:=s.heap) (Nat.le_refl _) λn c hm=>⟨x.cell n c (lookup_of_mem_nodup (cellsFrom_names scope.names 0 (s.heap.objs.size+1) [] [] rfl▸qA) hm),x.above n c hm⟩;have dC:aN (cells++(mu++(keep++fz))):=by
  unfold aN;refine aa List.map_append ?_;rw [List.nodup_append];refine ⟨?_,G.ds,λa ha b hb q=> ?_⟩
  ·exact aa (iD Y) (List.pairwise_map.mpr x.apart)
  ·obtain ⟨p,hp,e⟩:=List.mem_map.mp ha;obtain ⟨p',hp',e'⟩:=List.mem_map.mp hb;have h1:=(NC p hp).2.2;rw [e,q,←e',(G.nw p' hp').1] at h1;exact AZ h1
 refine wpAny_mono (h _ s.heap.objs.size h₁ tk cells (hideAll_get _ G.lo nL) st BG ⟨x.toInCall.ns,λb o e=>hk₁ b o (of_hideAll _ e),Nat.le_of_eq (hideAll_size _ _)⟩ (λp hp=> ?_) Y dC) (λfl s' hl=>lv _ _ hl) λZ Z y=>y;cases List.mem_append.mp hp with
 |inl hp=>
  refine ⟨(NC p hp).1,(NC p hp).2.1,?_⟩;refine ax (x:=(hideAll s.heap ((mu++(keep++fz)).map (·.1))).get? p.1) id λo q=> ?_;have:=of_hideAll _ q;rw [(NC p hp).2.2] at this;exact ig this
 |inr hp=>exact ⟨hk₁ _ _ (G.nw p hp).1,Nat.ne_of_lt (lo p hp),hideAll_none _ (List.mem_map_of_mem hp)⟩
end
noncomputable abbrev Cx.cf (C:Cx)(A':Around)(fe env:PySem.Env)(g:Heap)(keep fz:aJ)(αs:List Addr):Cx:=
 {D:=C.D,A₀:=A',A:=A'.deeper env,base:=C.base,outer:=fe::C.outer,g:=g,env:=env,comp:=false,X:=jP,gens:=C.gens,os:=C.os,rest:=keep++C.rest,Dk:=fz,Ea:=αs}
structure qI (C:Cx)(ρ:ao)(σ:St)(γ:GS)(x t:Addr)(vs:List Value)(h:Heap)(s:Shared):Prop where
 F:FS C ρ σ γ {s with heap:=h}
 kp: ∀b o,h.get? b=some o→s.heap.get? b=some o
 nx:h.get? x=none
 nt:h.get? t=none
 ob: ∃od,s.heap.get? x=some {cls:= .ref C.D.ps,dict:=od,data:= .fields #[.ref t,.none,.none,.none,.bool false,.none]}
 tp:s.heap.TupAt t vs
inductive rL (C:Cx):SO→Value→Shared→Prop
 |mk {ρ σ γ x t vs h s} (r:qI C ρ σ γ x t vs h s):rL C (.ba ρ σ) (.ref x) s
structure HU (C:Cx)(fe:PySem.Env)(A':Around)(γ:GS)(oL:Obj)(m:Str→Option Value)(keep:aJ)(g:Heap):Prop where
 N:cV C fe
 hn:vG oL m
 hg:g.get? fe.locals=some oL
 st:C.g.StaysIn g
 hB:Below A' C.base (fe::C.outer) g
 hm:C.comp=false→m=γ.m∧keep=γ.aG++γ.own
section
variable {C:Cx}{fe:PySem.Env}{oL:Obj}{m:Str→Option Value}{keep:aJ}{σ σ1:St}{s s':Shared}{ρ ρ1:ao}{γ:GS}{qual:Str}{scope:Scope}{f:Addr}{cdv:Value}{g:Heap}{L':Addr}{x t:Addr}{vs:List Value}{h:Heap}{e:Value}
theorem f5 (K:aW C){env:PySem.Env}(hA:A'.frames=some (fe::C.outer))(hB:Below A' C.base (fe::C.outer) g)(st:C.g.StaysIn g)(hk:env.scope.kind= .function)(uy:env.globals=mainGlobals)(Fe:env.builtins=builtinsNs)(hfr:env.frame=some env.locals)
  (hu:A'.units+3+64<cLine):aW (C.cf A' fe env g keep fz αs):=
 ⟨hB,λZ=>⟨Around.frames_deeper hA,hfr⟩,hk,uy,Fe,K.AN.keeps st,K.fh.keeps st,K.qj.keeps st,hu,by obtain ⟨o,ho⟩:=Option.isSome_iff_exists.mp K.vw;exact Option.isSome_iff_exists.mpr ⟨o,st _ _ ho⟩,λZ h=>h⟩
theorem Ah {r:aJ}(h:aN (aL γ1 r)):aN (γ1.mu++(r++γ1.fz)):=aN.sub ((List.sublist_append_right _ _).trans (List.sublist_append_right _ _)) h
theorem lW {env:PySem.Env}{v:V}{u:Value}(W:HU C fe A' γ oL m keep g)
  (back: ∀r σ' αs' fz' mu' s',dE γ.fz γ.αs fz' αs'→Gd C fe.locals oL (keep++r) σ' αs' fz' mu' s'→FS (C.aS r) ρ σ' {γ with αs:=αs',fz:=fz',mu:=mu'} s')
  (hx:dE γ.fz γ.αs γ1.fz γ1.αs) (F:FS (C.cf A' fe env g keep fz αs) ρ1 σ1 γ1 s') (hr:aU C.D γ1.fz γ1.αs v u):LeaveK C.g fe.locals m g (jT C ρ γ (.ok v σ1)) u s':=
 ⟨env.locals,γ1.m,γ1.mu++((keep++C.rest)++γ1.fz),F.fr,bw F.nw λp hp=>WB _ (WB _ hp),λF' N'=>
  .ok (γ':={γ with αs:=γ1.αs,fz:=γ1.fz,mu:=γ1.mu}) ⟨rfl,rfl,hx⟩ (back C.rest σ1 γ1.αs γ1.fz γ1.mu s' hx ⟨F.fr.keep _ _ W.hg,λb o e=>F.fr.keep _ _ (W.st _ _ e),N',Ah F.ds,F.mu,F.ge,F.os⟩) hr⟩
theorem hV (W:HU C fe A' γ oL m keep g)(F0:FS C ρ σ γ s)(hx:dE γ.fz γ.αs γ1.fz γ1.αs)(ds:aN (aL γ1 (keep++C.rest)))(mu:bX C.D γ1.fz γ1.αs σ1 γ1.αs γ1.mu)(ge:s'.gens=C.gens)(os:s'.os=C.os)
  {h':Heap} (r:RaisedK C.base (fe::C.outer) x (.ref C.D.ps) t vs (aL γ1 (keep++C.rest)) h') (u:g.UpToSlots h') (f2:F2 x h'):jT C ρ γ (.ba σ1) (.error (.ref x)) {s' with heap:=h'}:=by
 refine .ba ?_;cases hc:C.comp with
 |true=>exact .comp hc
 |false=>
  obtain ⟨h1,h2⟩:=W.hm hc;have hn:=W.hn;subst h1 h2;have hfe:=W.N.eq hc;subst hfe;have p:(aL {γ with αs:=γ1.αs,fz:=γ1.fz,mu:=γ1.mu} C.rest).Perm (γ1.mu++(((γ.aG++γ.own)++C.rest)++γ1.fz)):=HH;have sb:List.Sublist (γ1.mu++(((γ.aG++γ.own)++C.rest)++γ1.fz)) (aL γ1 ((γ.aG++γ.own)++C.rest)):=(List.sublist_append_right _ _).trans (List.sublist_append_right _ _);exact .at (γ:={γ with αs:=γ1.αs,fz:=γ1.fz,mu:=γ1.mu}) ⟨⟨hn.ns W.hg,λb o e=>W.st _ _ e,W.N.ab⟩,u,.zp (by obtain ⟨⟨B,a,b,c⟩,d⟩:=r;exact ⟨⟨B,a,λz hz=>b z (sb.mem (p.mem_iff.mp hz)),c⟩,d⟩),(aN.sub sb ds).dA p.symm,F0.ow.aw hx,mu,ge,os,F0.x0.trans hx,f2⟩
theorem qR (W:HU C fe A' γ oL m keep g)(F0:FS C ρ σ γ s)(hx0:dE γ.fz γ.αs fz αs)(R:b7 (C.cf A' fe (envOfC qual scope L' f cdv) g keep fz αs) ρ1 σ1 e s'):
  wpAny (aC C) (A'.deeper (envOfC qual scope L' f cdv)) (leaving (envOfC qual scope L' f cdv) e) (λZ s''=>jT C ρ γ (.ba σ1) (.error e) s'') (λe' s''=>jT C ρ γ (.ba σ1) (.error e') s'') s':=by
 cases R with
 |comp h=>exact bK h
 | @«at» γ1 x t vs gh _ R=>
  have gu:g.UpToSlots s'.heap:=(Heap.UpToSlots.of_keeps R.fr.keep).trans R.up;cases R.ra with
  |zp r=>
   obtain ⟨⟨B,hB',hl,hfl,hnew⟩,htup⟩:=r;exact rq (Around.frames_deeper W.hB.stack) rfl hfl R.f2 λh' x1 x2 x3=>hV W F0 (hx0.trans R.x0) R.ds R.mu R.ge R.os ⟨⟨B,hB',hl,x1,hnew⟩,htup.of_slots x2⟩ (gu.trans x2) x3
  |lH hB' hl hh hn' ht=>
   unfold leaving;refine wpAny_bind (wpAny_noteFrame_againW rfl hh.2.2.2 ?_);exact ei hh.1 hh.2.1 hh.2.2.1 hh.2.2.2 R.f2 λh' ⟨k1,k2,⟨_,_,k3⟩,k4⟩ u f2=>hV W F0 (hx0.trans R.x0) R.ds R.mu R.ge R.os ⟨⟨_,hB',hl,⟨k1,k2,k3,k4⟩,hn'⟩,ht.of_slots u⟩ (gu.trans u) f2
theorem mj {as:List Addr}{b:Addr}(hb:h.get? b=none):(hideAll h as).get? b=none:=by
 refine ax (x:=(hideAll h as).get? b) id λo q=> ?_;have:=of_hideAll _ q;rw [hb] at this;exact ig this
theorem ui (W:HU C fe A' γ oL m keep g)(F0:FS C ρ σ γ s)(hk:scope.kind= .function)(hx0:dE γ.fz γ.αs fz αs)(R:qI (C.cf A' fe (envOfC qual scope L' f cdv) g keep fz αs) ρ1 σ1 γ1 x t vs h s'):
  wpAny (aC C) (A'.deeper (envOfC qual scope L' f cdv)) (leaving (envOfC qual scope L' f cdv) (.ref x)) (λZ s''=>jT C ρ γ (.ba σ1) (.error (.ref x)) s'') (λe' s''=>jT C ρ γ (.ba σ1) (.error e') s'') s':=by
 obtain ⟨⟨F,nw,ds,ow,mu,ge,os,x0⟩,kp,nx,nt,⟨od,ob⟩,tp⟩:=R;have hB:=W.hB;have K':=pushX (env:=envOfC qual scope L' f cdv) hB F rfl hk;have hin: ∀env∈((envOfC qual scope L' f cdv)::fe::C.outer),∀b,env.frame=some b→b∈((envOfC qual scope L' f cdv)::fe::C.outer).filterMap (·.frame):=λenv he b hb=>List.mem_filterMap.mpr ⟨env,he,hb⟩;have jQ:C.base.StaysIn (hideAll h (((envOfC qual scope L' f cdv)::fe::C.outer).filterMap (·.frame))):=λb o q=>hideAll_get _ (K'.stays b o q) λhm'=>by
  rw [(K'.frames.mem hm').1] at q;exact ig q
 have hl: ∀q∈aL γ1 (keep++C.rest),(hideAll h (((envOfC qual scope L' f cdv)::fe::C.outer).filterMap (·.frame))).get? q.1=some q.2∧C.base.get? q.1=none:=λq hq=>by
  refine ⟨hideAll_get _ (nw q hq).1 λhm'=> ?_,fresh_of_stays hB.stays (nw q hq).2.2⟩;obtain ⟨env,he,hf⟩:=List.mem_filterMap.mp hm';cases Wv he with
  |inl eM=>subst eM;exact (nw q hq).2.1 (cH hf).symm
  |inr he=>
   obtain ⟨o,ho,_⟩:=(hB.frames.mem (List.mem_filterMap.mpr ⟨env,he,hf⟩)).2;rw [(nw q hq).2.2] at ho;exact ig ho
 unfold leaving;refine wpAny_bind ?_;unfold noteFrame;show wpAny _ _ (field (.ref x) 1>>=_) _ _ _;refine wpAny_bind (wpAny_field ob rfl rfl ?_);refine aa (WG (by simp)) ?_;refine wM (a0:= .ref t) (base:=hideAll h _) (Around.frames_deeper hB.stack) ((funFrames_hide K'.frames hin).of_keeps λb o hb Z=>⟨o,kp b o hb,rfl⟩) rfl ob (λb o hb=>kp b o (of_hideAll _ hb)) (mj nx) rfl (by simp) rfl rfl λh1 ⟨k1,k2,k3,k4⟩ u f=> ?_;exact ei k1 k2 k3 k4 f λh2 ⟨j1,j2,⟨_,_,j3⟩,j4⟩ u2 f'=>
  hV W F0 (hx0.trans x0) ds mu ge os ⟨⟨_,jQ,hl,⟨j1,j2,j3,j4⟩,mj nt⟩,tp.of_slots (u.trans u2)⟩ ((Heap.UpToSlots.of_keeps F.keep).trans ((Heap.UpToSlots.of_keeps kp).trans (u.trans u2))) f'
end
theorem gZ {ps:List N}: ∀{l:List V} {ρ:ao},jm ps l=some ρ→l.length=ps.length∧ ∀x,x∉ps→cu ρ x=none:=by
 induction ps with
 |nil=>
  intro l ρ e;cases l with
  |nil=>obtain rfl:=cH e;exact ⟨rfl,λZ Z=>rfl⟩
  |cons _ _=>exact no e
 |cons y ps ih=>
  intro l ρ e;cases l with
  |nil=>exact no e
  |cons v l=>
   refine cG e λρ1 hb e=> ?_;subst e;obtain ⟨h1,h2⟩:=ih hb;exact ⟨WJ (·+1) h1,λx hx=>(bE λq:y=x=>hx (q▸ .head _)).trans (h2 x λq=>hx (.tail _ q))⟩
theorem ik {D:Wd}{env:PySem.Env}{X:N→Bool}{m:Str→Option Value}{aG fz:aJ}{αs:List Addr}(hc:eE env aG){ps:List N}: ∀{l:List V} {us:List Value} {ρ:ao},jm ps l=some ρ→ps.Nodup→aH D fz αs l us→
  (∀x u,(x,u)∈ps.zip us→bP env m aG x=some u)→dZ D env X m aG fz αs ρ []:=by
 induction ps with
 |nil=>
  intro l us ρ e _ _ _;cases l with
  |nil=>obtain rfl:=cH e;exact .nil hc
  |cons _ _=>exact no e
 |cons y ps ih=>
  intro l us ρ e hn hr h
  induction hr with
  |nil=>exact no e
  |cons r1 r2=>
   refine cG e λρ1 hb e=> ?_;subst e;obtain ⟨h1,h2⟩:=List.nodup_cons.mp hn;exact .val ((gZ hb).2 y h1) (λZ=>h y _ (.head _)) r1 (ih hb h2 r2 λx u hm=>h x u (.tail _ hm))
theorem ud {k:Str→Option NameKind}{n:Str}{b:List (Str×Value)}: ∀{m:Str→Option Value},n∉b.map (·.1)→bindL k b m n=m n:=by
 induction b with
 |nil=>exact λZ=>rfl
 |cons p r ih=>
  intro m h;rw [bindL];refine aa (ih λq=>h (.tail _ q)) ?_;by_cases q:k p.1=some .local
  ·exact aa (WE q) (WG λq:n=p.1=>h (q▸ .head _))
  ·exact aa (WG q) rfl
theorem ub {k:Str→Option NameKind}{n:Str}{b:List (Str×Value)}: ∀{m:Str→Option Value},n∉b.map (·.1)→bindC k b m n=m n:=by
 induction b with
 |nil=>exact λZ=>rfl
 |cons p r ih=>
  intro m h;rw [bindC];refine aa (ih λq=>h (.tail _ q)) ?_;by_cases q:k p.1=some .local
  ·exact aa (WE q) rfl
  ·exact aa (WG q) (WG λq:n=p.1=>h (q▸ .head _))
theorem uc {k:Str→Option NameKind}{n:Str}{v:Value}(hk:k n=some .local){b:List (Str×Value)}: ∀{m:Str→Option Value},(b.map (·.1)).Nodup→(n,v)∈b→bindL k b m n=some v:=by
 induction b with
 |nil=>exact λZ h=>nomatch h
 |cons p r ih=>
  intro m hn h;obtain ⟨h1,h2⟩:=List.nodup_cons.mp hn;cases Wv h with
  |inl eM=>subst eM;rw [bindL,ud h1,WE hk,WE rfl]
  |inr h=>rw [bindL];exact ih h2 h
theorem ua {k:Str→Option NameKind}{n:Str}{v:Value}(hk:k n≠some .local){b:List (Str×Value)}: ∀{m:Str→Option Value},(b.map (·.1)).Nodup→(n,v)∈b→bindC k b m n=some v:=by
 induction b with
 |nil=>exact λZ h=>nomatch h
 |cons p r ih=>
  intro m hn h;obtain ⟨h1,h2⟩:=List.nodup_cons.mp hn;cases Wv h with
  |inl eM=>subst eM;rw [bindC,ub h1,WG hk,WE rfl]
  |inr h=>rw [bindC];exact ih h2 h
theorem cX {cm:Str→Option Value}{cs:List (Str×Addr)}{cells:aJ}(h:CellsAre cm cs cells): ∀p∈cs,∃o,(p.2,o)∈cells∧o.data= .cell (cm p.1):=by
 induction h with
 |nil=>exact λp h=>nomatch h
 |cons hd _ ih=>exact List.forall_mem_cons.mpr ⟨⟨_,.head _,hd⟩,λp h=>by obtain ⟨o,h1,h2⟩:=ih p h;exact ⟨o,.tail _ h1,h2⟩⟩
theorem mf {a:Addr}{o:Obj}{pre post:aJ}(h:aN (pre++(a,o)::post)):(pre++(a,o)::post).lookup a=some o:=by
 induction pre with
 |nil=>exact List.lookup_cons_self
 |cons p pre ih=>
  have ne:a≠p.1:=λq=>h.sW (a,o) (WB _ (.head _)) q;show (match a==p.1 with
   |true=>some p.2
   |false=>(pre++(a,o)::post).lookup a)=some o
  exact aa (beq_eq_false_iff_ne.mpr ne) (ih (aN.sub (List.sublist_cons_self _ _) h))
theorem fB {env:PySem.Env}{cells:aJ}{b:List (Str×Value)}{x:N}{u:Value}(hc:CellsAre (bindC env.kindOf b λZ=>none) env.cells cells)(hd:aN cells)(hn:(b.map (·.1)).Nodup)(hm:(nm x,u)∈b)
  (hk:env.kindOf (nm x)=some .local∨(env.kindOf (nm x)=some .cell∧(env.cells.lookup (nm x)).isSome=true)):bP env (bindL env.kindOf b λZ=>none) cells x=some u:=by
 unfold bP;cases hk with
 |inl hk=>exact aa hk (uc hk hn hm)
 |inr h=>
  obtain ⟨hk,hs⟩:=h;refine aa hk ?_;obtain ⟨c,hl⟩:=Option.isSome_iff_exists.mp hs;obtain ⟨o,h1,h2⟩:=cX hc _ (dy hl);obtain ⟨pre,post,e⟩:=List.append_of_mem h1;show fX env cells x=_;unfold fX;refine aa hl ?_;show (cells.lookup c).bind _=_;refine aa e (aa (mf (e▸hd)) ?_);show (match o.data with
   | .cell v=>v
   |_=>none)=_
  exact aa h2 (ua (by rw [hk];exact λz=>nomatch z) hn hm)
theorem kx {α:Type}(d:α){l:List α}{n:Nat}(h:l.length=n): ∃f:Nat→α,l=(List.range n).map f:=
 ⟨λi=>l.getD i d,List.ext_getElem (by exact aa (Wq ..) (aa List.length_range (aa h rfl))) λi h1 h2=>by exact aa (List.getElem_map ..) (aa (List.getElem_range ..) (aa (List.getD_eq_getElem?_getD) (aa (List.getElem?_eq_getElem h1) rfl)))⟩
theorem lu.fe {D:Wd}{a:Addr}{ps:List N}{df:List V}{ks:List (Str×NameKind)}{body:List Stmt}{fd:FuncData}(FN:lu D a ps df ks body fd):fd=fnX fd.name fd.qualname fd.params body fd.scope [] fd.defaults fd.kwdefaults fd.doc fd.pyModule fd.annotations fd.code fd.closureTuple:=by
 show (⟨_,_,_,fd.body,_,fd.globals,fd.closure,_,_,_,_,_,_,_,fd.builtins⟩:FuncData)=_;exact aa FN.Q6 (aa FN.gl (aa FN.bu (aa FN.cl rfl)))
section
variable {C:Cx}{fe:PySem.Env}{σ:St}{s:Shared}{ρ:ao}{γ:GS}{a:Addr}{ps:List N}{df:List V}{ks:List (Str×NameKind)}{body:List Stmt}{l:List V}{ρ0:ao}{o:SO}{r:qw}
set_option tactic.hygienic true in
set_option backward.match.sparseCases true in
theorem oQ (K:aW C)(Nc:cV C fe)(FN:lu C.D a ps df ks body fd)(hA:A'.frames=some (fe::C.outer))(hdep:A'.depth+1≤960)(hun:A'.units+3+100<cLine)(F:FS C ρ σ γ s)(hr:aH C.D γ.fz γ.αs l us)
  (hb:jm ps (l++df.drop (df.length+l.length - ps.length))=some ρ0) (ho:o.Qz=some r)
  (h: ∀g L' γ0 keep s0,aW (C.cf A' fe (envOfC fd.qualname fd.scope L' a fd.code) g keep γ.fz γ.αs)→cV (C.cf A' fe (envOfC fd.qualname fd.scope L' a fd.code) g keep γ.fz γ.αs) (envOfC fd.qualname fd.scope L' a fd.code)→FS (C.cf A' fe (envOfC fd.qualname fd.scope L' a fd.code) g keep γ.fz γ.αs) ρ0 σ γ0 s0→
   wpAny (aC C) (A'.deeper (envOfC fd.qualname fd.scope L' a fd.code)) (PySem.execs body (envOfC fd.qualname fd.scope L' a fd.code)) (aQ (C.cf A' fe (envOfC fd.qualname fd.scope L' a fd.code) g keep γ.fz γ.αs) γ0 o)
    (λe s'=>iW (C.cf A' fe (envOfC fd.qualname fd.scope L' a fd.code) g keep γ.fz γ.αs) o e s'∨rL (C.cf A' fe (envOfC fd.qualname fd.scope L' a fd.code) g keep γ.fz γ.αs) o e s') s0):
  codeAny (aC C) A' (.call (.ref a) ⟨us,[]⟩) (jT C ρ γ r) s:=by
 obtain ⟨fo,hfo,hfd⟩:=FN.obj;obtain ⟨hn,G,hm,hback⟩:=F.q7 Nc;rename_i oL m keep;have hIn:C.D.K.In s.heap:=K.fh.keeps F.fr.keep;obtain ⟨hlen,_⟩:=gZ hb;have hus:=hr.len;obtain ⟨ds,hds,hbi⟩:=FN.bind s us hIn (by exact fF hus (fF Wo hlen));have hr':=hr.eU (hus▸hds γ.fz γ.αs);revert hbi hr';generalize us++ds=us';intro hbi hr';have hz:((ps.map nm).zip us').map (·.1)=ps.map nm:=List.map_fst_zip (by exact fF hr'.len (aa hlen (aa (Wq ..) (Nat.le_refl _))));have hkinds:=kindsX (scope:=fd.scope) (binds:=(ps.map nm).zip us') (List.all_eq_true.mpr λy hy=>Wu FN.sH y.1 (hz▸List.mem_map_of_mem hy));refine wt K hA Nc hn G (hIn _ _ hfo) (FN.fe▸hfd) (codeRec_of hIn FN.code) (Nat.lt_of_lt_of_le hdep (by decide)) (FN.fe▸hbi) hkinds FN.L5 (λg L' h₁ tk cells hg st hB F' N' Y dC=> ?_) FN.co FN.aB FN.kind;have hcok:eE (envOfC fd.qualname fd.scope L' a fd.code) cells:=⟨λp hp=>by obtain ⟨o,h1,h2⟩:=cX Y p hp;exact ⟨o,_,h1,h2⟩,λL hL hne=>WK (cH hL).symm hne⟩;have W:HU C fe A' γ oL m keep g:=⟨Nc,hn,hg,st,hB,hm⟩;have FC:FS (C.cf A' fe (envOfC fd.qualname fd.scope L' a fd.code) g keep γ.fz γ.αs) ρ0 σ {m:=bindL (envOfC fd.qualname fd.scope L' a fd.code).kindOf ((ps.map nm).zip us') λZ=>none,aG:=cells,αs:=γ.αs,fz:=γ.fz,own:=[],mu:=γ.mu} {s with heap:=h₁,toks:=tk}:=by
  refine ⟨F',N',dC,ik hcok hb ((List.pairwise_map.mp FN.nd).imp λh e=>h (WJ _ e)) hr' (λx u hm=> ?_),G.mu,G.ge,G.os,.refl⟩;have hm':(nm x,u)∈(ps.map nm).zip us':=List.zip_map_left .. ▸List.mem_map.mpr ⟨_,hm,rfl⟩;exact fB Y (aN.sub (List.sublist_append_left _ _) dC) (by exact aa hz FN.nd) hm' (hkinds (L'+1) (nm x,u) hm')
 have go:=h g L' _ keep _ (f5 K hA hB st FN.kind rfl rfl rfl (WD (Nat.add_le_add_left (by decide) _) hun)) ⟨Around.frames_deeper hA,rfl,rfl,FN.kind,F'.above,λZ=>rfl⟩ FC;refine wpAny_mono go (λfl s' q=> ?_) λe s' q=> ?_
 ·induction q with
  |next q=>obtain rfl:=cH ho;obtain ⟨x,F1⟩:=q;exact lW W hback x F1 .none
  |ret x F1 r1=>obtain rfl:=cH ho;exact lW W hback x F1 r1
  |brk _=>exact ig ho
  |ew _=>exact ig ho
 ·cases q with
  |inl q=>induction q with
   |ba R=>obtain rfl:=cH ho;exact qR W F .refl R
  |inr q=>induction q with
   |mk R=>obtain rfl:=cH ho;exact ui W F FN.kind .refl R
end
theorem pN {n:Str}{h:Int}{k v:Value}{es:List DictEntry}:(PySem.W.putL n h k v es).length≤es.length+1:=by
 induction es with
 |nil=>exact Nat.le_refl _
 |cons e r ih=>
  rw [PySem.W.putL];cases e.key.isStr n with
  |true=>exact Nat.le_succ _
  |false=>exact Nat.succ_le_succ ih
theorem yk {l:List (N×V)}{k:N}{v:V}:(jA l k v).length≤l.length+1:=by
 induction l with
 |nil=>exact Nat.le_refl _
 |cons p r ih=>
  rw [jA];by_cases q:p.1=k
  ·exact aa (WE q) (Nat.le_succ _)
  ·exact aa (WG q) (Nat.succ_le_succ ih)
section
variable {C:Cx}{c n:N}{ρ:ao}{σ:St}{γ:GS}{s:Shared}{a x d:Addr}{es:List DictEntry}{en:Nat}{l:List (N×V)}{v:V}{u:Value}{E:Value→Shared→Prop}
theorem nY (K:aW C)(G:jj C.D c n)(F:FS C ρ σ γ s)(h1:s.heap.get? a=some (instObj (C.D.ca c) d))(h2:s.heap.get? d=some (dictOf es en))(r:dH C.D γ.fz γ.αs l es)(hv:aU C.D γ.fz γ.αs v u)(hn:l.length<500){nl:Obj→aJ}(U: ∀o,Upd d (dictOf es en) o (aL γ C.rest) (nl o)){Q:Unit→Shared→Prop}
  (h: ∀es' en' h',dH C.D γ.fz γ.αs (jA l n v) es'→Fr C.g C.L h' γ.m→News C.g C.L h' (nl (dictOf es' en'))→Q () {s with heap:=h',toks:=s.toks+2}):wpAny (aC C) A (setAttr (.ref a) (nm n) u) Q E s:=by
 refine set_dict (ox:=instObj (C.D.ca c) d) F.fr K.fh F.nw ⟨h1,rfl,rfl,h2⟩ rfl G.set G.Ou G.Sk G.dict (mw r) rfl (U _) (Nat.le_trans pN ?_) λh' F' N'=>h _ _ h' (pR hv r) F' N';exact fF r.len (Nat.le_trans hn (by decide))
theorem Be (K:aW C)(KO: ∀c n,hZ c n=true→jj C.D c n){k:Nat}{p:N×List (N×V)}(F:FS C ρ σ γ s){w:Value}(hr:aU C.D γ.fz γ.αs (.obj k) w)(hv:aU C.D γ.fz γ.αs v u)(hl:fL σ k=some p)
  (ha:hZ p.1 n=true) (hn:p.2.length<500) {Q:Unit→Shared→Prop} (h: ∀γ' s',dE γ.fz γ.αs γ'.fz γ'.αs→FS C ρ (gX σ k (.ins p.1 (jA p.2 n v))) γ' s'→Q () s'):wpAny (aC C) A (setAttr w (nm n) u) Q E s:=
 F.ins hr hl λa d es en pre post hu g3 r wk=>by
  subst hu;have g4:γ.mu=(pre++[(a,instObj (C.D.ca p.1) d)])++(d,dictOf es en)::post:=by exact aa g3 (aa (Wn ..) rfl)
  refine nY K (KO _ _ ha) F (F.eZ (g3▸iK)) (F.eZ (g4▸iK)) r hv hn (λo=>F.Oj g4) λes' en' h' r' F' N'=> ?_;refine h {γ with mu:=(pre++[(a,instObj (C.D.ca p.1) d)])++(d,dictOf es' en')::post} {s with heap:=h',toks:=s.toks+2} .refl (F.Mh g4 ?_ F' N');exact aa (Wn ..) (wk _ _ (.ins r'))
noncomputable abbrev dO (D:Wd)(c:N)(x d:Addr)(es:List DictEntry)(en:Nat):aJ:=[(x,instObj (D.ca c) d),(d,dictOf es en)]
theorem jK {keep R0:aJ}{p:Addr×Obj}{o:Obj}:aL γ (keep++(p::(d,o)::R0))=(γ.aG++(γ.own++(γ.mu++(keep++[p]))))++(d,o)::(R0++γ.fz):=by
 show γ.aG++(γ.own++(γ.mu++((keep++(p::(d,o)::R0))++γ.fz)))=_;rw [Wn γ.aG,Wn γ.own,Wn γ.mu,Wn keep,Wn keep];rfl
theorem pK {keep R0:aJ}(K:aW C)(G:jj C.D c n)(F:FS (C.aS (keep++(dO C.D c x d es en++R0))) ρ σ γ s)(r:dH C.D γ.fz γ.αs l es)(hv:aU C.D γ.fz γ.αs v u)(hn:l.length<500){Q:Unit→Shared→Prop}
  (h: ∀es' en' s',FS (C.aS (keep++(dO C.D c x d es' en'++R0))) ρ σ γ s'→dH C.D γ.fz γ.αs (jA l n v) es'→Q () s'):wpAny (aC C) A (setAttr (.ref x) (nm n) u) Q E s:=by
 have ds:aN _:=jK▸F.ds;refine nY (C:=C.aS (keep++(dO C.D c x d es en++R0))) K.aS G F (F.fb (WB _ (.head _))) (F.fb (WB _ (.tail _ (.head _)))) r hv hn (nl:=λo=>aL γ (keep++((x,instObj (C.D.ca c) d)::(d,o)::R0))) (λo=> ?_) λes' en' h' r' F' N'=>h es' en' {s with heap:=h',toks:=s.toks+2} ⟨F',N',?_,F.ow,F.mu,F.ge,F.os,F.x0⟩ r'
 ·rewrite [jK,show aL γ (C.aS (keep++(dO C.D c x d es en++R0))).rest=_ from jK];exact oj ds
 ·show aN (aL γ (keep++((x,instObj (C.D.ca c) d)::(d,dictOf es' en')::R0)));exact aa jK ds.set
noncomputable def sm (ρ:ao):List (N×N)→List (N×V)→Option (List (N×V))
 |[],at'=>some at'
 |p::r,at'=>(if p.2=0 then some (.int 0) else Cu ρ p.2).bind λv=>sm ρ r (jA at' p.1 v)
theorem mJ {x:N}{v:V}(h:Cu ρ x=some v):cu ρ x=some (.val v):=by
 unfold Cu at h;revert h;cases cu ρ x with
 |none=>exact no
 |some w=>cases w with
  |val w=>exact λh=>WJ (λw=>some (LV.val w)) (cH h)
  |own _=>exact no
theorem uB {keep R0:aJ}{Q:Flow→Shared→Prop}(K:aW C)(KO: ∀c n,hZ c n=true→jj C.D c n)(hX: ∀y,C.X y=jP y)(hl:bP C.env γ.m γ.aG SN=some (.ref x)){it:List (N×N)}{body:List Stmt}(hb:o7 it body): ∀{at' bM:List (N×V)} {es:List DictEntry} {en:Nat} {s:Shared},sm ρ it at'=some bM→
  (it.all λk=>hZ c k.1&&(jP k.2||decide (k.2=0)))=true→at'.length+it.length<400→FS (C.aS (keep++(dO C.D c x d es en++R0))) ρ σ γ s→dH C.D γ.fz γ.αs at' es→
  (∀es' en' s',FS (C.aS (keep++(dO C.D c x d es' en'++R0))) ρ σ γ s'→dH C.D γ.fz γ.αs bM es'→Q .next s')→wpAny (aC C) C.A (PySem.execs body C.env) Q E s:=by
 induction hb with
 |nil=>exact λhv Z Z F hA h=>by obtain rfl:=cH hv;exact wpAny_execs_nil (h _ _ _ F hA)
 | @cons p st it body hp _ ih=>
  intro at' bM es en s hv hk hn F hA h;refine ay hk λhk0 hk=>ay hk0 λha hy=>aR hv λv ev hv=> ?_;have fin: ∀{ps pn q:Pos} {ve:Expr},(∀env,swapsWith ve (some (.Attribute (.Name (nm SN) ps) (nm p.1) pn)) q.line env=pure false)→wpAny (aC C) C.A (eval ve C.env) (λu s'=>FS (C.aS (keep++(dO C.D c x d es en++R0))) ρ σ γ s'∧aU C.D γ.fz γ.αs v u) E s→
    wpAny (aC C) C.A (PySem.execs (.Assign [.Attribute (.Name (nm SN) ps) (nm p.1) pn] ve q::body) C.env) Q E s:=λhsw he=>by
   refine wpAny_execs_cons (plainObj_wpAny_Assign_Attribute (wpAny_mono he (λu s1 ⟨F1,hu⟩=>gy (C:=C.aS (keep++(dO C.D c x d es en++R0))) K.aS F1 (by decide+kernel) hl (pK K (KO _ _ ha) F1 hA hu (WD (Nat.le_add_right ..) (Nat.lt_of_lt_of_le hn (by decide))) λes' en' s2 F2 hA2=> ?_)) λZ Z q=>q) (hsw _));exact ih hv hk (WD (Nat.le_trans (Nat.add_le_add_right yk _) (Nat.le_of_eq (by refine aa List.length_cons ?_;simp+arith))) hn) F2 hA2 h
  obtain ⟨ve,p1,p2,p3,e,hq⟩:=hp;subst e;by_cases z:p.2=0
  ·rw [WE z] at hq ev;obtain ⟨k,p4,e⟩:=hq;subst e;obtain rfl:=cH ev;exact fin (λZ=>rfl) (wpAny_Constant_int ⟨F.same,.int _ _⟩)
  ·rw [WG z] at hq ev;obtain ⟨p4,e⟩:=hq;subst e;have hy:jP p.2=true:=(Wt hy).elim id λq=>WK (Wy q) z;obtain ⟨u,g1,g2⟩:=F.ow.As (mJ ev) ((hX _).trans hy);exact fin (λZ=>rfl) (gy (C:=C.aS (keep++(dO C.D c x d es en++R0))) K.aS F hy g1 ⟨F,g2⟩)
end
inductive qH (C:Cx)(γ:GS)(ρ:ao)(σ:St)(c:N)(l:List V)(u:Value)(s:Shared):Prop
 |mk {x d es en ns} (hu:u= .ref x) (F:FS (C.aS (dO C.D c x d es en++C.rest)) ρ σ γ s) (hc:gP c=some ns) (r:dH C.D γ.fz γ.αs (ns.zip l) es):qH C γ ρ σ c l u s
noncomputable abbrev nJ (it:List (N×N)):List N:=(it.map (·.2)).filter λy=>decide (y≠0)
section
variable {sx:Sx}{C:Cx}{fe:PySem.Env}{c:N}{l l' vs:List V}{v:V}{u:Value}{ρ ρ1:ao}{σ:St}{γ:GS}{s:Shared}{ns:List N}{fI:Addr}{it:List (N×N)}{ks:List (Str×NameKind)}{body:List Stmt}{fs:List aD}
theorem FS.Cr {x dx:Addr}{h':Heap}{o1 o2:Obj}(F:FS C ρ σ γ s)(F':Fr C.g C.L h' γ.m)(N':News C.g C.L h' ((x,o1)::(dx,o2)::aL γ C.rest))(hlt: ∀p∈aL γ C.rest,p.1<dx)(hx:dx<x):FS (C.aS ((x,o1)::(dx,o2)::C.rest)) ρ σ γ {s with heap:=h'}:=by
 have q:((dx,o2)::aL γ C.rest).Perm (aL γ ((dx,o2)::C.rest)):=Mine.push (Mine.push (Mine.push (.refl _)));have a1:=FS.alloc (s':={s with heap:=h'}) F F' (λp hp=>N' p (.tail _ hp)) λp hp=>Nat.ne_of_lt (hlt p hp);refine FS.alloc (s':={s with heap:=h'}) a1 F' (List.forall_mem_cons.mpr ⟨N' _ (.head _),λp hp=>N' _ (.tail _ (q.mem_iff.mpr hp))⟩) λp hp=> ?_;cases Wv (q.mem_iff.mpr hp) with
 |inl eM=>subst eM;exact Nat.ne_of_lt hx
 |inr hp=>exact Nat.ne_of_lt (Nat.lt_trans (hlt p hp) hx)
theorem A3 (K:aW C)(X:CH C.D c)(hc:gP c=some [])(F:FS C ρ σ γ s):wpAny (aC C) C.A (call (.ref (C.D.ca c)) []) (qH C γ ρ σ c []) (λZ Z=>False) s:=
 wpAny_call (make_K0 F.fr F.nw (K.fh.keeps F.fr.keep) X.Mg X.fi λx dx h' F' N' hlt hx=> .mk rfl (F.Cr F' N' hlt hx) hc .nil)
theorem kT {A:Around}{Ca:Addr}{r:List Value}:(A.under (.builtin "type.__call__" ⟨.ref Ca::r,[]⟩)).depth=A.depth+1∧(A.under (.builtin "type.__call__" ⟨.ref Ca::r,[]⟩)).units=A.units+1∧(A.under (.builtin "type.__call__" ⟨.ref Ca::r,[]⟩)).frames=A.frames:=by
 refine ⟨WJ (A.depth+·) (by kernel_rfl),WJ (A.units+·) (by kernel_rfl),?_⟩;show pushEnvs (Code.builtin "type.__call__" ⟨.ref Ca::r,[]⟩).envs A.frames=_;exact aa (show (Code.builtin "type.__call__" ⟨.ref Ca::r,[]⟩).envs=[] by kernel_rfl) rfl
set_option tactic.hygienic true in
set_option backward.match.sparseCases true in
theorem A1 (K:aW C)(KO: ∀c n,hZ c n=true→jj C.D c n)(Nc:cV C fe)(X:vM C.D c it ks body fI fd)(hd:C.A.depth≤960)(hu:C.A.units+100<cLine)(F:FS C ρ σ γ s)(hr:aH C.D γ.fz γ.αs l us)(hb:jm (nJ it) l=some ρ1)(hv:sm ρ1 it []=some ((it.map (·.1)).zip l'))
  (hk:(it.all λk=>hZ c k.1&&(jP k.2||decide (k.2=0)))=true) (hn:it.length<400):wpAny (aC C) C.A (call (.ref (C.D.ca c)) us) (qH C γ ρ σ c l') (λZ Z=>False) s:=by
 refine wpAny_call (make_K F.fr F.nw (K.fh.keeps F.fr.keep) X.Oi.Mg X.Oi.fi X.Oi.ty λx dx h' F' N' hlt hx=> ?_);have F2:=F.Cr F' N' hlt hx;have FN:=X.fn;obtain ⟨fo,hfo,hfd⟩:=FN.obj;obtain ⟨hn',G,hm,hback⟩:=F2.q7 Nc.aS;rename_i oL m keep;have hIn:C.D.K.In h':=K.fh.keeps F2.fr.keep;have hlen:=(gZ hb).1;have hus:=hr.len;obtain ⟨ds,hds,hbi⟩:=FN.bind {s with heap:=h'} (.ref x::us) hIn (by exact aa List.drop_nil (aa List.length_cons (fF hus (aa hlen rfl))));have e0:ds=[]:=by
  have:=(hds [] []).len;rw [List.drop_nil] at this;exact List.length_eq_zero_iff.mp this.symm
 subst e0;rw [Wr] at hbi;have hz:(((SN::nJ it).map nm).zip (.ref x::us)).map (·.1)=(SN::nJ it).map nm:=List.map_fst_zip (by exact aa (Wq ..) (aa List.length_cons (aa List.length_cons (fF hus (aa hlen (Nat.le_refl _))))));have hkinds:=kindsX (scope:=fd.scope) (binds:=((SN::nJ it).map nm).zip (.ref x::us)) (List.all_eq_true.mpr λy hy=>Wu FN.sH y.1 (hz▸List.mem_map_of_mem hy));obtain ⟨t1,t2,t3⟩:=kT (A:=C.A) (Ca:=C.D.ca c) (r:=us);refine wt K (t3.trans Nc.fr) Nc hn' ⟨G.lo,G.kp,G.nw,G.ds,G.mu,G.ge,G.os⟩ (hIn _ _ hfo) (FN.fe▸hfd) (codeRec_of hIn FN.code) (by exact aa t1 (WD (Nat.succ_le_succ hd) (by decide))) (FN.fe▸hbi) hkinds FN.L5 (λg L' h₁ tk cells hg st hB F' N' Y dC=> ?_) FN.co FN.aB FN.kind;have hcok:eE (envOfC fd.qualname fd.scope L' fI fd.code) cells:=⟨λp hp=>by obtain ⟨o,h1,h2⟩:=cX Y p hp;exact ⟨o,_,h1,h2⟩,λL hL hne=>WK (cH hL).symm hne⟩;have lk: ∀y u,(nm y,u)∈((SN::nJ it).map nm).zip (.ref x::us)→bP (envOfC fd.qualname fd.scope L' fI fd.code) (bindL (envOfC fd.qualname fd.scope L' fI fd.code).kindOf (((SN::nJ it).map nm).zip (.ref x::us)) λZ=>none) cells y=some u:=λy u hm=>
  fB Y (aN.sub (List.sublist_append_left _ _) dC) (by exact aa hz FN.nd) hm (hkinds (L'+1) _ hm)
 have FC:FS ((C.cf (C.A.under (.builtin "type.__call__" ⟨.ref (C.D.ca c)::us,[]⟩)) fe (envOfC fd.qualname fd.scope L' fI fd.code) g [] γ.fz γ.αs).aS (keep++(dO C.D c x dx [] 0++C.rest))) ρ1 σ {m:=bindL (envOfC fd.qualname fd.scope L' fI fd.code).kindOf (((SN::nJ it).map nm).zip (.ref x::us)) λZ=>none,aG:=cells,αs:=γ.αs,fz:=γ.fz,own:=[],mu:=γ.mu} {s with heap:=h₁,toks:=tk}:=
  ⟨F',N',dC,ik hcok hb (((List.pairwise_map.mp FN.nd).imp (S:=λa b=>a≠b) λh e=>h (WJ _ e)).of_cons) hr λy u hm=>lk y u (.tail _ (show (nm y,u)∈((nJ it).map nm).zip us by exact aa List.zip_map_left (List.mem_map.mpr ⟨_,hm,rfl⟩))),G.mu,G.ge,G.os,.refl⟩
 have K':aW (C.cf (C.A.under (.builtin "type.__call__" ⟨.ref (C.D.ca c)::us,[]⟩)) fe (envOfC fd.qualname fd.scope L' fI fd.code) g [] γ.fz γ.αs):=f5 K (t3.trans Nc.fr) hB st FN.kind rfl rfl rfl (by exact aa t2 (lB hu));refine uB (keep:=keep) (R0:=C.rest) K' KO (λZ=>rfl) (lk _ _ (.head _)) X.st hv hk (by exact aa List.length_nil (aa (Nat.zero_add ..) hn)) FC .nil λes' en' s' F3 hA=> ?_;exact ⟨L',_,_,F3.fr,bw F3.nw λp hp=>WB _ hp,λFr' N''=>⟨rfl,.mk rfl (hback _ σ γ.αs γ.fz γ.mu s' .refl ⟨F3.fr.keep _ _ hg,λb o e=>F3.fr.keep _ _ (st _ _ e),N'',aN.sub (List.sublist_append_right _ _) F3.ds,F3.mu,F3.ge,F3.os⟩) X.gV hA⟩⟩
theorem uw: ∀p∈wR,p.2=[]∨(p.1=Ve∧p.2.length=6)∨(p.1=TK∧p.2.length=6)∨(p.1=UO∧p.2.length=4):=by decide+kernel
theorem nD (H:az C sx)(F:FS C ρ σ γ s)(hr:aH C.D γ.fz γ.αs vs us)(h1:bt Jq c=some it)(hb:jm (nJ it) vs=some ρ1)(hv:sm ρ1 it []=some ((it.map (·.1)).zip l'))(hk:(it.all λk=>hZ c k.1&&(jP k.2||decide (k.2=0)))=true)(hn:it.length<400):
  wpAny (aC C) C.A (call (.ref (C.D.ca c)) us) (qH C γ ρ σ c l') (λZ Z=>False) s:=by
 obtain ⟨fe,Nc⟩:=H.fe;obtain ⟨ks,body,fI,fd,X⟩:=H.H.CO.Rl _ _ h1;exact A1 H.K H.H.KO Nc X (Nat.le_trans (Nat.le_add_right ..) H.Ag) (WD (Nat.add_le_add_right (Nat.le_add_right ..) _) H.un) F hr hb hv hk hn
theorem sY (H:az C sx)(F:FS C ρ σ γ s)(hr:aH C.D γ.fz γ.αs vs us)(hi:sy c vs=some v): ∃l,v= .aO c l∧wpAny (aC C) C.A (call (.ref (C.D.ca c)) us) (qH C γ ρ σ c l) (λZ Z=>False) s:=
 aR hi λns hc hi=>by
  by_cases hN:c=Ve
  ·subst hN;rw [WE rfl] at hi;obtain ⟨hl,e⟩:=aM hi;refine ⟨_,e.symm,?_⟩;clear e;obtain ⟨f,e⟩:=kx .none hl;rw [e,show (List.range 5).map f=[f 0,f 1,f 2,f 3,f 4] from rfl] at hr⊢;exact nD (it:=pH) H F hr (by kernel_rfl) rfl (by kernel_rfl) (by decide+kernel) (by decide)
  rw [WG hN] at hi;obtain ⟨hl,e⟩:=aM hi;refine ⟨_,e.symm,?_⟩;clear e;obtain h|⟨h,_⟩|⟨h,h6⟩|⟨h,h6⟩:=uw _ (aZ hc)
  ·have h:ns=[]:=h;subst h
   induction hr with
   |nil=>exact A3 H.K (H.H.CO.RG c hc) hc F
   |cons _ _=>cases hl
  ·exact WK h hN
  ·have h:c=_:=h;have h6:ns.length=6:=h6;subst h;rw [h6] at hl;obtain ⟨f,e⟩:=kx .none hl;rw [e,show (List.range 6).map f=[f 0,f 1,f 2,f 3,f 4,f 5] from rfl] at hr⊢;exact nD (it:=yY) H F hr (by kernel_rfl) rfl (by kernel_rfl) (by decide+kernel) (by decide)
  ·have h:c=_:=h;have h6:ns.length=4:=h6;subst h;rw [h6] at hl;obtain ⟨f,e⟩:=kx .none hl;rw [e,show (List.range 4).map f=[f 0,f 1,f 2,f 3] from rfl] at hr⊢;exact nD (it:=oU) H F hr (by kernel_rfl) rfl (by kernel_rfl) (by decide+kernel) (by decide)
end
section
variable {sx:Sx}{β:Type}{C:Cx}{c n f:N}{l q vs:List V}{v a:V}{u:Value}{ρ:ao}{σ:St}{γ:GS}{s:Shared}{fs:List aD}{e:Expr}{k:Nat}{x:Str}
set_option tactic.hygienic true in
theorem xa (h:qH C γ ρ σ c l u s):fV C γ aA (.v (.aO c l)) ρ σ u s:=by
 obtain ⟨hu,F,hc,r⟩:=h;subst hu;rename_i x d es en ns;exact .mk (γ':=(γ.oY [(x,instObj (C.D.ca c) d)]).oY [(d,dictOf es en)]) (Nx.trans .oY .oY) (FS.hY (FS.hY F)) (aU.xD hc (.tail _ (.head _)) (.head _) (dH.aw (cg.trans cg) r))
theorem yJ (O:aK L)(H:az C sx)(F:FS C ρ σ γ s)(hr:aH C.D γ.fz γ.αs l us):bO C γ aA (Ke L sx c l ρ σ fs) (call (.ref (C.D.ca c)) us) s:=
 KT.tO λf hi=>KT.tI λh=>ay h λh h3=>ay h λh1 h2=>KT.PZ O λr fs' ks hc=>by
  obtain ⟨fe,Nc⟩:=H.fe;have X:=H.H.CO.RF c f hi;have hn:2≤sx.n:=Nat.le_trans (Wy h2) xE;have hz:Mz f (.obj σ.length::l) (σ++[.ins c []])=0:=by
   unfold Mz;exact aa (uO (by rw [Wy h3])) (aa (Wy h3) rfl)
  have go: ∀{R:Result→Shared→Prop},(∀x γ',Nx γ γ'→γ'.αs[σ.length]? =some x→ ∀r' s',jT C ρ γ' r r' s'→InitBack x R r' s')→codeAny (aC C) C.A (.call (.ref (C.D.ca c)) ⟨us,[]⟩) R s:=λk=>
   make_K F.fr F.nw (H.K.fh.keeps F.fr.keep) X.Mg X.fi X.ty λx dx h' F' N' hlt hx=>by
    obtain ⟨t1,t2,t3⟩:=kT (A:=C.A) (Ca:=C.D.ca c) (r:=us);obtain ⟨n3,F3,h3⟩:=FS.qb (rel:=ly) (m:= .ins c []) (tmp:=dO C.D c x dx [] 0) (F.Cr F' N' hlt hx) (.ins .nil) λγ' q=>q;refine codeAny_mono (hc.s C fe _ (.ref x::us) ρ _ _ H.H H.K Nc (t3.trans Nc.fr) (.inl (H.lp h1)) (.no (H.lp h1)) (by refine aa t1 (aa hz ?_);have:=H.Ag;exact lD this hn) (by refine aa t2 (aa hz ?_);have:=H.un;lia) F3 (.cons h3 (hr.aw n3.ext))) λr' s' q=>k x _ n3 ?_ r' s' q;exact aU.eV h3 λa hu ha=>by injection hu with eA;subst eA;exact ha
  cases r with
  |ba σ'=>exact λZ=>wpAny_call (go λx γ' n Z r' s' q=>by cases q with|ba R=>exact R)
  |ok v σ'=>
   cases v with
   |none=>exact λZ=>wpAny_call (go λx γ' n hx r' s' q=>by
     cases q with
     |ok n' F' r=>exact aU.eV r λhu=>⟨hu,.mk (n.trans n') F' (.obj (n'.ext.αs _ _ hx))⟩)
   |_=>exact False.elim
theorem yK (O:aK L)(H:az C sx)(F:FS C ρ σ γ s)(hr:aH C.D γ.fz γ.αs l us):bO C γ aA (FY L sx c l ρ σ fs) (call (.ref (C.D.ca c)) us) s:=
 KT.tE (λZ=>yJ O H F hr) λv hi=>KT.ok (by
  obtain ⟨l',e,h⟩:=sY H F hr hi;subst e;exact wpAny_mono h (λZ Z q=>xa q) λZ Z q=>q)
theorem BH (O:aK L)(H:az C sx)(F:FS C ρ σ γ s)(hk:C.env.kindOf (nm c)=some .globalImplicit)(hn:jP c=true)(h1:uk.contains c=true):
  bO C γ aA ((qz L sx le ρ σ fs).bind λvs ρ σ fs=>FY L sx c vs ρ σ fs) (eval (.Call (.Name (nm c) p2) le [] pos) C.env) s:=
 KT.un (λQ E h=>Call_Name rfl (nameG_K F.fr H.K.fh H.K.qj (H.H.FO.cls c (List.contains_iff_mem.mp h1)) h H.K.uy H.K.hk hk (da hn)))
  (KT.args O H F (H.H.FO.Dc c (List.contains_iff_mem.mp h1)) λvs ρ σ fs γ' us s' n F' r=>bO.nx n (yK O H F' r:bO C γ' aA _ (call (.ref (C.D.ca c)) us) s'))
theorem qi {D:Wd}{fz:aJ}{αs:List Addr}{x d:Addr}{ns:List N}{es:List DictEntry}{en:Nat}(hc:gP c=some ns)(h:dH D fz αs (ns.zip l) es){q:List V}{vs:List Value}{ld:aJ}(r:qy D fz αs q vs ld):qy D fz αs (q++[.aO c l]) (vs++[.ref x]) (ld++dO D c x d es en):=by
 induction r with
 |nil=>exact .cons hc h .nil
 |cons e1 e2 _ ih=>exact .cons e1 e2 ih
theorem yW {rest pre post ld T:aJ}{p:Addr×Obj}:((γ.aG++(γ.own++pre))++p::((ld++post)++((T++rest)++γ.fz))).Perm (aL {γ with mu:=pre++((p::(ld++T))++post)} rest):=by
 show (_:aJ).Perm (γ.aG++(γ.own++((pre++((p::(ld++T))++post))++(rest++γ.fz))));rw [Wn γ.aG,Wn γ.own,Wn pre,Wn (p::(ld++T))];refine WH _ (WH _ (WH _ (List.Perm.cons _ ?_)));show ((ld++post)++((T++rest)++γ.fz)).Perm ((ld++T)++(post++(rest++γ.fz)));exact aa (Wn ..) (aa (Wn ..) (aa (Wn ..) ((List.perm_append_comm_assoc post T _).append_left ld)))
set_option tactic.hygienic true in
theorem lL {l':List V}(hr:aU C.D γ.fz γ.αs (.obj k) u)(hk:eu σ k=some q)(hlen:q.length<16000000)(I:qH C γ ρ σ c l' w s):WO C γ aA (.v .none) ρ (gX σ k (.iT (q++[.aO c l']))) (call (.builtin "list.append") [u,w]) s:=by
 obtain ⟨hw,F1,hc,r⟩:=I;subst hw;rename_i x d es en ns;refine F1.iT hr hk λa vs n ld pre post hu g3 t wk=> ?_;subst hu;have hl:=t.len;have e0:aL γ (C.aS (dO C.D c x d es en++C.rest)).rest=(γ.aG++(γ.own++pre))++(a,bh vs n)::((ld++post)++((dO C.D c x d es en++C.rest)++γ.fz)):=(WJ (λm=>aL {γ with mu:=m} (dO C.D c x d es en++C.rest)) g3).trans ic;have ds:aN _:=e0▸F1.ds;have U:=oj (o':=bh (vs++[.ref x]) (n+1)) ds;have e:bh (vs++[.ref x]) (n+1)=listOf (vs.toArray.push (.ref x)) (n+1):=WJ (λz=>listOf z (n+1)) (fE vs _).symm;refine append_K F1.fr (e0▸F1.nw) (e▸U) (λh' F' N'=> ?_) (mQ hl hlen);have pm:=yW (γ:=γ) (rest:=C.rest) (pre:=pre) (post:=post) (ld:=ld) (T:=dO C.D c x d es en) (p:=(a,bh (vs++[.ref x]) (n+1)));exact .mk (γ':={γ with mu:=pre++(((a,bh (vs++[.ref x]) (n+1))::(ld++dO C.D c x d es en))++post)}) ⟨rfl,rfl,.refl⟩ ⟨F',bw (e▸N') λp hp=>pm.mem_iff.mpr hp,ds.set.dA pm,F1.ow,wk _ _ (.iT (qi hc r t)),F1.ge,F1.os,F1.x0⟩ .none
end
theorem vx {l as:List Expr}{P:Prop}(h:Lz l=some as)(q: ∀p p',l=[.Call (.Name (nm TK) p) as [] p']→P):P:=by
 cases l with
 |nil=>exact no h
 |cons e r=>
  refine aR h λp h1 h=> ?_;obtain ⟨f,a,kw⟩:=p;obtain ⟨h,e⟩:=aM h;refine ay h λh h5=>ay h λh3 h4=>cb (Wy h5) λp hp=>(lV h1).elim λp' e2=> ?_;have h3:=Ww h3;have h4:kw=[]:=Ww h4;have hp:f=_:=hp;have e:a=as:=e;subst h3 h4 hp e e2;exact q p p' rfl
section
variable {sx:Sx}{β:Type}{C:Cx}{c n f:N}{l q vs:List V}{v a:V}{u:Value}{ρ:ao}{σ:St}{γ:GS}{s:Shared}{fs:List aD}{e ea:Expr}{k:Nat}{x:Str}
theorem KT.nx {rel:Cx→GS→α→β→Prop}{o:TO α}{P:(β→Shared→Prop)→(Value→Shared→Prop)→Prop}(n:Nx γ0 γ)(hP: ∀Q Q' E,(∀b s,Q b s→Q' b s)→P Q E→P Q' E)(h:KT C γ rel o P):KT C γ0 rel o P:=by
 cases o with
 |ok a ρ σ fs ks=>exact λk=>hP _ _ _ (λb s q=>fV.nx n q) (h k)
 |ba ρ σ fs ks=>exact h
 |bC=>exact False.elim
theorem B0 (O:aK L)(H:az C sx)(F:FS C ρ σ γ s)(hr:aU C.D γ.fz γ.αs (.obj k) u)(hk:(eu σ k).isSome=true):
  KT C γ aA (Lx L sx k n le ρ σ fs) λQ E=>wpAny (aC C) C.A (getMethod u (nm n) pl) (λfx s₂=>wpAny (aC C) C.A (callWith pos fx.1 fx.2 (backTo pos (starEach le C.env)) []) Q E s₂) E s:=
 KT.tO λas ha=>KT.tI λh=>ay h λh1 h2=>vx ha λp p' e=>by
  have h1:n=Va:=Wy h1;subst e h1;obtain ⟨q,hq⟩:=Option.isSome_iff_exists.mp hk;refine F.iT hr hq λa vs n q pre post hu g3 r Z=> ?_;have hg:=F.eZ (g3▸iK);have go:KT C γ aA ((qz L sx as ρ σ fs).bind λvs ρ σ fs=>tO (sy TK vs) λv=>tO (eu σ k) λq=>(FH q.length ρ σ fs).bind λZ ρ σ fs=> .ok (.v .none) ρ (gX σ k (.iT (q++[v]))) fs []) λQ E=>
    wpAny (aC C) C.A (eval (.Call (.Name (nm TK) p) as [] p') C.env) (λv s'=>wpAny (aC C) C.A (call (.builtin "list.append") ([u]++[v])) Q E s') E s:=
   KT.un (λQ E h=>Call_Name rfl (nameG_K F.fr H.K.fh H.K.qj (H.H.FO.cls TK (List.contains_iff_mem.mp (by decide+kernel))) h H.K.uy H.K.hk (dI H h2) (da (by decide+kernel))))<|by
    refine KT.args O H F (H.H.FO.Dc TK (List.contains_iff_mem.mp (by decide+kernel))) λvs ρ1 σ1 fs1 γ1 us s1 n1 F1 r1=>KT.tO λv hv=>KT.tO λq hq=> ?_;refine KT.lt λhn fs'=>KT.ok ?_;obtain ⟨l',e,h⟩:=sY H F1 r1 hv;subst e;exact wpAny_mono h (λZ Z I=>wpAny_mono (lL (hr.aw n1.ext) hq hn I) (λZ Z q=>q.nx n1) λZ Z q=>q) λZ Z q=>q.elim
  subst hu;refine aa mi ?_;exact KT.un (λQ E h=>getMethod_builtin ⟨_,hg,rfl⟩ PySem.F.plainAttrs_list PySem.F.slot_list_append PySem.F.type_list_append (λa e=>by injection e with eA;subst eA;exact ⟨_,hg,rfl⟩)
   (callWith_method1 (wpAny_items_cons (wpAny_mono h (λZ Z q=>wpAny_items_nil q) λZ Z q=>q) rfl) rfl rfl)) go
theorem AU {c n f:N}(h:gU c n=some f):lG.contains f=true:=by
 unfold gU at h;revert h;refine ax (x:=bt pE c) (λq=> ?_) λl q=> ?_
 ·exact aa q no
 ·exact aa q (λh=>(by decide+kernel: ∀p∈pE,∀q∈p.2,lG.contains q.2=true) _ (aZ q) _ (aZ h))
theorem yH (O:aK L)(H:az C sx)(F:FS C ρ σ γ s)(hr:aU C.D γ.fz γ.αs a u):
  KT C γ aA (Kb L sx a n le ρ σ fs) λQ E=>wpAny (aC C) C.A (getMethod u (nm n) pl) (λfx s₂=>wpAny (aC C) C.A (callWith pos fx.1 fx.2 (backTo pos (starEach le C.env)) []) Q E s₂) E s:=
 KT.tE (λZ=>KT.tO λk hk=>KT.tI λh=>B0 O H F (ed hk▸hr) h) λc hc=>KT.tO λf hm=>KT.tI λhn=>
  KT.un (λQ E h=>uS H F hr hm h hc hn) (KT.args O H F (H.H.FO.keep f (List.contains_iff_mem.mp (AU hm))) λvs ρ σ fs γ' us s' n F' r=>
   bO.nx n (pZ O H F' (.cons (hr.aw n.ext) r):bO C γ' aA _ (call (.ref (C.D.fa f)) (u::us)) s'))
theorem BW (O:aK L)(H:az C sx)(F:FS C ρ σ γ s)(hb:e9 ea=true)(hn:le.length<30)(hp:(p2.endLine==pos.line)=true)(hs:cC le=true):
  bO C γ aA (J9 L sx ea n le ρ σ fs) (eval (.Call (.Attribute ea (nm n) p2) le [] pos) C.env) s:=
 KT.un (λQ E h=>MethodCall_ h (pF hb hs hn hp)) (KT.aE (G:=λu Q E s'=>wpAny (aC C) C.A (getMethod u (nm n) _) (λfx s₂=>wpAny (aC C) C.A (callWith pos fx.1 fx.2 (backTo pos (starEach le C.env)) []) Q E s₂) E s') (O.ev H F) λr ρ1 σ1 fs1 γ1 u s1 n1 F1 r1=>
  KT.tE (λZ=>KT.tO λw hw=>KT.nx n1 (λQ Q' E z h=>wpAny_mono h (λfx s h=>wpAny_mono h z λZ Z q=>q) λZ Z q=>q) (yH O H F1 (cS hw▸r1:aA C γ1 (.v w) u))) λq hq=>KT.nx n1 (λQ Q' E z h=>wpAny_mono h (λfx s h=>wpAny_mono h z λZ Z q=>q) λZ Z q=>q) (yG O H F1 r1 hq))
end
section
variable {sx:Sx}{C:Cx}{u:Value}{ρ:ao}{σ:St}{γ:GS}{s:Shared}{fs:List aD}{e f:Expr}{x:Str}{kw:List Keyword}{r:R}
theorem bO.Qo {o:TO R}(hx:lJ x=true)(h:bO C γ aA o (eval (.Call (.Name (nm (dk x)) p2) le [] pos) C.env) s):bO C γ aA o (eval (.Call (.Name x p2) le [] pos) C.env) s:=
 (WJ (λy=>bO C γ aA o (eval (.Call (.Name y p2) le [] pos) C.env) s) (bH hx)).mpr h
theorem BP (O:aK L)(H:az C sx)(F:FS C ρ σ γ s)(hk:jn sx x=true):bO C γ aA (P1 L sx (.Call (.Name x p2) le [] pos) x le ρ σ fs) (eval (.Call (.Name x p2) le [] pos) C.env) s:=
 KT.tF (λh=>KT.tI λh4=>ay h λh h3=>ay h λh1 h2=>bO.Qo h1 (G0 O H F (bH h1▸dI H hk) h2 h3 h4)) λZ=>
  KT.tF (λh=>ay h λh h3=>ay h λh1 h2=>bO.Qo h1 (BH O H F (bH h1▸dI H hk) h2 h3)) λZ=>KT.tO λa ha=>aR ha λp hp ha=>by
   obtain ⟨h1,e⟩:=aM ha;obtain ⟨y,b⟩:=p;have h1:y=Str.ofString "len" :=h1;have e:b=a:=e;subst h1 e;refine jd hp λp p' e hs=> ?_;cases e;exact BU O H F (dI H hk) hs
theorem BF (O:aK L)(H:az C sx)(F:FS C ρ σ γ s):bO C γ aA (IT L sx (.Call f le kw pos) f le kw pos ρ σ fs) (eval (.Call f le kw pos) C.env) s:=
 KT.tI λhk=>by
  have e:kw=[]:=Ww hk;subst e;cases f with
  |Name x p=>exact KT.tI λh=>tD H F (BP O H F h)
  |Attribute a x p=>
   refine KT.tI λh=>ay h λh h5=>ay h λh h4=>ay h λh h3=>ay h λh1 h2=> ?_;have g:=BW (n:=dk x) (p2:=p) (fs:=fs) O H F h2 (Wy h3) h4 h5;rw [←bH h1] at g;exact g
  |_=>exact False.elim
theorem BI (O:aK L)(H:az C sx)(F:FS C ρ σ γ s){m:Bool}{os:List CmpOp}{bs:List Expr}:jY m C γ (kl m (I1 L sx m e os bs ρ σ fs)) (.Compare e os bs pos) s:=by
 have no: ∀{m},jY m C γ (kl m .bC) (.Compare e os bs pos) s:=λ{m}=>by
  cases m with
  |true=>exact λq=>q.elim
  |false=>exact λq=>q.elim
 cases os with
 |nil=>exact no
 |cons o os=>cases bs with
  |nil=>exact no
  |cons b bs=>cases os with
   |nil=>
    show jY m C γ (kl m (tI bs.isEmpty (z4 L sx o e b ρ σ fs))) _ s;cases bs with
    |nil=>exact yz O H F
    |cons _ _=>exact no
   |cons o2 os=>cases bs with
    |nil=>exact no
    |cons c bs=>
     show jY m C γ (kl m (tI (m&&decide (o= .LtE)&&decide (o2= .LtE)&&os.isEmpty&&bs.isEmpty) (EF L sx e b c ρ σ fs))) _ s;cases m with
     |false=>exact λq=>q.elim
     |true=>
      refine bO.sf (KT.tI λh=>ay h λh h4=>ay h λh h3=>ay h λh h2=>ay h λZ h1=> ?_);have h1:o= .LtE:=Wy h1;have h2:o2= .LtE:=Wy h2;have h3:os=[]:=Ww h3;have h4:bs=[]:=Ww h4;subst h1 h2 h3 h4;exact BE O H F
end
section
variable {C:Cx}{ρ:ao}{σ:St}{γ:GS}{s:Shared}{o o':Obj}{h':Heap}{tk:Nat}{r:R}{u:Value}{l:List V}{T:aJ}{E:Value→Shared→Prop}{t:Bool}{b:Addr}{vs:List Value}{n i:Nat}
theorem FS.ma (F:FS (C.aS ((it,o)::T)) ρ σ γ s)(hs:Heap.ExtBut it s.heap h'):FS (C.aS T) ρ σ γ {s with heap:=h',toks:=tk}:=by
 have m:=F.nw _ (bq.mem_iff.mpr (.head _));have ds:=aN.dA bq F.ds;refine ⟨⟨F.fr.ns.extBut hs (Ne.symm m.2.1),λb ob e=>hs b ob (λq=> ?_) (F.fr.keep b ob e),F.fr.above⟩,λp hp=> ?_,aN.sub (List.sublist_cons_self _ _) ds,F.ow,F.mu,F.ge,F.os,F.x0⟩
 ·rw [q,m.2.2] at e;exact no e
 ·have q:=F.nw _ (bq.mem_iff.mpr (.tail _ hp));exact ⟨hs _ _ (ds.sW p hp) q.1,q.2⟩
noncomputable def Bx (t:Bool)(vs:List Value)(n:Nat):Obj:=match t with
 |true=>fQ vs n
 |false=>bh vs n
noncomputable def Dv:R→Bool
 | .v (.au _)=>true
 |_=>false
inductive Ek (C:Cx)(γ:GS)(s:Shared)(u:Value)(t:Bool)(l:List V):Prop
 |mk {a ws k} (hu:u= .ref a) (hg:s.heap.get? a=some (Bx t ws k)) (r:aH C.D γ.fz γ.αs l ws):Ek C γ s u t l
theorem jU.sq (h:jU C γ s u l):Ek C γ s u false l:=by obtain ⟨a,b,c⟩:=h;exact .mk a b c
theorem FS.GX (K:aW C)(F:FS C ρ σ γ s)(hr:aA C γ r u):Mine.bf r ρ σ=some l→Ek C γ s u (Dv r) l:=by
 cases r with
 |v b=>cases b with
  |au q=>exact λe=>cH e▸aU.eV hr λa vs n hu hm r=> .mk hu (F.at K hm) r
  |_=>exact λe=>(F.cw hr e).sq
 |lr x=>exact λe=>(F.cw hr e).sq
noncomputable def Fi (t:Bool)(b:Addr)(i:Nat)(o:Obj):Prop:=o.cls=(match t with
 |true=> .type "tuple_iterator"
 |false=> .type "list_iterator")∧o.data= .fields #[.ref b,.int i 0]
theorem pb {Q:Value→Shared→Prop}(F:FS C ρ σ γ s)(hg:s.heap.get? b=some (Bx t vs n))(h: ∀it o s',Fi t b 0 o→FS (C.aS ((it,o)::C.rest)) ρ σ γ s'→Q (.ref it) s'):wpAny (aC C) C.A (pyIter (.ref b)) Q E s:=by
 cases t with
 |true=>exact wpAny_pyIter_tuple (ef hg) (h _ _ _ ⟨rfl,rfl⟩ (F.alloc (F.fr.push _) (F.nw.push F.fr _) F.fresh))
 |false=>exact wpAny_pyIter_list (bF hg) (h _ _ _ ⟨rfl,rfl⟩ (F.alloc (F.fr.push _) (F.nw.push F.fr _) F.fresh))
theorem sz {Q:Option Value→Shared→Prop}(hh:qr C.A T)(F:FS (C.aS ((it,o)::T)) ρ σ γ s)(ho:Fi t b i o)(hg:s.heap.get? b=some (Bx t vs n))
  (h1: ∀x o' s',vs[i]? =some x→Fi t b (i+1) o'→FS (C.aS ((it,o')::T)) ρ σ γ s'→Q (some x) s') (h0: ∀s',vs[i]? =none→FS (C.aS T) ρ σ γ s'→Q none s'):wpAny (aC C) C.A (pyNext (.ref it)) Q E s:=by
 have hi:=F.get (bq.mem_iff.mpr (.head _));have hR: ∀p∈T,p.1≠it∧s.heap.get? p.1=some p.2:=λp hp=>by
  have hm:p∈aL γ T:=WB _ (WB _ (WB _ (WC _ hp)));exact ⟨(aN.dA bq F.ds).sW p hm,F.get (bq.mem_iff.mpr (.tail _ hm))⟩
 have tr:(List.toArray vs)[i]? =vs[i]? :=List.getElem?_toArray ..;cases t with
 |true=>
  have hit:s.heap.IsTupleIter it b i:=⟨o,hi,ho.1,ho.2⟩;exact ax (λhv=>rI hh hR hit (ef hg) (tr.trans hv) λh' hs=>h0 _ hv (F.ma hs)) λx hv=>wpAny_pyNext_tuple_item hit (ef hg) (tr.trans hv) λh' ⟨o',x1,x2,x3⟩ hs=>h1 x o' _ hv ⟨x2,x3⟩ (F.change hs x1)
 |false=>
  have hit:s.heap.IsListIter it b i:=⟨o,hi,ho.1,ho.2⟩;exact ax (λhv=>uK hh hR hit (bF hg) (tr.trans hv) λh' hs=>h0 _ hv (F.ma hs)) λx hv=>wpAny_pyNext_list_item hit (bF hg) (tr.trans hv) λh' ⟨o',x1,x2,x3⟩ hs=>h1 x o' _ hv ⟨x2,x3⟩ (F.change hs x1)
structure qK (C:Cx)(γ0:GS)(R0:aJ)(it:Addr)(get:ao→St→Option (List V))(J:Nat→Obj→Prop):Prop where
 next: ∀{ρ:ao} {σ:St} {γ:GS} {i:Nat} {io:Obj} {s:Shared} {T:aJ} {l:List V} {E:Value→Shared→Prop} {Q:Option Value→Shared→Prop},dE γ0.fz γ0.αs γ.fz γ.αs→(∀p∈R0,p∈T)→FS (C.aS ((it,io)::T)) ρ σ γ s→J i io→get ρ σ=some l→
  (∀v x o s',l[i]? =some v→aU C.D γ.fz γ.αs v x→J (i+1) o→FS (C.aS ((it,o)::T)) ρ σ γ s'→Q (some x) s')→(∀s',l[i]? =none→FS (C.aS T) ρ σ γ s'→Q none s')→wpAny (aC C) C.A (pyNext (.ref it)) Q E s
 GV: ∀{ρ:ao} {σ:St} {γ:GS} {i:Nat} {io:Obj} {s:Shared} {T:aJ} {E:Value→Shared→Prop} {Q:Value→Shared→Prop},FS (C.aS ((it,io)::T)) ρ σ γ s→J i io→Q (.ref it) s→wpAny (aC C) C.A (pyIter (.ref it)) Q E s
theorem sD {Q:Value→Shared→Prop}(F:FS (C.aS ((it,o)::T)) ρ σ γ s)(hJ:Fi t b i o)(h:Q (.ref it) s):wpAny (aC C) C.A (pyIter (.ref it)) Q E s:=by
 have hg:=F.get (bq.mem_iff.mpr (.head _));cases t with
 |true=>exact wpAny_pyIter_tupleiter (i:=i) ⟨o,hg,hJ.1,hJ.2⟩ h
 |false=>exact wpAny_pyIter_listiter (i:=i) ⟨o,hg,hJ.1,hJ.2⟩ h
theorem my {D:Wd}{fz:aJ}{αs:List Addr}(h:aH D fz αs l vs)(e:vs[i]? =none):l[i]? =none:=List.getElem?_eq_none_iff.mpr (h.len▸List.getElem?_eq_none_iff.mp e)
theorem tA {D:Wd}{fz:aJ}{αs:List Addr}{x:Value}(h:aH D fz αs l vs)(e:vs[i]? =some x){P:Prop}(k: ∀v,l[i]? =some v→aU D fz αs v x→P):P:=by
 have hi:i<l.length:=h.len▸(List.getElem?_eq_some_iff.mp e).1;exact k _ (List.getElem?_eq_getElem hi) (h.pt i _ x (List.getElem?_eq_getElem hi) e)
theorem qK.val (K:aW C)(hh:qr C.A R0){a:V}(hR:aU C.D γ0.fz γ0.αs a (.ref b)):qK C γ0 R0 it (bf (.v a)) (Fi (Dv (.v a)) b):=by
 refine ⟨λx hs F hJ hg h1 h0=> ?_,sD⟩;cases F.GX K.aS (r:= .v a) (hR.aw x) hg with
 |mk hu hg r=>
  injection hu with eA;subst eA
  exact sz (hh.aw hs) F hJ hg (λx o s' hv hJ' F'=>tA r hv λv h2 h3=>h1 v x o s' h2 h3 hJ' F') λs' hv F'=>h0 s' (my r hv) F'
theorem qK.Rk (hh:qr C.A R0){e:Nat}(hm:(b,bh vs e)∈R0)(hr:aH C.D γ0.fz γ0.αs l vs):qK C γ0 R0 it (λZ Z=>some l) (Fi false b):=by
 refine ⟨λx hs F hJ hg h1 h0=> ?_,sD⟩;obtain rfl:=cH hg;have r:=aH.aw x hr;exact sz (t:=false) (hh.aw hs) F hJ (F.fb (.tail _ (hs _ hm))) (λx o s' hv hJ' F'=>tA r hv λv h2 h3=>h1 v x o s' h2 h3 hJ' F') λs' hv F'=>h0 s' (my r hv) F'
noncomputable abbrev DR (i k:Int):Obj:={cls:= .type "range_iterator",data:= .fields #[rawInt i,rawInt k,rawInt 1]}
theorem kJ {m:Int}{i:Nat}:(aX m)[i]? =if i<m.toNat then some (.int (i:Int)) else none:=by
 unfold aX;refine aa (List.getElem?_map) ?_;by_cases h:i<m.toNat
 ·exact aa (WE h) (aa (List.getElem?_range h) rfl)
 ·exact aa (WG h) (aa (List.getElem?_eq_none_iff.mpr (by rw [List.length_range];exact Nat.le_of_not_lt h)) rfl)
end
noncomputable abbrev Cx.to (C:Cx)(e:PySem.Env)(c:Bool)(X:N→Bool):Cx:={C with env:=e,comp:=c,X:=X}
theorem pC {env:PySem.Env}{m:Str→Option Value}{aG:aJ}{x y:N}{u:Value}(h:y≠x):bP env (λz=>if z=nm x then some u else m z) aG y=bP env m aG y:=by
 unfold bP;exact aa (show (λz=>if z=nm x then some u else m z) (nm y)=m (nm y) from WG (xK h)) rfl
theorem gv {env:PySem.Env}{m:Str→Option Value}{aG:aJ}{x:N}{u:Value}(hk:env.kindOf (nm x)=some .local):bP env (λz=>if z=nm x then some u else m z) aG x=some u:=by
 unfold bP;exact aa hk (WE rfl)
section
variable {C:Cx}{ρ ρ2:ao}{σ:St}{γ:GS}{rest rest2 own2 tmp:aJ}{s:Shared}{x:N}{v:V}{u:Value}{E:Value→Shared→Prop}
theorem qK.GK (hh:C.A.handled=none){m:Int}:qK C γ0 R0 it (λZ Z=>some (aX m)) (λi o=>o=DR (i:Int) ((m.toNat:Int) - i)):=by
 refine ⟨λ{ρ σ γ i io s T l E Q} x hs F hJ hg h1 h0=> ?_,λF hJ h=>by subst hJ;exact wpAny_pyIter_rangeiter (F.get (bq.mem_iff.mpr (.head _)):IsRangeIter _ _ _ _ 1) h⟩;obtain rfl:=cH hg;subst hJ;have hg:IsRangeIter s.heap it (i:Int) ((m.toNat:Int) - i) 1:=F.get (bq.mem_iff.mpr (.head _));by_cases hi:i<m.toNat
 ·refine wpAny_pyNext_range_item hg (by lia) λh' hit hsb=>h1 (.int (i:Int)) _ _ _ (kJ.trans (WE hi)) (.int _ _) rfl (F.change hsb ?_);exact aa (show (((i+1:Nat):Int))=(i:Int)+1 from rfl) (aa (show ((m.toNat:Int) - ((i:Int)+1))=((m.toNat:Int) - i) - 1 by simp+arith) hit)
 ·exact wpAny_pyNext_range_end hh hg (by lia) λh' hs=>h0 _ (kJ.trans (WG hi)) (F.ma hs)
theorem FS.Jd {p q:Addr×Obj}(F:FS (C.aS (p::q::rest)) ρ σ γ s):FS (C.aS (p::rest)) ρ σ γ s:=by
 have d:List.Sublist (aL γ (p::rest)) (aL γ (p::q::rest)):=List.Sublist.append_left (List.Sublist.append_left (List.Sublist.append_left ((List.sublist_cons_self q rest).cons_cons p|>.append_right _) _) _) _;exact ⟨F.fr,bw F.nw λZ hp=>d.mem hp,F.ds.sub d,F.ow,F.mu,F.ge,F.os,F.x0⟩
theorem mz {m:Int}{t:Tok}{Q:Value→Shared→Prop}(F:FS C ρ σ γ s)(hm:m.natAbs<16000000)
  (h: ∀it s',FS (C.aS ((it,DR 0 (m.toNat:Int))::C.rest)) ρ σ γ s'→Q (.ref it) s'):wpAny (aC C) C.A (call (.type "range") [.int m t]) (λu s₁=>wpAny (aC C) C.A (pyIter u) Q E s₁) E s:=by
 refine call_range_1 ?_;have F2:=F.alloc (s':={s with heap:=s.heap.push {cls:= .type "range",data:= .fields #[.int 0 s.toks,.int m t,.int 1 (s.toks+1)]},toks:=s.toks+1+1}) (F.fr.push _) (F.nw.push F.fr _) F.fresh;refine wpAny_pyIter_range (IsRange.new ..) (small_one (by decide) (by decide) (by lia) (by lia)) ?_;have e:Builtin.Range.rangeSize 0 m 1=(m.toNat:Int):=by refine aa (rangeSize_one ..) ?_;split<;>lia
 refine aa e ?_;have F3:=F2.alloc (s':={s with heap:=(s.heap.push {cls:= .type "range",data:= .fields #[.int 0 s.toks,.int m t,.int 1 (s.toks+1)]}).push (DR 0 (m.toNat:Int)),toks:=s.toks+1+1}) (F2.fr.push _) (F2.nw.push F2.fr (DR 0 (m.toNat:Int))) F2.fresh;exact h _ _ F3.Jd
theorem FS.bare (F:FS C ρ σ γ s):FS C [] σ {γ with own:=[]} s:=by
 have q:List.Sublist (γ.aG++([]++(γ.mu++(C.rest++γ.fz)))) (γ.aG++(γ.own++(γ.mu++(C.rest++γ.fz)))):=List.Sublist.append_left (List.sublist_append_right _ _) _;exact ⟨F.fr,bw F.nw λp hp=>q.mem hp,F.ds.sub q,.nil F.ow.vK,F.mu,F.ge,F.os,F.x0⟩
theorem mE {aG own mu rest fz:aJ}:(aG++(own++(mu++(rest++fz)))).Perm ((aG++(own++rest))++(mu++fz)):=by
 refine aa (Wn ..) (aa (Wn ..) ?_);refine WH _ (WH _ ?_);exact List.perm_append_comm_assoc ..
theorem FS.swap {e1 e2:PySem.Env}{c1 c2:Bool}{X1 X2:N→Bool}{o1 o2:Obj}{m2:Str→Option Value}{cel2:aJ}(F:FS ((C.to e1 c1 X1).aS rest) ρ σ γ s)(hp:((e1.locals,o1)::(γ.aG++(γ.own++rest))).Perm ((e2.locals,o2)::(cel2++(own2++rest2))))(hn:vG o2 m2)
  (hab:C.g.objs.size≤e2.locals) (ho:s.heap.get? e1.locals=some o1) (ow:dZ C.D e2 X2 m2 cel2 γ.fz γ.αs ρ2 own2):FS ((C.to e2 c2 X2).aS rest2) ρ2 σ {γ with m:=m2,own:=own2,aG:=cel2} s:=by
 have q:((e1.locals,o1)::aL γ rest).Perm ((e2.locals,o2)::(cel2++(own2++(γ.mu++(rest2++γ.fz))))):=
  ((List.Perm.cons _ mE).trans (List.Perm.append_right _ hp)).trans (List.Perm.cons _ mE.symm)
 have hL:C.g.get? e1.locals=none:=Heap.get?_none_of_le F.fr.above;have ds:=aN.dA q (aN.cons F.ds λp hp=>(F.nw p hp).2.1);have main: ∀p∈(e2.locals,o2)::(cel2++(own2++(γ.mu++(rest2++γ.fz)))),s.heap.get? p.1=some p.2∧C.g.get? p.1=none:=λp hp=>by
  cases Wv (q.mem_iff.mpr hp) with
  |inl eM=>subst eM;exact ⟨ho,hL⟩
  |inr hp=>exact ⟨(F.nw p hp).1,(F.nw p hp).2.2⟩
 exact ⟨⟨hn.ns (main _ (.head _)).1,F.fr.keep,hab⟩,λp hp=>⟨(main p (.tail _ hp)).1,ds.sW p hp,(main p (.tail _ hp)).2⟩,aN.sub (List.sublist_cons_self _ _) ds,ow,F.mu,F.ge,F.os,F.x0⟩
theorem FS.NQ {a:Addr}{o:Obj}{h':Heap}{tk:Nat}(F:FS C ρ σ γ s)(up: ∀b o,s.heap.get? b=some o→h'.get? b=some o)(ha:s.heap.objs.size≤a)(ho:h'.get? a=some o):FS (C.aS ((a,o)::C.rest)) ρ σ γ {s with heap:=h',toks:=tk}:=by
 have lt: ∀{b:Addr} {ob:Obj},s.heap.get? b=some ob→b≠a:=λe z=>Nat.lt_irrefl _ (Nat.lt_of_lt_of_le (z▸Heap.lt_size e) ha);obtain ⟨oL,hL,_⟩:=dz F.fr.ns;exact F.alloc (s':={s with heap:=h',toks:=tk}) (F.fr.keeps up) (List.forall_mem_cons.mpr ⟨⟨ho,Ne.symm (lt hL),ax (x:=C.g.get? a) id λob e=>WK rfl (lt (F.fr.keep _ _ e))⟩,F.nw.grown up⟩) λp hp=>lt (F.nw p hp).1
theorem kP (K:aW C){Q:Unit→Shared→Prop}(F:FS C ρ σ γ s)(hk:C.env.kindOf (nm x)=some .local)(h: ∀h',Fr C.g C.L h' (λy=>if y=nm x then some u else γ.m y)→News C.g C.L h' (aL γ C.rest)→Q () {s with heap:=h',toks:=s.toks+1}):wpAny (aC C) C.A (storeName C.env (nm x) u) Q E s:=
 wpAny_storeName_local hk F.fr.ns (λh' hn hs=>h h' (F.fr.set hn hs) (F.nw.set hs)) (by exact aa K.hk rfl)
theorem Ba (K:aW C){Q:Unit→Shared→Prop}(F:FS C [] σ γ s)(h0:γ.own=[])(hk:C.env.kindOf (nm x)=some .local)(hv:aU C.D γ.fz γ.αs v u)
  (h: ∀s',FS C [(x,.val v)] σ {γ with m:=λz=>if z=nm x then some u else γ.m z} s'→Q () s'):wpAny (aC C) C.A (storeName C.env (nm x) u) Q E s:=by
 refine kP K F hk λh' F' N'=>h _ ⟨F',N',F.ds,?_,F.mu,F.ge,F.os,F.x0⟩;show dZ C.D C.env C.X _ γ.aG γ.fz γ.αs _ γ.own;exact aa h0 (.val rfl (λZ=>gv hk) hv (.nil F.ow.vK))
end
theorem l7 {x:N}{ρ:ao}:cu ρ x=none→cu (jg ρ) x=none:=by
 induction ρ with
 |nil=>exact id
 |cons p r ih=>
  obtain ⟨y,w⟩:=p;by_cases q:y=x
  ·subst q;exact aa cz (AZ)
  ·refine aa (bE q) ?_;cases w with
   |val v=>exact λh=>(bE q).trans (ih h)
   |own l=>exact ih
theorem uL {env:PySem.Env}{m:Str→Option Value}{aG:aJ}{a:Addr}{o:Obj}{y:N}(h:eE env aG)(ha: ∀p∈aG,p.1≠a):bP env m ((a,o)::aG) y=bP env m aG y:=by
 have k:fX env ((a,o)::aG) y=fX env aG y:=by
  unfold fX;refine ax (x:=env.cells.lookup (nm y)) (λq=>by exact aa q rfl) λc q=> ?_;refine aa q ?_;obtain ⟨o',v,hm,_⟩:=h.c (nm y,c) (dy q);show (List.lookup c ((a,o)::aG)).bind _=(aG.lookup c).bind _;exact aa List.lookup_cons (aa (beq_eq_false_iff_ne.mpr (ha _ hm)) rfl)
 unfold bP;exact aa k rfl
theorem dZ.jg {D:Wd}{env env':PySem.Env}{X X':N→Bool}{m m':Str→Option Value}{aG cel' fz:aJ}{αs:List Addr}{x:N}(hc:eE env' cel')(hX: ∀y,X' y=true→y≠x→X y=true∧bP env' m' cel' y=bP env m aG y){ρ:ao}{ld:aJ}(o:dZ D env X m aG fz αs ρ ld):
  cu ρ x=none→dZ D env' X' m' cel' fz αs (Mine.jg ρ) []:=by
 induction o with
 |nil _=>exact λZ=> .nil hc
 | @val y _ _ _ _ n h r _ ih=>
  by_cases q:y=x
  ·subst q;exact aa cz (AZ)
  ·exact aa (bE q) (λe=> .val (l7 n) (λz=>((hX y z q).2).trans (h (hX y z q).1)) r (ih e))
 | @own y _ _ _ _ _ _ n h r _ ih=>
  by_cases q:y=x
  ·subst q;exact aa cz (AZ)
  ·exact aa (bE q) ih
theorem uj {env:PySem.Env}{names:List (Str×NameKind)}: ∀(acc:List (Str×Addr)),(∀y∈names,y.2= .free→(env.cells.lookup y.1).isSome=true)→
  ∃cl,(forIn names acc λ(x:Str×NameKind) (cs:List (Str×Addr))=>match x with
   |(name,kind)=>if (kind==NameKind.free)=true then (do let c←cellOf env name;pure (ForInStep.yield ((name,c)::cs))) else (pure (ForInStep.yield cs):Sem (ForInStep (List (Str×Addr)))))=pure cl∧
   (∀p∈cl,p∈acc∨env.cells.lookup p.1=some p.2)∧(∀p∈acc,p∈cl)∧ ∀y∈names,y.2= .free→ ∃c,(y.1,c)∈cl:=by
 induction names with
 |nil=>exact λacc Z=>⟨acc,rfl,λp hp=> .inl hp,λZ h=>h,λZ h=>nomatch h⟩
 |cons p r ih=>
  intro acc h;obtain ⟨n,k⟩:=p;refine aa (List.forIn_cons ..) ?_;by_cases hk:k= .free
  ·subst hk;obtain ⟨c,hc⟩:=Option.isSome_iff_exists.mp (h (n,.free) (.head _) rfl);have e:cellOf env n=pure c:=by unfold cellOf;exact aa hc rfl
   obtain ⟨cl,h1,h2,h3,h4⟩:=ih ((n,c)::acc) λy hy=>h y (.tail _ hy);refine ⟨cl,?_,λp hp=> ?_,λp hp=>h3 p (.tail _ hp),List.forall_mem_cons.mpr ⟨λZ=>⟨c,h3 _ (.head _)⟩,h4⟩⟩
   ·simp only [beq_self_eq_true,if_true,e,pure_bind]
    exact h1
   ·cases h2 p hp with
    |inl q=>cases Wv q with
     |inl eM=>subst eM;exact .inr hc
     |inr q=>exact .inl q
    |inr q=>exact .inr q
  ·obtain ⟨cl,h1,h2,h3,h4⟩:=ih acc λy hy=>h y (.tail _ hy);refine ⟨cl,?_,h2,h3,List.forall_mem_cons.mpr ⟨λhf=>WK hf hk,h4⟩⟩
   simp only [beq_eq_false_iff_ne.mpr hk,Bool.false_eq_true,if_false,pure_bind]
   exact h1
theorem uM {l:List (Str×Addr)}{n:Str}{c:Addr}(h:(n,c)∈l): ∃d,l.lookup n=some d:=by
 induction l with
 |nil=>cases h
 |cons a r ih=>
  refine aa List.lookup_cons ?_;cases q:n==a.1 with
  |true=>exact ⟨_,rfl⟩
  |false=>cases Wv h with
   |inl eM=>subst eM;exact WK rfl (beq_eq_false_iff_ne.mp q)
   |inr h=>exact ih h
theorem z0 {scope:Scope}{env:PySem.Env}(h: ∀y∈scope.names,y.2= .free→(env.cells.lookup y.1).isSome=true):
  ∃cl,closureFor scope env=pure cl∧(∀p∈cl,env.cells.lookup p.1=some p.2)∧ ∀y∈scope.names,y.2= .free→cl.lookup y.1=env.cells.lookup y.1:=by
 obtain ⟨cl,h1,h2,h3,h4⟩:=uj [] h;have k: ∀p∈cl,env.cells.lookup p.1=some p.2:=λp hp=>(h2 p hp).elim (λq=>nomatch q) id;refine ⟨cl,WJ (λt:Sem (List (Str×Addr))=>t>>=λcs=>(pure cs:Sem (List (Str×Addr)))) h1,k,λy hy hf=> ?_⟩;obtain ⟨c,hc⟩:=h4 y hy hf;obtain ⟨d,hd⟩:=uM hc;exact hd.trans (k _ (dy hd)).symm
noncomputable abbrev Cx.bJ (C:Cx)(scope:Scope)(cl:List (Str×Addr))(X:N→Bool)(Ca:Addr):Cx:=C.to (compEnvC scope cl Ca C.env) true X
structure dN (C:Cx)(scope:Scope)(cl:List (Str×Addr))(X:N→Bool)(x:N):Prop where
 IZ:closureFor scope C.env=pure cl
 cell: ∀y∈scope.names,y.2≠ .cell
 kind:scope.kind= .function
 names: ∀y∈scope.names,y.2= .local→scope.names.lookup y.1=some .local
 hx:scope.names.lookup (nm x)=some .local
 jg: ∀Ca y,X y=true→y≠x→C.X y=true∧ ∀m m' aG,bP (compEnvC scope cl Ca C.env) m' aG y=bP C.env m aG y
 ok: ∀y,X y=true→jP y=true
 aG: ∀p∈cl,∃q∈C.env.cells,q.2=p.2
section
variable {C:Cx}{scope:Scope}{cl:List (Str×Addr)}{X:N→Bool}{x:N}{Ca:Addr}{sx:Sx}
theorem dN.cx (P:dN C scope cl X x)(K:aW C):aW (C.bJ scope cl X Ca):=
 ⟨K.IG,(jN),P.kind,K.uy,K.Fe,K.AN,K.fh,K.qj,K.units,K.vw,P.ok⟩
theorem dN.vK (P:dN C scope cl X x)(hf:C.env.frame=some C.L){aG:aJ}{oL:Obj}{m:Str→Option Value}(hn:vG oL m)(h:eE C.env aG):eE (compEnvC scope cl Ca C.env) ((C.L,oL)::aG):=by
 refine ⟨λp hp=> ?_,λL hL Z=> ?_⟩
 ·obtain ⟨q,hq,e⟩:=P.aG p hp;obtain ⟨o,v,h1,h2⟩:=h.c q hq;exact e▸⟨o,v,.tail _ h1,h2⟩
 ·obtain rfl:=cH (hf.symm.trans hL);exact ⟨oL,m,.head _,hn⟩
theorem dN.zt (P:dN C scope cl X x):(compEnvC scope cl Ca C.env).kindOf (nm x)=some .local:=lookup_relabel_local P.hx
theorem jr (H:az C sx)(n:Str):(compEnvC scope cl Ca C.env).kindOf n=(u1 sx.ks scope.names).lookup n:=by
 show (relabel scope C.env).names.lookup n=_;unfold relabel u1;refine WJ (List.lookup n) (List.map_congr_left λp Z=> ?_);obtain ⟨a,k⟩:=p;have h1:(C.env.scope.kind==ScopeKind.function)=true:=by exact aa H.K.hk rfl
 simp only [h1,H.ks,Bool.and_true]
theorem u4 {ks l:List (Str×NameKind)}{n:Str}(hc:ks.lookup n=some .cell)(h:l.lookup n=some .free):(u1 ks l).lookup n=some .cell:=by
 induction l with
 |nil=>exact ig h
 |cons p r ih=>
  rw [List.lookup_cons] at h;show (List.lookup n ((if _ then _ else p)::u1 ks r))=_;by_cases q:n=p.1
  ·rw [beq_iff_eq.mpr q] at h;have h2:p.2= .free:=cH h;exact aa (WE (by rw [h2,←q,hc];rfl)) (aa List.lookup_cons (aa (beq_iff_eq.mpr q) rfl))
  ·rw [beq_eq_false_iff_ne.mpr q] at h;have e: ∀k:NameKind,List.lookup n ((p.1,k)::u1 ks r)=some .cell:=λk=>by exact aa List.lookup_cons (aa (beq_eq_false_iff_ne.mpr q) (ih h))
   split
   ·exact e _
   ·exact e p.2
theorem z8 (H:az C sx)(hb:Dg sx scope (nm x)=true): ∃cl,dN C scope cl (sx.bJ scope.names x).X x∧ ∀Ca R,(∀p∈C.rest,p∈R)→az ((C.bJ scope cl (sx.bJ scope.names x).X Ca).aS R) (sx.bJ scope.names x):=
 ay hb λhb hx=>ay hb λhb hall=>ay hb λhcm hkind=>by
  have hcm:=aY hcm;have hkind:scope.kind= .function:=Wy hkind;have ha: ∀y∈scope.names,y.2≠ .cell∧(y.2= .local→scope.names.lookup y.1=some .local)∧(y.2= .free→sx.ks.lookup y.1=some .cell):=λy hy=>
   ay (Wu hall y hy) λh h3=>ay h λh1 h2=>⟨Wy h1,λe=>(Wt h2).elim (λz=>WK e (Wy z)) Wy,λe=>(Wt h3).elim (λz=>WK e (Wy z)) Wy⟩
  obtain ⟨hfr,n,hcel⟩:=H.aG hcm;obtain ⟨cl,h1,h2,h3⟩:=z0 λy hy hf=>by exact aa hcel (cellsFrom_some _ _ _ (.inl ((ha y hy).2.2 hf)))
  have ok: ∀y,(sx.bJ scope.names x).X y=true→jP y=true:=λy hX=>(Ws hX).1;have P:dN C scope cl (sx.bJ scope.names x).X x:=by
   refine ⟨h1,λy hy=>(ha y hy).1,hkind,λy hy e=>(ha y hy).2.1 e,Wy hx,λCa y hX hne=> ?_,ok,λp hp=>⟨_,dy (h2 p hp),rfl⟩⟩;have hfree:scope.names.lookup (nm y)=some .free:=(Wt (Ws hX).2).elim (λz=>WK (Wy z) hne) Wy;have hm:=dy hfree;have hcell:=(ha _ hm).2.2 rfl;refine ⟨(H.X y).trans ?_,λm m' aG=> ?_⟩
   ·unfold Sx.X;exact aa (ok y hX) (aa hcm rfl)
   ·unfold bP fX;exact aa ((jr H _).trans (u4 hcell hfree)) (aa ((H.ks _).trans hcell) (aa (show (compEnvC scope cl Ca C.env).cells=cl from rfl) (aa (h3 _ hm rfl) rfl)))
  obtain ⟨fe,N⟩:=H.fe;exact ⟨cl,P,λCa R hR=>⟨(P.cx H.K).aS,⟨fe,N.fr,N.fl,N.ff,N.fk,N.ab,jN⟩,H.H,H.Ag,H.un,H.g,jr H,λZ=>rfl,H.lp,H.hk.aw hR,rfl,(jN),H.bg⟩⟩
noncomputable abbrev GS.qB (γ:GS)(L:Addr)(oL:Obj):GS:={γ with aG:=(L,oL)::γ.aG}
theorem xj {p a b c:Addr×Obj}{aG own rest:aJ}:(p::(aG++(own++(a::b::c::rest)))).Perm (a::((p::aG)++([]++(c::b::(own++rest))))):=by
 have h1:(own++(a::b::c::rest)).Perm (a::(c::b::(own++rest))):=List.perm_middle.trans (List.Perm.cons _ ((List.perm_middle.trans (List.Perm.cons _ List.perm_middle)).trans (List.Perm.swap _ _ _)));exact (List.Perm.cons _ ((WH _ h1).trans List.perm_middle)).trans (List.Perm.swap _ _ _)
theorem xU {p a b:Addr×Obj}{aG own rest:aJ}:(a::((p::aG)++([]++(b::(own++rest))))).Perm (p::(aG++(own++(a::b::rest)))):=by
 have h1:(own++(a::b::rest)).Perm (a::(b::(own++rest))):=List.perm_middle.trans (List.Perm.cons _ List.perm_middle);exact ((List.Perm.cons _ ((WH _ h1).trans List.perm_middle)).trans (List.Perm.swap _ _ _)).symm
theorem um (P:dN C scope cl X x){elt iter:Expr}{ifs:List Expr}{px pos:Pos}{ρ:ao}{σ:St}{γ:GS}{rest:aJ}{it:Addr}{io:Obj}{s:Shared}{get:ao→St→Option (List V)}{J:Nat→Obj→Prop}
  {E:Value→Shared→Prop} {RR:Value→Addr→Result→Shared→Prop} (F:FS (C.aS ((it,io)::rest)) ρ σ γ s) (hf:C.env.frame=some C.L) (W: ∀Ca oL,qK (C.bJ scope cl X Ca) (γ.qB C.L oL) (γ.own++rest) it get J) (hJ:J 0 io)
  (h: ∀Ca D oL γ1 s1,γ1.aG=(C.L,oL)::γ.aG→γ1.fz=γ.fz→γ1.αs=γ.αs→γ1.own=[]→vG oL γ.m→FS ((C.bJ scope cl X Ca).aS ((it,io)::(D,bh [] 0)::(γ.own++rest))) [] σ γ1 s1→
   codeAny (aC C) C.A (.compLoop (.ListComp elt [⟨.Name (nm x) px,iter,ifs,0⟩] scope pos) 0 (.ref it) (.ref D) (compEnvC scope cl Ca C.env)) (RR (.ref D) Ca) s1):
  wpAny (aC C) C.A (newList []) (λacc s₃=>wpAny (aC C) C.A (newFunctionEnv scope C.env.globals cl [] C.env.qual none .none (some C.env)) (λcenv s₄=>
   codeAny (aC C) C.A (.compStart (.ListComp elt [⟨.Name (nm x) px,iter,ifs,0⟩] scope pos) 0 (.ref it) acc {cenv with scope:=relabel scope C.env}) (RR acc cenv.locals) s₄) E s₃) E s:=by
 refine wpAny_newObj_type ?_;have F1:=F.alloc (s':={s with heap:=s.heap.push (bh [] 0)}) (F.fr.push _) (F.nw.push F.fr _) F.fresh;refine wpAny_newFunctionEnv P.cell (λy hy=>nomatch hy) (λh₁ hns₁ hsb₁=> ?_) P.kind;dsimp only at hns₁ hsb₁⊢;obtain ⟨oC,hoC,hnC⟩:=dz hns₁;have F2:=F1.NQ (h':=h₁) (tk:=s.toks+([]:List (Str×Value)).length) (λb o e=>hsb₁.extBut b o (Nat.ne_of_lt (Heap.lt_size e)) (Heap.get?_push_of_some _ e)) (Nat.le_refl _) hoC;obtain ⟨oL,hoL,hnL⟩:=dz F2.fr.ns;have hab:C.g.objs.size≤(s.heap.push (bh [] 0)).objs.size:=by
  obtain ⟨o,e,_⟩:=dz F1.fr.ns;exact Nat.le_trans F1.fr.above (Nat.le_of_lt (Heap.lt_size e))
 have F4:=FS.swap (C:=C) (e1:=C.env) (c1:=C.comp) (X1:=C.X) (e2:=compEnvC scope cl (s.heap.push (bh [] 0)).objs.size C.env) (c2:=true) (X2:=X) (ρ2:=[]) (own2:=[]) (cel2:=(C.L,oL)::γ.aG) F2 xj hnC hab hoL (.nil (P.vK hf hnL F2.ow.vK));have cq:=h _ _ oL {γ with m:=λx=>([]:List (Str×Value)).reverse.lookup x,own:=[],aG:=(C.L,oL)::γ.aG} _ rfl rfl rfl rfl hnL F4;exact codeAny_compStart_list cq ((W (s.heap.push (bh [] 0)).objs.size oL).GV F4 hJ cq)
inductive Mx (C:Cx)(γ0:GS)(R0:aJ)(D:Addr)(l:List V)(σ:St)(s:Shared):Prop
 |mk {γ vs e} (x:dE γ0.fz γ0.αs γ.fz γ.αs) (hc:γ.aG=γ0.aG) (h0:γ.own=[]) (F:FS (C.aS ((D,bh vs e)::R0)) [] σ γ s) (hr:aH C.D γ.fz γ.αs l vs):Mx C γ0 R0 D l σ s
set_option tactic.hygienic true in
theorem qU {ρ:ao}{σ σ':St}{γ γ0:GS}{D:Addr}{oL:Obj}{l:List V}{s0 s:Shared}(n:Nx γ0 γ)(F:FS C ρ σ γ s0)(hL:vG oL γ.m)(h:Mx (C.bJ scope cl X Ca) (γ.qB C.L oL) (γ.own++C.rest) D l σ' s):tW C γ0 l ρ σ' D Ca s:=by
 obtain ⟨x1,hc,h0,F2,hr⟩:=h;rename_i γ' vs k;obtain ⟨oC,hoC,hnC⟩:=dz F2.fr.ns;have ow:dZ C.D C.env C.X γ.m γ.aG γ'.fz γ'.αs ρ γ.own:=F.ow.aw x1;have F3:=FS.swap (C:=C) (e1:=compEnvC scope cl Ca C.env) (c1:=true) (X1:=X) (e2:=C.env) (c2:=C.comp) (X2:=C.X) (cel2:=γ.aG) (rest2:=(Ca,oC)::(D,bh vs k)::C.rest) F2 (by exact aa hc (aa h0 xU)) hL F.fr.above hoC ow;exact .mk (γ':={γ' with m:=γ.m,own:=γ.own,aG:=γ.aG}) (n.trans ⟨rfl,rfl,x1⟩) hnC F3 hr
end
section
variable {β:Type}{ks:Ks}
theorem TO.rB {x:TO α}(h:(x.pre ks).gd):bN ks∧x.gd:=by
 cases x with
 |ok _ _ _ _ q=>exact bN.eU h
 |ba _ _ _ q=>exact bN.eU h
 |bC=>exact h.elim
theorem TO.mT {x:TO α}{f:α→ao→St→List aD→TO β}(h:(x.bind f).gd):x.gd:=by
 cases x with
 |ok a ρ σ fs ks=>exact (TO.rB h).1
 |ba _ _ _ _=>exact h
 |bC=>exact h
noncomputable def OB (o:TO α)(P:α→ao→St→Prop):Prop:=match o with
 | .ok a ρ σ _ ks=>bN ks→P a ρ σ
 | .ba _ _ _ _=>True
 | .bC=>True
theorem OB.tI {c:Bool}{o:TO α}{P:α→ao→St→Prop}(h:c=true→OB o P):OB (Mine.tI c o) P:=by
 cases c with
 |true=>exact h rfl
 |false=>trivial
theorem OB.tO {x:Option β}{f:β→TO α}{P:α→ao→St→Prop}(h: ∀a,x=some a→OB (f a) P):OB (Mine.tO x f) P:=by
 cases x with
 |some a=>exact h a rfl
 |none=>trivial
theorem OB.tE {x:Option β}{n:TO α}{f:β→TO α}{P:α→ao→St→Prop}(h0:OB n P)(h: ∀a,x=some a→OB (f a) P):OB (Mine.tE x n f) P:=by
 cases x with
 |some a=>exact h a rfl
 |none=>exact h0
theorem OB.imp {o:TO α}{P Q:α→ao→St→Prop}(k: ∀a ρ σ,P a ρ σ→Q a ρ σ)(h:OB o P):OB o Q:=by
 cases o with
 |ok a ρ σ fs q=>exact λg=>k _ _ _ (h g)
 |ba _ _ _ _=>trivial
 |bC=>trivial
theorem OB.all {o:TO α}{P:β→α→ao→St→Prop}(h: ∀b,OB o (P b)):OB o λa ρ σ=> ∀b,P b a ρ σ:=by
 cases o with
 |ok a ρ σ fs q=>exact λg b=>h b g
 |ba _ _ _ _=>trivial
 |bC=>trivial
end
theorem OB.QC {α β γt:Type}{C:Cx}{γ:GS}{rel:Cx→GS→α→β→Prop}{x:TO α}{m:Sem β}{s:Shared}{f:α→ao→St→List aD→TO γt}{T:γt→ao→St→β→Shared→Prop}{Hy:γt→ao→St→Prop}{E:Value→Shared→Prop}(h:bO C γ rel x m s)
  (k: ∀a ρ σ fs γ' b s',Nx γ γ'→FS C ρ σ γ' s'→rel C γ' a b→OB (f a ρ σ fs) λv ρ σ=>Hy v ρ σ→T v ρ σ b s'):OB (x.HF.bind f) λv ρ σ=>Hy v ρ σ→wpAny (aC C) C.A m (T v ρ σ) E s:=by
 cases x with
 |bC=>trivial
 |ba _ _ _ _=>trivial
 |ok a ρ σ fs ks=>
  show OB ((f a ρ σ fs).pre ks) _;have k:=k a ρ σ fs;revert k;generalize f a ρ σ fs=o;intro k;cases o with
  |ok v ρ2 σ2 fs2 ks2=>exact λg hy=>wpAny_mono (h (bN.eU g).1) (λZ Z z=>by cases z with|mk n F r=>exact k _ _ _ n F r (bN.eU g).2 hy) λZ Z z=>z.elim
  |ba _ _ _ _=>trivial
  |bC=>trivial
inductive zN (C:Cx)(γ:GS):Option V→Option Value→Prop
 |none:zN C γ none none
 |some {v u} (h:aU C.D γ.fz γ.αs v u):zN C γ (some v) (some u)
section
variable {sx:Sx}{C:Cx}{γ:GS}{ρ ρ0:ao}{σ:St}{s:Shared}{fs:List aD}{elt:Expr}{ifs:List Expr}{x:N}{v:V}{xv u:Value}{R:aJ}{D:Addr}
theorem mA (O:aK L)(H:az C sx)(F:FS C ρ σ γ s):KT C γ zN (xm L sx elt ρ σ fs) λQ E=>wpAny (aC C) C.A (eval elt C.env) (λu s'=>Q (some u) s') E s:=
 KT.aE (G:=λu Q E s'=>Q (some u) s') (bG O H F) λv ρ1 σ1 fs1 γ1 u s1 n1 F1 r1=>KT.ok (.mk n1 F1 (.some r1))
theorem yE (O:aK L)(H:az C sx)(F:FS C ρ σ γ s):KT C γ zN (xl L sx ifs elt ρ σ fs) λQ E=>
  wpAny (aC C) C.A (forIn ifs true λc r=>if r=true then do let ok←isTrue c C.env (eval c C.env);pure (ForInStep.yield ok) else pure (ForInStep.yield r)) (λok s'=>if ok=true then wpAny (aC C) C.A (eval elt C.env) (λu s'=>Q (some u) s') E s' else Q none s') E s:=by
 cases ifs with
 |nil=>exact KT.un (λQ E h=>wpAny_tests_nil (by exact aa (WE rfl) h)) (mA O H F)
 |cons c r=>
  refine KT.tI λh=> ?_;obtain rfl:=Ww h;refine KT.un (λQ E h=>wpAny_tests_one h) (KT.aE (G:=λok Q E s'=>if ok=true then wpAny (aC C) C.A (eval elt C.env) (λu s'=>Q (some u) s') E s' else Q none s') (O.et H F) λb ρ1 σ1 fs1 γ1 t s1 n1 F1 hb=> ?_);obtain rfl:b= .v (.bool t):=hb;cases t with
  |true=>exact KT.nx n1 (λQ Q' E z h=>wpAny_mono h (λu s h=>z _ _ h) λZ Z q=>q) (mA O H F1)
  |false=>exact KT.ok (.mk n1 F1 .none)
theorem Aa {io:Obj}{vs:List Value}{e:Nat}{E:Value→Shared→Prop}{Q:Value→Shared→Prop}(F:FS (C.aS ((it,io)::(D,bh vs e)::R)) ρ σ γ s)(hv:vs.length<16000000)
  (h: ∀s',FS (C.aS ((it,io)::(D,bh (vs++[u]) (e+1))::R)) ρ σ γ s'→Q .none s'):wpAny (aC C) C.A (call (.builtin "list.append") [.ref D,u]) Q E s:=by
 have sw: ∀{p q:Addr×Obj},(aL γ (p::q::R)).Perm (aL γ (q::p::R)):=WH _ (WH _ (WH _ (List.Perm.append_right _ (List.Perm.swap ..))));have fsw: ∀{p q:Addr×Obj} {s:Shared},FS (C.aS (p::q::R)) ρ σ γ s→FS (C.aS (q::p::R)) ρ σ γ s:=λF=>⟨F.fr,bw F.nw λZ hp=>sw.mem_iff.mpr hp,F.ds.dA sw,F.ow,F.mu,F.ge,F.os,F.x0⟩;have F':=fsw F;refine append_at (F'.fb (.head _)) (λh' hs ho'=>h _ (fsw (F'.change hs (ho'.trans (WJ (λz=>some (listOf z (e+1))) (fE vs u)))))) (hsz:=by exact aa List.size_toArray (dj hv))
theorem yR {α:Type}{c:Bool}{o:TO α}(g:(tI c o).gd):c=true∧o.gd:=by
 cases c with
 |true=>exact ⟨rfl,g⟩
 |false=>exact g.elim
theorem mF {α β:Type}{y:Option β}{f:β→TO α}(g:(tO y f).gd): ∃a,y=some a∧(f a).gd:=by
 cases y with
 |some a=>exact ⟨a,rfl,g⟩
 |none=>exact g.elim
theorem Iz {α β:Type}{x:TO α}{k:α→ao→St→List aD→TO β}(g:((x.at ρ).bind k).gd): ∃a ρ' σ fs ks,x= .ok a ρ' σ fs ks∧bN ks∧(x.at ρ).bind k=(k a ρ σ fs).pre ks:=by
 cases x with
 |ok a ρ' σ fs ks=>exact ⟨a,ρ',σ,fs,ks,rfl,(TO.rB g).1,rfl⟩
 |ba _ _ _ _=>exact g.elim
 |bC=>exact g.elim
inductive Mw (C:Cx)(γ0:GS)(R0:aJ)(it D:Addr)(J:Nat→Obj→Prop)(tl:Nat→Nat→St→List aD→TO (List V))(fin:List V→St→Prop)(M n:Nat)(s:Shared):Prop
 |mk {σ γ i io acc vs e fs} (x:dE γ0.fz γ0.αs γ.fz γ.αs) (hc:γ.aG=γ0.aG) (h0:γ.own=[]) (F:FS (C.aS ((it,io)::(D,bh vs e)::R0)) [] σ γ s) (hJ:J i io)
  (hr:aH C.D γ.fz γ.αs acc vs) (hM:acc.length+n≤M) (g:(tl n i σ fs).gd) (k: ∀l ρ σ' fs' ks,tl n i σ fs= .ok l ρ σ' fs' ks→fin (acc++l) σ'):Mw C γ0 R0 it D J tl fin M n s
set_option tactic.hygienic true in
theorem qV {get get':ao→St→Option (List V)}{J:Nat→Obj→Prop}{iter:Expr}{px pos:Pos}{scope sc:Scope}{fin:List V→St→Prop}{M n:Nat}{RR:Result→Shared→Prop}(O:aK L)(H: ∀R,(∀p∈R0,p∈R)→az (C.aS R) (sx.bJ sc.names x))(W:qK C γ0 R0 it get' J)(hg: ∀ρ' σ,get' ρ' σ=get ρ σ)
  (hk:C.env.kindOf (nm x)=some .local) (hOw:cu ρ x=none→ ∀γ':GS,dE γ0.fz γ0.αs γ'.fz γ'.αs→γ'.aG=γ0.aG→dZ C.D C.env C.X γ'.m γ'.aG γ'.fz γ'.αs (jg ρ) []) (hM:M<16000000)
  (hR: ∀s l σ,fin l σ→Mx C γ0 R0 D l σ s→RR (.ok .next) s) (h:Mw C γ0 R0 it D J (λn i σ fs=>fO get (bQ L sx sc x ifs elt) n i ρ σ fs) fin M n s):
  codeAny (aC C) C.A (.compLoop (.ListComp elt [⟨.Name (nm x) px,iter,ifs,0⟩] scope pos) 0 (.ref it) (.ref D) C.env) RR s:=by
 have K:=(H R0 λZ h=>h).K;refine codeAny_compLoop_tests (Mw C γ0 R0 it D J (λn i σ fs=>fO get (bQ L sx sc x ifs elt) n i ρ σ fs) fin M) (λn s h=> ?_) n h;obtain ⟨x1,hc,h0,F,hJ,hr,hMM,g,k⟩:=h;rename_i σ γ i io acc vs e fs;have hl: ∃l,get ρ σ=some l:=by
  cases n with
  |zero=>obtain ⟨l,h,_⟩:=mF g;exact ⟨l,h⟩
  |succ n=>obtain ⟨l,h,_⟩:=mF g;exact ⟨l,h⟩
 obtain ⟨l,hl⟩:=hl;refine W.next x1 (λp hp=> .tail _ hp) F hJ ((hg _ _).trans hl) (λv xv o' s1 hv hR1 hJ' F1=> ?_) λs1 hle F1=> ?_
 ·cases n with
  |zero=>
   obtain ⟨l',h1,g⟩:=mF g;obtain rfl:=cH (hl.symm.trans h1);have e:=Wy (yR g).1;exact WK (List.getElem?_eq_some_iff.mp hv).1 (Nat.not_lt.mpr (Nat.le_of_eq e))
  |succ n=>
   have hR:=H ((it,o')::(D,bh vs e)::R0) λp hp=> .tail _ (.tail _ hp);have e1:fO get (bQ L sx sc x ifs elt) (n+1) i ρ σ fs=(bQ L sx sc x ifs elt v ρ σ fs).bind λa ρ σ fs=>(fO get (bQ L sx sc x ifs elt) n (i+1) ρ σ fs).bind λl ρ σ fs=> .ok (a.toList++l) ρ σ fs []:=by
    rw [fO];refine aa hl ?_;show tO l[i]? _=_;exact aa hv rfl
   have g:((bQ L sx sc x ifs elt v ρ σ fs).bind λa ρ σ fs=>(fO get (bQ L sx sc x ifs elt) n (i+1) ρ σ fs).bind λl ρ σ fs=> .ok (a.toList++l) ρ σ fs []).gd:=e1▸g;have hx:=(yR (TO.mT g)).1;have e2:bQ L sx sc x ifs elt v ρ σ fs=(xl L (sx.bJ sc.names x) ifs elt ((x,.val v)::jg ρ) σ fs).at ρ:=by unfold bQ;exact aa hx rfl
   rw [e2] at g e1;obtain ⟨a,ρ',σ',fs',ks,e3,hks,e4⟩:=Iz g;rw [e4] at g e1;have g3:=(TO.rB g).2;have hx:=H5.none hx;refine wpAny_assign_Name (Ba hR.K F1 h0 hk hR1 λs2 F2=> ?_);have F3:FS (C.aS ((it,o')::(D,bh vs e)::R0)) ((x,.val v)::jg ρ) σ {γ with m:=λz=>if z=nm x then some xv else γ.m z} s2:=⟨F2.fr,F2.nw,F2.ds,by
    show dZ C.D C.env C.X _ γ.aG γ.fz γ.αs _ γ.own;rw [h0];exact .val (l7 hx) (λZ=>gv hk) hR1 (hOw hx {γ with m:=λz=>if z=nm x then some xv else γ.m z} x1 hc),F2.mu,F2.ge,F2.os,F2.x0⟩
   have it':=yE (ifs:=ifs) (elt:=elt) (fs:=fs) O hR F3;rw [e3] at it';have nxt: ∀{l'},fO get (bQ L sx sc x ifs elt) n (i+1) ρ σ' fs'=l'→ ∀l ρ σ fs ks',l'= .ok l ρ σ fs ks'→fin (acc++(a.toList++l)) σ:=λe5 l ρ2 σ2 fs2 ks' e6=>k (a.toList++l) ρ2 σ2 fs2 (ks++(ks'++[])) (by rw [e1,e5,e6];rfl);refine wpAny_mono (it' hks) (λok s3 q=> ?_) λZ Z q=>q.elim;cases ok with
   |false=>
    cases q with
    | @mk γ2 n2 F4 r=>cases r with
     |none=>exact ⟨n,Nat.lt_succ_self n,.mk (γ:={γ2 with own:=[]}) (x1.trans n2.ext) (n2.aG.trans hc) rfl F4.bare hJ' (hr.aw n2.ext) (Nat.le_trans (Nat.add_le_add_left (Nat.le_succ n) _) hMM) (TO.mT g3) λl ρ2 σ2 fs2 ks2 e=>nxt rfl l ρ2 σ2 fs2 ks2 e⟩
   |true=>
    refine wpAny_mono q (λu s4 q=> ?_) λZ Z q=>q.elim;cases q with
    | @mk γ2 n2 F4 r=>cases r with
     |some ra=>exact Aa F4.bare (by rw [←hr.len];exact lD hM hMM) λs5 F5=>⟨n,Nat.lt_succ_self n,.mk (γ:={γ2 with own:=[]}) (x1.trans n2.ext) (n2.aG.trans hc) rfl F5 hJ' ((aH.aw n2.ext hr).eU (.cons ra .nil)) (by rw [Wo,List.length_singleton];exact lB hMM) (TO.mT g3) λl ρ2 σ2 fs2 ks2 e=>Wn .. ▸nxt rfl l ρ2 σ2 fs2 ks2 e⟩
 ·cases n with
  |zero=>
   obtain ⟨l',h1,g⟩:=mF g;obtain rfl:=cH (hl.symm.trans h1);have e:=(yR g).1;refine hR _ _ _ (k [] ρ σ fs [] ?_) (.mk x1 hc h0 F1 ((Wr acc).symm▸hr));show fO get _ 0 i ρ σ fs=_;rw [fO];refine aa hl ?_;show tI (decide (l.length=i)) _=_;exact aa e rfl
  |succ n=>
   obtain ⟨l',h1,g⟩:=mF g;obtain rfl:=cH (hl.symm.trans h1);obtain ⟨v,h2,_⟩:=mF g;exact ig (hle.symm.trans h2)
end
section
variable {sx:Sx}{C:Cx}{γ:GS}{ρ:ao}{σ:St}{s:Shared}{fs:List aD}{e elt a pe:Expr}{ifs:List Expr}{x:N}{v:V}{xv u:Value}{T:aJ}{D:Addr}{g:Comprehension}{p:Pos}{cl:List (Str×Addr)}{l:List V}{r:R}{RR:Value→Addr→Result→Shared→Prop}{E:Value→Shared→Prop}
theorem OB.tL {α:Type}{o:TO α}{Hy:α→ao→St→Prop}{W:α→ao→St→Value→Shared→Prop}{t:Bool}{b:Addr}{vs:List Value}{n:Nat}(F:FS C ρ σ γ s)(hg:s.heap.get? b=some (Bx t vs n))(h: ∀it io s2,Fi t b 0 io→FS (C.aS ((it,io)::C.rest)) ρ σ γ s2→OB o λv ρ' σ'=>Hy v ρ' σ'→W v ρ' σ' (.ref it) s2):
  OB o λv ρ' σ'=>Hy v ρ' σ'→wpAny (aC C) C.A (pyIter (.ref b)) (W v ρ' σ') E s:=by
 cases o with
 |ok a ρ σ fs ks=>exact λg hy=>pb F hg λit io s2 h1 F2=>h it io s2 h1 F2 g hy
 |ba _ _ _ _=>trivial
 |bC=>trivial
theorem j5 {get get':ao→St→Option (List V)}{J:Nat→Obj→Prop}{io:Obj}{n:Nat}(O:aK L)(H:az C sx)(P:dN C sc cl (sx.bJ sc.names x).X x)(hS: ∀Ca R,(∀p∈C.rest,p∈R)→az ((C.bJ sc cl (sx.bJ sc.names x).X Ca).aS R) (sx.bJ sc.names x))(hf:C.env.frame=some C.L)
  (nx:Nx γ0 γ) (F:FS C ρ σ γ s) {s':Shared} (F':FS (C.aS ((it,io)::C.rest)) ρ σ γ s') (W: ∀Ca oL,qK (C.bJ sc cl (sx.bJ sc.names x).X Ca) (γ.qB C.L oL) (γ.own++C.rest) it get' J) (hg: ∀ρ' σ,get' ρ' σ=get ρ σ) (hJ:J 0 io) (hn:n<16000000):
  OB ((fO get (bQ L sx sc x ifs elt) n 0 ρ σ fs).at ρ) λvs ρ' σ'=>(∀D Ca s',tW C γ0 vs ρ' σ' D Ca s'→RR (.ref D) Ca (.ok .next) s')→
   wpAny (aC C) C.A (newList []) (λacc s₃=>wpAny (aC C) C.A (newFunctionEnv sc C.env.globals cl [] C.env.qual none .none (some C.env)) (λcenv s₄=>
    codeAny (aC C) C.A (.compStart (.ListComp elt [⟨.Name (nm x) px,iter,ifs,0⟩] sc pos) 0 (.ref it) acc {cenv with scope:=relabel sc C.env}) (RR acc cenv.locals) s₄) E s₃) E s':=by
 cases hm:fO get (bQ L sx sc x ifs elt) n 0 ρ σ fs with
 |bC=>trivial
 |ba _ _ _ _=>trivial
 |ok vs ρ1 σ1 fs1 ks=>
  refine λhks hR=>um P F' hf W hJ λCa D oL γ1 s1 c1 c2 c3 c4 hL F3=> ?_;refine qV (C:=C.bJ sc cl (sx.bJ sc.names x).X Ca) (M:=n) (fin:=λl σ'=>l=vs∧σ'=σ1) O (λR hs=>hS Ca R λp hp=>hs p (WB _ hp)) (W Ca oL) hg P.zt (λhx γ' x' hc=> ?_) hn (λs2 l σ2 hfin q=> ?_)
   (.mk (γ:=γ1) (i:=0) (acc:=[]) (vs:=[]) (fs:=fs) (by exact aa c2 (aa c3 .refl)) c1 c4 F3 hJ .nil (Nat.le_of_eq (Nat.zero_add n)) (show (fO get (bQ L sx sc x ifs elt) n 0 ρ σ fs).gd from hm▸hks) λl ρ2 σ2 fs2 ks2 e=> ?_)
  ·exact aa hc (dZ.jg (P.vK hf hL F.ow.vK) (λy h1 h2=>⟨(P.jg Ca y h1 h2).1,((P.jg Ca y h1 h2).2 γ.m γ'.m _).trans (uL F.ow.vK λp hp=>(F.nw p (WC _ hp)).2.1)⟩) (F.ow.aw x') hx)
  ·obtain ⟨h1,h2⟩:=hfin;subst h1 h2;exact hR _ _ _ (qU nx F hL q)
  ·have e:TO.ok vs ρ1 σ1 fs1 ks=_:=hm.symm.trans e;injection e with eA eB eC;subst eA eB eC
   exact ⟨rfl,rfl⟩
set_option tactic.hygienic true in
theorem IJ (O:aK L)(H:az C sx)(P:dN C sc cl (sx.bJ sc.names x).X x)(hS: ∀Ca R,(∀p∈C.rest,p∈R)→az ((C.bJ sc cl (sx.bJ sc.names x).X Ca).aS R) (sx.bJ sc.names x))(hf:C.env.frame=some C.L)(F:FS C ρ σ γ s):
  OB (I3 L sx elt ⟨.Name (nm x) px,iter,ifs,0⟩ sc x ρ σ fs) λvs ρ' σ'=>(∀D Ca s',tW C γ vs ρ' σ' D Ca s'→RR (.ref D) Ca (.ok .next) s')→
   wpAny (aC C) C.A (eval iter C.env) (λxv s₁=>wpAny (aC C) C.A (pyIter xv) (λit s₂=>wpAny (aC C) C.A (newList []) (λacc s₃=>wpAny (aC C) C.A (newFunctionEnv sc C.env.globals cl [] C.env.qual none .none (some C.env)) (λcenv s₄=>
    codeAny (aC C) C.A (.compStart (.ListComp elt [⟨.Name (nm x) px,iter,ifs,0⟩] sc pos) 0 it acc {cenv with scope:=relabel sc C.env}) (RR acc cenv.locals) s₄) E s₃) E s₂) E s₁) E s:=
 OB.tI λZ=>OB.QC (O.ev H F) λr ρ1 σ1 fs1 γ1 u s1 n1 F1 r1=>OB.tO λl hl=>OB.tI λhlt=>by
  have hlt:=Wy hlt;obtain ⟨hu,hg,hR⟩:=F1.GX H.K r1 hl;subst hu;rename_i b ws k;refine OB.tL F1 hg λit io s2 hio F2=> ?_;cases r with
  |v a=>exact j5 O H P hS hf n1 F1 F2 (λCa oL=>qK.val (P.cx H.K) (H.hk.aw λp hp=>WB _ hp) r1) (λZ Z=>rfl) hio hlt
  |lr y=>
   obtain ⟨g1,g2,g3,g4,g5⟩:=F1.ow.pM (gA hl);injection (cH (r1.2.symm.trans (g1 r1.1))) with eA;subst eA
   exact j5 (get':=λZ Z=>some l) O H P hS hf n1 F1 F2 (λCa oL=>qK.Rk (H.hk.aw λp hp=>WB _ hp) (WC _ (g3▸iK)) g2) (λZ Z=>hl.symm) hio hlt
theorem KV {m:Int}:DR 0 (m.toNat:Int)=DR ((0:Nat):Int) ((m.toNat:Int) - ((0:Nat):Int)):=WJ (DR 0) (Int.sub_zero _).symm
theorem OB.GK {α:Type}{o:TO α}{Hy:α→ao→St→Prop}{W:α→ao→St→Value→Shared→Prop}{m:Int}{t:Tok}(F:FS C ρ σ γ s)(hm:m.natAbs<16000000)(h: ∀it s2,FS (C.aS ((it,DR 0 (m.toNat:Int))::C.rest)) ρ σ γ s2→OB o λv ρ' σ'=>Hy v ρ' σ'→W v ρ' σ' (.ref it) s2):
  OB o λv ρ' σ'=>Hy v ρ' σ'→wpAny (aC C) C.A (call (.type "range") [.int m t]) (λu s₁=>wpAny (aC C) C.A (pyIter u) (W v ρ' σ') E s₁) E s:=by
 cases o with
 |ok a ρ σ fs ks=>exact λg hy=>mz F hm λit s2 F2=>h it s2 F2 g hy
 |ba _ _ _ _=>trivial
 |bC=>trivial
theorem IK (O:aK L)(H:az C sx)(P:dN C sc cl (sx.bJ sc.names x).X x)(hS: ∀Ca R,(∀p∈C.rest,p∈R)→az ((C.bJ sc cl (sx.bJ sc.names x).X Ca).aS R) (sx.bJ sc.names x))(hf:C.env.frame=some C.L)(F:FS C ρ σ γ s){p1 p2:Pos}(hs:dw a=false):
  OB (I4 L sx a elt ⟨.Name (nm x) px,.Call (.Name (Str.ofString "range") p1) [a] [] p2,ifs,0⟩ sc x ρ σ fs) λvs ρ' σ'=>(∀D Ca s',tW C γ vs ρ' σ' D Ca s'→RR (.ref D) Ca (.ok .next) s')→
   wpAny (aC C) C.A (eval (.Call (.Name (Str.ofString "range") p1) [a] [] p2) C.env) (λxv s₁=>wpAny (aC C) C.A (pyIter xv) (λit s₂=>wpAny (aC C) C.A (newList []) (λacc s₃=>wpAny (aC C) C.A (newFunctionEnv sc C.env.globals cl [] C.env.qual none .none (some C.env)) (λcenv s₄=>
    codeAny (aC C) C.A (.compStart (.ListComp elt [⟨.Name (nm x) px,.Call (.Name (Str.ofString "range") p1) [a] [] p2,ifs,0⟩] sc pos) 0 it acc {cenv with scope:=relabel sc C.env}) (RR acc cenv.locals) s₄) E s₃) E s₂) E s₁) E s:=
 OB.tI λh=>ay h λh1 h2=>by
  have st:=bp (r:=[]) (env:=C.env) (e:=a) (WJ not hs);refine OB.imp (λv ρ' σ' q hy=>Call_Name rfl (gw H.K F H.H.GO.GK PyProof.Rows.boot_range (by decide) (dI H h2) (by decide) (PyProof.Rows.callWith_type1 (wpAny_items_cons (wpAny_mono (q hy) (λZ Z q=>wpAny_items_nil q) λZ Z q=>q) st) st (cJ (l:=[]) rfl)))) (OB.QC (T:=λv ρ' σ' b s'=>wpAny (aC C) C.A (call (.type "range") [b]) (λu s₁=>wpAny (aC C) C.A (pyIter u) _ E s₁) E s') (bG O H F) λw ρ1 σ1 fs1 γ1 u s1 n1 F1 r1=>OB.tO λm hm=>OB.tI λhlt=> ?_);have hlt:=Wy hlt;refine gY hm r1 λt hu=> ?_;subst hu;refine OB.GK F1 hlt λit s2 F2=> ?_;exact j5 (get':=λZ Z=>some (aX m)) O H P hS hf n1 F1 F2 (λCa oL=>qK.GK (C:=C.bJ sc cl (sx.bJ sc.names x).X Ca) (H.lp h1)) (λZ Z=>rfl) KV (WD (by lia) hlt)
end
section
variable {o:TO α}{P Q:α→ao→St→Prop}
theorem OB.LB (h: ∀a ρ σ,P a ρ σ):OB o P:=by
 cases o with
 |ok a ρ σ fs q=>exact λZ=>h _ _ _
 |ba _ _ _ _=>trivial
 |bC=>trivial
theorem OB.and (h:OB o P)(h':OB o Q):OB o λa ρ σ=>P a ρ σ∧Q a ρ σ:=by
 cases o with
 |ok a ρ σ fs q=>exact λg=>⟨h g,h' g⟩
 |ba _ _ _ _=>trivial
 |bC=>trivial
end
theorem eW {e:Expr}{env:PySem.Env}(h:ij e=true)(u:Value):foldedSetIterable e env u=pure u:=by
 cases e with
 |Set _ _=>exact bK h
 |_=>rfl
section
variable {sx:Sx}{C:Cx}{γ:GS}{ρ:ao}{σ:St}{s:Shared}{fs:List aD}{e:Expr}{g:Comprehension}{gs:List Comprehension}{p:Pos}{m:Bool}
theorem IL (O:aK L)(H:az C sx)(F:FS C ρ σ γ s):OB (qS L sx e g sc ρ σ fs) λvs ρ' σ'=>zA C e g.iter g sc p γ vs ρ' σ' s∧ij g.iter=true:=by
 obtain ⟨t,iter,ifs,k⟩:=g;refine OB.tO λx hx=>OB.tI λh=>ay h λh h3=>ay h λh1 h2=>cb hx λpx e1=> ?_;have e1:t= .Name x px:=e1;have e2:k=0:=Wy h3;subst e1 e2;have hcm:sx.cm=false:=aY (Ws (Ws (Ws h2).1).1).1;obtain ⟨hf,_⟩:=H.aG hcm;obtain ⟨n,rfl⟩: ∃n,x=nm n:=⟨_,bH h1⟩;have en:dk (nm n)=n:=oh (Nat.le_refl n);refine aa en ?_;obtain ⟨cl,P,hS⟩:=z8 H h2;cases hr:GL iter with
 |none=>exact OB.and (OB.imp (λv ρ' σ' q=>⟨rfl,P.kind,P.names,cl,P.IZ,q⟩) (OB.all λRR=>OB.all λE=>IJ O H P hS hf F)) (OB.tI λh=>OB.LB λZ Z Z=>h)
 |some a=>
  refine aR hr λq h4 h5=> ?_;obtain ⟨y,b⟩:=q;obtain ⟨h6,e⟩:=aM h5;have h6:y=Str.ofString "range" :=h6;have e:b=a:=e;subst h6 e;refine jd h4 λp1 p2 e hs=> ?_;subst e;exact OB.and (OB.imp (λv ρ' σ' q=>⟨rfl,P.kind,P.names,cl,P.IZ,q⟩) (OB.all λRR=>OB.all λE=>IK O H P hS hf F hs)) (OB.LB λZ Z Z=>rfl)
theorem C5 (O:aK L)(H:az C sx)(F:FS C ρ σ γ s):OB (qT L sx e g sc p ρ σ fs) λvs ρ' σ'=>zA C e g.iter g sc p γ vs ρ' σ' s∧ij g.iter=true:=
 OB.tE (IL O H F) λq Z=>OB.tI λhn k=>by
  obtain ⟨⟨f,e',g',sc',p',ρ',σ',vs,ρ2,σ2,h⟩,fs'⟩:=q;have k:dG.se (.ListComp e [g] sc p) ρ σ sx=dG.se (.ListComp e' [g'] sc' p') ρ' σ' (bj f ρ' σ'):=k.1;cases k;exact ⟨h C γ s H F,hn⟩
inductive zD (C:Cx)(γ:GS)(e:Expr)(gs:List Comprehension)(sc:Scope)(p:Pos)(s:Shared)(v:V)(ρ:ao)(σ:St):Prop
 |mk {g vs} (hg:gs=[g]) (hv:v= .list vs) (b:zA C e g.iter g sc p γ vs ρ σ s) (n:ij g.iter=true):zD C γ e gs sc p s v ρ σ
theorem Df (O:aK L)(H:az C sx)(F:FS C ρ σ γ s){P:V→ao→St→Prop}(h: ∀v ρ' σ',zD C γ e gs sc p s v ρ' σ'→P v ρ' σ'):match oR L sx e gs sc p ρ σ fs with
  | .ok v ρ' σ' _ ks=>bN ks→P v ρ' σ'
  | .ba _ _ _ _=>False
  | .bC=>True:=by
 cases gs with
 |nil=>trivial
 |cons g r=>
  show (match tI r.isEmpty ((qT L sx e g sc p ρ σ fs).HF.bind λvs ρ σ fs=> .ok (.list vs) ρ σ fs []) with
   | .ok v ρ' σ' _ ks=>bN ks→P v ρ' σ'
   | .ba _ _ _ _=>False
   | .bC=>True)
  cases r with
  |cons _ _=>trivial
  |nil=>
   have b:=C5 (e:=e) (g:=g) (sc:=sc) (p:=p) (fs:=fs) O H F;show (match (qT L sx e g sc p ρ σ fs).HF.bind λvs ρ σ fs=> .ok (.list vs) ρ σ fs [] with
    | .ok v ρ' σ' _ ks=>bN ks→P v ρ' σ'
    | .ba _ _ _ _=>False
    | .bC=>True)
   revert b;cases qT L sx e g sc p ρ σ fs with
   |ok vs ρ' σ' fs' ks=>exact λb k=>h _ _ _ (.mk rfl rfl (b (bN.eU k).1).1 (b (bN.eU k).1).2)
   |ba _ _ _ _=>exact λZ=>trivial
   |bC=>exact λZ=>trivial
set_option tactic.hygienic true in
theorem BJ (O:aK L)(H:az C sx)(F:FS C ρ σ γ s):bO C γ ly (oR L sx e gs sc p ρ σ fs) (eval (.ListComp e gs sc p) C.env) s:=by
 have h:=Df (gs:=gs) (e:=e) (sc:=sc) (p:=p) (fs:=fs) (P:=λv ρ' σ'=>WO C γ ly v ρ' σ' (eval (.ListComp e gs sc p) C.env) s) O H F λv ρ' σ' q=>by
  obtain ⟨hg,hv,b,hn⟩:=q;subst hg hv;rename_i g vs;obtain ⟨t,iter,ifs,k⟩:=g;obtain rfl:=b.Nj;obtain ⟨cl,hcl,run⟩:=b.run;show wpAny _ _ _ _ _ _;refine aa (eval_ListComp ..) ?_;refine wpAny_comprehension_free (use:=none) rfl (eW hn) hcl b.kind b.gV (run (λacc Ca=>compPost (aC C) C.A _ none _ acc Ca) _ λD Ca s' q=> ?_);obtain ⟨n,hC,F',r⟩:=q;exact ⟨_,hC.ns (F'.fb (.head _)),λh' hs'=> .mk (n.trans .oY) (FS.hY (F'.ma hs'.extBut)) (aU.eP (.head _) (aH.aw cg r))⟩
 revert h;cases oR L sx e gs sc p ρ σ fs with
 |ok v ρ' σ' fs' ks=>exact λh k=>h k
 |ba _ _ _ _=>exact False.elim
 |bC=>exact λZ=>False.elim
theorem yA (O:aK L)(H:az C sx)(F:FS C ρ σ γ s):bO C γ aA ((oR L sx e gs sc p ρ σ fs).bind λv ρ σ fs=> .ok (.v v) ρ σ fs []) (eval (.ListComp e gs sc p) C.env) s:=
 KT.aE (G:=λu Q E s'=>Q u s') (BJ O H F) λv ρ1 σ1 fs1 γ1 u s1 n1 F1 r1=>KT.ok (.mk n1 F1 r1)
theorem BA:jY m C γ (kl m .bC) e s:=by
 cases m with
 |true=>exact λq=>q.elim
 |false=>exact λq=>q.elim
theorem kM (O:aK L)(H:az C sx)(F:FS C ρ σ γ s):jY m C γ (mB L sx m e ρ σ fs) e s:=by
 cases e with
 |BoolOp o l p=>exact BD O H F
 |BinOp a o b p=>exact iR H.K (yv O H F) rfl
 |UnaryOp o a p=>exact B4 O H F
 |IfExp c a b p=>exact fG (BS O H F)
 |Dict ks es p=>exact fG (BN O H F)
 |ListComp e' gs sc p=>exact fG (yA O H F)
 |Compare a os bs p=>exact BI O H F
 |Call f l k p=>exact iR H.K (BF O H F) rfl
 |Constant c k p=>exact fG (BK F)
 |Attribute a x p=>exact iR H.K (By O H F) rfl
 |Subscript a i p=>exact iR H.K (BZ O H F) rfl
 |Name x p=>exact iR H.K (yI H F) rfl
 |List l p=>exact fG (BV O H F)
 |Tuple l k p=>exact fG (B3 O H F)
 |_=>exact BA
end
section
variable {env:PySem.Env}{X:N→Bool}{m m':Str→Option Value}{aG cel':aJ}{x:N}{ρ:ao}{ld:aJ}
theorem dZ.nG (hc:eE env cel')(hl: ∀y,y≠x→bP env m' cel' y=bP env m aG y)(o:dZ D env X m aG fz αs ρ ld):cu ρ x=none→dZ D env X m' cel' fz αs ρ ld:=by
 induction o with
 |nil _=>exact λZ=> .nil hc
 | @val y _ _ _ _ n h r _ ih=>
  by_cases q:y=x
  ·subst q;exact aa cz (AZ)
  ·exact aa (bE q) (λe=> .val n (λz=>(hl y q).trans (h z)) r (ih e))
 | @own y _ _ _ _ _ _ n h r _ ih=>
  by_cases q:y=x
  ·subst q;exact aa cz (AZ)
  ·exact aa (bE q) (λe=> .own n (λz=>(hl y q).trans (h z)) r (ih e))
theorem dZ.KZ {v:V}{u:Value}(hc:eE env cel')(hl: ∀y,y≠x→bP env m' cel' y=bP env m aG y)(hx:bP env m' cel' x=some u)(hv:aU D fz αs v u)(o:dZ D env X m aG fz αs ρ ld):
  ∃ld',List.Sublist ld' ld∧dZ D env X m' cel' fz αs (b8 ρ x (.val v)) ld':=by
 induction o with
 |nil _=>exact ⟨[],.slnil,.val rfl (λZ=>hx) hv (.nil hc)⟩
 | @val y _ _ _ ld n h r o ih=>
  by_cases q:y=x
  ·subst q;exact aa dX ⟨ld,List.Sublist.refl _,.val n (λZ=>hx) hv (o.nG hc hl n)⟩
  ·obtain ⟨ld',s,o'⟩:=ih;exact aa (cQ q) ⟨ld',s,.val ((cN _ _ _ _ (Ne.symm q)).trans n) (λz=>(hl y q).trans (h z)) r o'⟩
 | @own y _ _ _ _ _ ld n h r o ih=>
  by_cases q:y=x
  ·subst q;exact aa dX ⟨ld,List.sublist_cons_self _ _,.val n (λZ=>hx) hv (o.nG hc hl n)⟩
  ·obtain ⟨ld',s,o'⟩:=ih;exact aa (cQ q) ⟨_::ld',s.cons_cons _,.own ((cN _ _ _ _ (Ne.symm q)).trans n) (λz=>(hl y q).trans (h z)) r o'⟩
theorem dZ.OT {l:List V}{vs:List Value}{a:Addr}{e:Nat}(hc:eE env cel')(hl: ∀y,y≠x→bP env m' cel' y=bP env m aG y)(hx:bP env m' cel' x=some (.ref a))(hv:aH D fz αs l vs)(o:dZ D env X m aG fz αs ρ ld):
  ∃l1 l2,List.Sublist (l1++l2) ld∧dZ D env X m' cel' fz αs (b8 ρ x (.own l)) (l1++(a,bh vs e)::l2):=by
 induction o with
 |nil _=>exact ⟨[],[],.slnil,.own rfl (λZ=>hx) hv (.nil hc)⟩
 | @val y _ _ _ ld n h r o ih=>
  by_cases q:y=x
  ·subst q;exact aa dX ⟨[],ld,List.Sublist.refl _,.own n (λZ=>hx) hv (o.nG hc hl n)⟩
  ·obtain ⟨l1,l2,s,o'⟩:=ih;exact aa (cQ q) ⟨l1,l2,s,.val ((cN _ _ _ _ (Ne.symm q)).trans n) (λz=>(hl y q).trans (h z)) r o'⟩
 | @own y _ _ _ _ _ ld n h r o ih=>
  by_cases q:y=x
  ·subst q;exact aa dX ⟨[],ld,List.sublist_cons_self _ _,.own n (λZ=>hx) hv (o.nG hc hl n)⟩
  ·obtain ⟨l1,l2,s,o'⟩:=ih;exact aa (cQ q) ⟨_::l1,l2,s.cons_cons _,.own ((cN _ _ _ _ (Ne.symm q)).trans n) (λz=>(hl y q).trans (h z)) r o'⟩
end
section
variable {C:Cx}{ρ:ao}{σ:St}{γ:GS}{s:Shared}{u:Value}{E:Value→Shared→Prop}{Q:Unit→Shared→Prop}{x:N}{v:V}{l:List V}{vs:List Value}{a c:Addr}{e:Nat}
theorem gz (K:aW C)(F:FS C ρ σ γ s)(hk:C.env.kindOf (nm x)=some .local)(hv:aU C.D γ.fz γ.αs v u)(h: ∀s',oB C γ (b8 ρ x (.val v)) σ s'→Q () s'):wpAny (aC C) C.A (storeName C.env (nm x) u) Q E s:=by
 refine kP K F hk λh' F' N'=> ?_;obtain ⟨ld',sb,o⟩:=F.ow.KZ F.ow.vK (λy hy=>pC hy) (gv hk) hv;have q:List.Sublist (aL {γ with m:=λz=>if z=nm x then some u else γ.m z,own:=ld'} C.rest) (aL γ C.rest):=List.Sublist.append_left (List.Sublist.append_right sb _) _;exact h _ (.mk (γ':={γ with m:=λz=>if z=nm x then some u else γ.m z,own:=ld'}) .refl ⟨F',bw N' λp hp=>q.mem hp,F.ds.sub q,o,F.mu,F.ge,F.os,F.x0⟩)
theorem uV (K:aW C)(F:FS (C.aS ((a,bh vs e)::C.rest)) ρ σ γ s)(hk:C.env.kindOf (nm x)=some .local)(hv:aH C.D γ.fz γ.αs l vs)(h: ∀s',oB C γ (b8 ρ x (.own l)) σ s'→Q () s'):wpAny (aC C) C.A (storeName C.env (nm x) (.ref a)) Q E s:=by
 refine kP (C:=C.aS ((a,bh vs e)::C.rest)) K.aS F hk λh' F' N'=> ?_;obtain ⟨l1,l2,sb,o⟩:=F.ow.OT (e:=e) F.ow.vK (λy hy=>pC hy) (gv hk) hv;have q:List.Sublist (γ.aG++((l1++l2)++(γ.mu++(((a,bh vs e)::C.rest)++γ.fz)))) (aL γ ((a,bh vs e)::C.rest)):=List.Sublist.append_left (List.Sublist.append_right sb _) _;have pm:(γ.aG++((l1++l2)++(γ.mu++(((a,bh vs e)::C.rest)++γ.fz)))).Perm (aL {γ with m:=λz=>if z=nm x then some (.ref a) else γ.m z,own:=l1++(a,bh vs e)::l2} C.rest):=by
  refine WH _ ?_;refine aa (Wn ..) (aa (Wn ..) ?_);refine WH _ ?_;show (l2++(γ.mu++((a,bh vs e)::(C.rest++γ.fz)))).Perm ((a,bh vs e)::(l2++(γ.mu++(C.rest++γ.fz))));exact (WH _ List.perm_middle).trans List.perm_middle
 exact h _ (.mk (γ':={γ with m:=λz=>if z=nm x then some (.ref a) else γ.m z,own:=l1++(a,bh vs e)::l2}) .refl ⟨F',bw N' λp hp=>q.mem (pm.mem_iff.mpr hp),aN.dA pm (F.ds.sub q),o,F.mu,F.ge,F.os,F.x0⟩)
theorem uU (K:aW C)(F:FS C ρ σ γ s)(hc0:C.env.frame=some C.L)(hk:C.env.kindOf (nm x)=some .cell)(hcl:C.env.cells=[(nm x,c)])(hv:aU C.D γ.fz γ.αs v u)(h: ∀s',oB C γ (b8 ρ x (.val v)) σ s'→Q () s'):wpAny (aC C) C.A (storeName C.env (nm x) u) Q E s:=by
 obtain ⟨o,v0,hm,hd⟩:=F.ow.vK.c (nm x,c) (by exact aa hcl (.head _));obtain ⟨pre,post,hcel⟩:=List.append_of_mem hm;have hmem:=F.nw (c,o) (WC _ hm);have e1: ∀o:Obj,(pre++(c,o)::post)++(γ.own++(γ.mu++(C.rest++γ.fz)))=pre++(c,o)::(post++(γ.own++(γ.mu++(C.rest++γ.fz)))):=λo=>Wn ..;have e0:aL γ C.rest=pre++(c,o)::(post++(γ.own++(γ.mu++(C.rest++γ.fz)))):=(WJ (·++_) hcel).trans (e1 o);have hlk:C.env.cells.lookup (nm x)=some c:=by exact aa hcl List.lookup_cons_self
 refine wpAny_storeName_cell K.hk hk hlk ⟨o,hmem.1,hd⟩ λh' hv' hs=> ?_;obtain ⟨o',ho',hd'⟩:=hv';have hds:aN _:=e0▸F.ds;have hw:News C.g C.L s.heap _:=e0▸F.nw;have ds':=hds.set (o':=o');have nd:=(hds.dA List.perm_middle).sW;have N':=news_set hw (λp hp=>nd p (WC _ hp)) (λp hp=>nd p (WB _ hp)) hs ho';have dc:aN (pre++(c,o')::post):=aN.sub (List.sublist_append_left _ _) (e1 o'▸ds');have Kn: ∀y,y≠x→bP C.env γ.m (pre++(c,o')::post) y=bP C.env γ.m γ.aG y:=λy hy=>by
  have z:C.env.cells.lookup (nm y)=none:=by exact aa hcl (aa List.lookup_cons (aa (beq_eq_false_iff_ne.mpr (xK hy)) rfl))
  unfold bP fX;exact aa z rfl
 have hx:bP C.env γ.m (pre++(c,o')::post) x=some u:=by
  unfold bP fX;refine aa hk (aa hlk ?_);show ((pre++(c,o')::post).lookup c).bind _=_;refine aa (mf dc) ?_;show (match o'.data with
   | .cell v=>v
   |_=>none)=_
  exact aa hd' rfl
 obtain ⟨ld',sb,ow⟩:=F.ow.KZ (m':=γ.m) (cel':=pre++(c,o')::post) (x:=x) (v:=v) (u:=u) ⟨λq hq=>by
  rw [hcl] at hq;obtain rfl:=Wx hq;exact ⟨o',some u,WB _ (.head _),hd'⟩,λL hL hne=>WK (cH (hc0.symm.trans hL)).symm hne⟩ Kn hx hv
 have q:List.Sublist ((pre++(c,o')::post)++(ld'++(γ.mu++(C.rest++γ.fz)))) ((pre++(c,o')::post)++(γ.own++(γ.mu++(C.rest++γ.fz)))):=List.Sublist.append_left (List.Sublist.append_right sb _) _;exact h _ (.mk (γ':={γ with aG:=pre++(c,o')::post,own:=ld'}) .refl ⟨F.fr.change hs hmem.2.1 hmem.2.2,bw (e1 o'▸N') λp hp=>q.mem hp,(e1 o'▸ds':aN _).sub q,ow,F.mu,F.ge,F.os,F.x0⟩)
end
theorem dY {pe:Expr}(h:eI pe=true)(t:Option Expr)(line:Nat)(env:PySem.Env):swapsWith pe t line env=pure false:=by
 cases pe with
 |ListComp _ _ _ _=>exact bK h
 |SetComp _ _ _ _=>exact bK h
 |DictComp _ _ _ _ _=>exact bK h
 |_=>rfl
section
variable {sx:Sx}{C:Cx}{ρ:ao}{σ:St}{γ:GS}{s:Shared}{u:Value}{E:Value→Shared→Prop}{x:N}{y:Str}{v:V}{a b d e:Expr}{p:Pos}{fs:List aD}{gs:List Comprehension}
theorem KS.un (i: ∀Q E,P Q E→P' Q E)(h:KS C γ ts P):KS C γ ts P':=λg=>i _ _ (h g)
theorem KS.bM {o:SO}{ks:Ks}(h:P (aQ C γ o) (iW C o)):KS C γ (.bM o fs ks) P:=λZ=>h
theorem oB.post {γ':GS}(n:dE γ.fz γ.αs γ'.fz γ'.αs)(h:oB C γ' ρ σ s):aQ C γ (.next ρ σ) .next s:= .next (h.ext n)
noncomputable def vH (C:Cx)(x:N):Prop:= ∀{R:aJ} {ρ:ao} {σ:St} {γ:GS} {s:Shared} {v:V} {u:Value} {E:Value→Shared→Prop} {Q:Unit→Shared→Prop},FS (C.aS R) ρ σ γ s→aU C.D γ.fz γ.αs v u→(∀s',oB (C.aS R) γ (b8 ρ x (.val v)) σ s'→Q () s')→wpAny (aC C) C.A (storeName C.env (nm x) u) Q E s
theorem B9 {p q:Addr×Obj}{R:aJ}(F:FS (C.aS (p::q::R)) ρ σ γ s):FS (C.aS (q::p::R)) ρ σ γ s:=
 have sw:(aL γ (p::q::R)).Perm (aL γ (q::p::R)):=WH _ (WH _ (WH _ (List.Perm.append_right _ (List.Perm.swap ..))))
 ⟨F.fr,bw F.nw λZ hp=>sw.mem_iff.mpr hp,F.ds.dA sw,F.ow,F.mu,F.ge,F.os,F.x0⟩
set_option tactic.hygienic true in
theorem EJ (q:zD C γ e gs sc p s v ρ σ):WO C γ ly v ρ σ (eval (.ListComp e gs sc p) C.env) s:=by
 obtain ⟨hg,hv,b,hn⟩:=q;subst hg hv;rename_i g vs;obtain ⟨t,iter,ifs,k⟩:=g;obtain rfl:=b.Nj;obtain ⟨cl,hcl,run⟩:=b.run;show wpAny _ _ _ _ _ _;refine aa (eval_ListComp ..) ?_;refine wpAny_comprehension_free (use:=none) rfl (eW hn) hcl b.kind b.gV (run (λacc Ca=>compPost (aC C) C.A _ none _ acc Ca) _ λD Ca s' q=> ?_);obtain ⟨n,hC,F',r⟩:=q;exact ⟨_,hC.ns (F'.fb (.head _)),λh' hs'=> .mk (n.trans .oY) (FS.hY (F'.ma hs'.extBut)) (aU.eP (.head _) (aH.aw cg r))⟩
set_option tactic.hygienic true in
theorem zT (K:aW C)(hst:vH C x)
  (q:zD C γ e gs sc p s v ρ σ):wpAny (aC C) C.A (PySem.exec (.Assign [.Name (nm x) p2] (.ListComp e gs sc p) spos) C.env) (aQ C γ (.next (b8 ρ x (.val v)) σ)) (λZ Z=>False) s:=by
 obtain ⟨bb,hb⟩: ∃b,swapsWith (.ListComp e gs sc p) (some (.Name (nm x) p2)) spos.line C.env=pure b:=⟨_,rfl⟩;cases bb with
 |false=>
  refine wpAny_Assign_Name (wpAny_mono (EJ q) (λu s' z=> ?_) λZ Z z=>z) hb;cases z with
  |mk n F r=>exact hst (R:=C.rest) F r λs2 z=>z.post n.ext
 |true=>
  obtain ⟨hg,hv,b,hn⟩:=q;subst hg hv;rename_i g vs;obtain ⟨t,iter,ifs,k⟩:=g;obtain rfl:=b.Nj;obtain ⟨cl,hcl,run⟩:=b.run;refine aa (exec_Assign_Name_used _ _ _ _ hb) ?_;refine wpAny_bind (wpAny_standAt (wpAny_bind ?_));show wpAny _ C.A (do let _←comprehension (.ListComp e [⟨t,iter,ifs,0⟩] sc p) sc C.env _ (newList []) false (eval iter C.env) (some (assign (.Name (nm x) p2) C.env))) _ _ s;refine wpAny_bind (wpAny_mono (wpAny_comprehension_free (use:=some (assign (.Name (nm x) p2) C.env)) (E:=λZ Z=>False) (Q:=λZ s'=>aQ C γ (.next (b8 ρ x (.val (.list vs))) σ) .next s') rfl (eW hn) hcl b.kind b.gV
   (run (λacc Ca=>compPost (aC C) C.A _ (some (assign (.Name (nm x) p2) C.env)) _ acc Ca) _ λD Ca s' q=> ?_)) (λZ s' hq=>wpAny_pure (wpAny_pure hq)) λz s' q=>q)
  obtain ⟨n,hC,F',r⟩:=q;show wpAny (aC C) C.A (assign (.Name (nm x) p2) C.env (.ref D)) _ _ _;refine wpAny_assign_Name (hst (FS.hY (B9 F')) (aU.eP (.head _) (aH.aw cg r)) λs2 z=> ?_);obtain ⟨y,F2⟩:=z;exact ⟨_,hC.ns (F2.fb (.head _)),λh' hs'=> .next (.mk ((n.trans .oY).ext.trans y) (F2.ma hs'.extBut))⟩
theorem zU (O:aK L)(H:az C sx)(F:FS C ρ σ γ s)(hst:vH C x)(hn:eI a=true):
  KS C γ ((jF L sx a ρ σ fs).so λv ρ σ fs=>cZ (b8 ρ x (.val v)) σ fs) λQ E=>wpAny (aC C) C.A (PySem.exec (.Assign [.Name (nm x) p2] a p) C.env) Q E s:=
 KS.un (λQ E h=>wpAny_Assign_Name h (dY hn _ _ _)) (KS.aE (G:=λu Q E s'=>wpAny (aC C) C.A (storeName C.env (nm x) u) (λZ=>Q .next) E s') (bG O H F) λv ρ1 σ1 fs1 γ1 u s1 n1 F1 r1=>KS.bM (hst (R:=C.rest) F1 r1 λs2 z=>z.post n1.ext))
end
theorem iI {κ:Type} [DecidableEq κ] {w:World}{k:KeyKind pw w κ}{o:Obj}{f:List (κ×Value)}(q:o.IsDictOf k f):(f.map (·.1)).Nodup:=by obtain ⟨_,_,_,_,_,_,e⟩:=q;exact e
section
variable {sx:Sx}{C:Cx}{ρ:ao}{σ:St}{γ:GS}{s:Shared}{u:Value}{E:Value→Shared→Prop}{x:N}{y:Str}{v:V}{a b d e:Expr}{p:Pos}{fs:List aD}{l:List Expr}{k:Nat}
theorem vH.zt (K:aW C)(h:C.env.kindOf (nm x)=some .local):vH C x:=by
 intro R ρ σ γ s v u E Q F r k;exact gz (C:=C.aS R) K.aS F h r k
theorem vH.jy {c:Addr}(K:aW C)(hf:C.env.frame=some C.L)(hk:C.env.kindOf (nm x)=some .cell)(hcl:C.env.cells=[(nm x,c)]):vH C x:=by
 intro R ρ σ γ s v u E Q F r k;exact uU (C:=C.aS R) K.aS F hf hk hcl r k
theorem vH.aG (H:az C sx)(h:sx.aG (nm x)=true):vH C x:=
 ay h λh h4=>ay h λh h3=>ay h λZ h2=>by
  obtain ⟨hf,n,hc⟩:=H.aG (aY h2);have hk:C.env.kindOf (nm x)=some .cell:=(H.ks _).trans (Wy h3);have h4:(cellsFrom 0 sx.ks []).map (·.1)=[nm x]:=Wy h4;rw [cellsFrom_names sx.ks 0 n [] [] rfl,←hc] at h4;obtain ⟨c,hcl⟩: ∃c,C.env.cells=[(nm x,c)]:=by
   revert h4;cases C.env.cells with
   |nil=>exact λh=>nomatch h
   |cons p r=>
    intro h4;have h5:=List.cons.inj h4;obtain rfl:=List.map_eq_nil_iff.mp h5.2;exact ⟨p.2,WJ (λz=>[(z,p.2)]) h5.1⟩
  exact vH.jy H.K hf hk hcl
theorem gf (H:az C sx)(h:sx.zt y=true):C.env.kindOf y=some .local:=(H.ks y).trans (Wy (Ws h).2)
theorem i9 (h:sx.zt y=true):lJ y=true:=(Ws (Ws h).1).1
theorem pY (O:aK L)(H:az C sx)(F:FS C ρ σ γ s)(hst:vH C x):KS C γ (EA L sx x a ρ σ fs) λQ E=>wpAny (aC C) C.A (PySem.exec (.Assign [.Name (nm x) p2] a p) C.env) Q E s:=by
 cases a with
 |ListComp e gs sc q=>
  have h:=Df (gs:=gs) (e:=e) (sc:=sc) (p:=q) (fs:=fs) (P:=λv ρ' σ'=>wpAny (aC C) C.A (PySem.exec (.Assign [.Name (nm x) p2] (.ListComp e gs sc q) p) C.env) (aQ C γ (.next (b8 ρ' x (.val v)) σ')) (λZ Z=>False) s) O H F λv ρ' σ' q=>zT H.K hst q;show KS C γ ((oR L sx e gs sc q ρ σ fs).so λv ρ σ fs=>cZ (b8 ρ x (.val v)) σ fs) _;revert h;cases oR L sx e gs sc q ρ σ fs with
  |ok v ρ' σ' fs' ks=>exact λh k=>wpAny_mono (h (bN.eU k).1) (λZ Z q=>q) λZ Z q=>q.elim
  |ba _ _ _ _=>exact False.elim
  |bC=>exact λZ=>False.elim
 |SetComp _ _ _ _=>exact False.elim
 |DictComp _ _ _ _ _=>exact False.elim
 |_=>exact zU O H F hst rfl
theorem yq (O:aK L)(H:az C sx)(F:FS C ρ σ γ s)(hk:C.env.kindOf (nm x)=some .local):KS C γ (Iu L sx x l ρ σ fs) λQ E=>wpAny (aC C) C.A (PySem.exec (.Assign [.Name (nm x) p2] (.List l pos) p) C.env) Q E s:=
 KS.un (λQ E h=>wpAny_Assign_Name (List_ h) rfl) (KS.aE (G:=λus Q E s'=>wpAny (aC C) C.A (newList us) (λu s'=>wpAny (aC C) C.A (storeName C.env (nm x) u) (λZ=>Q .next) E s') E s') (iQ O H F) λvs ρ1 σ1 fs1 γ1 us s1 n1 F1 r1=>KS.sI λhn=>
  KS.bM (newList_N F1.fr F1.nw (λh' F' N'=>uV (e:=0) H.K (F1.alloc (s':={s1 with heap:=h'}) F' N' F1.fresh) hk r1 λs2 z=>z.post n1.ext) (dj (r1.len▸Wy hn))))
theorem cp.Qn {o:TS}(hx:lJ y=true)(h:KS C γ o λQ E=>wpAny (aC C) C.A (PySem.exec (.Assign [.Name (nm (dk y)) p2] a p) C.env) Q E s):cp C γ o (PySem.exec (.Assign [.Name y p2] a p) C.env) s:=
 (WJ (λz=>cp C γ o (PySem.exec (.Assign [.Name z p2] a p) C.env) s) (bH hx)).mpr h
theorem yr (O:aK L)(H:az C sx)(F:FS C ρ σ γ s):cp C γ (Iw L sx y a ρ σ fs) (PySem.exec (.Assign [.Name y p2] a p) C.env) s:=
 KS.sF (λh=>cp.Qn (i9 h) (KS.sE (λZ=>pY O H F (vH.zt H.K (bH (i9 h)▸gf H h))) λl hl=>uJ hl λq e=>e▸yq O H F (bH (i9 h)▸gf H h))) λZ=>
  KS.sI λh=>by
   have hy:lJ y=true:=(Ws (Ws (Ws h).1).1).1;exact cp.Qn hy (pY O H F (vH.aG H (bH hy▸h)))
theorem te (H:az C sx){w v:V}{σ':St}{u3:Value}{Q:Unit→Shared→Prop}(F:FS C ρ σ γ s)(hw:aU C.D γ.fz γ.αs w u)(hv:aU C.D γ.fz γ.αs v u3)(e:yj w x v σ=some σ')(h: ∀s',oB C γ ρ σ' s'→Q () s'):wpAny (aC C) C.A (setAttr u (nm x) u3) Q E s:=
 aR e λk h1 e=>aR e λp h2 e=>by
  obtain ⟨⟨h3,h4⟩,e⟩:=aM e;subst e;exact Be H.K H.H.KO F (ed h1▸hw) hv h2 h3 h4 λγ' s' y F'=>h s' (.mk y F')
theorem yt (O:aK L)(H:az C sx)(F:FS C ρ σ γ s):bO C γ ly (IC L sx x a ρ σ fs) (eval a C.env) s:=
 KT.tF (λh=>tc F (λZ=> .gg .nil) (Ws h).1) λZ=>bG O H F
theorem vc (O:aK L)(H:az C sx)(F:FS C ρ σ γ s):cp C γ (CX L sx a y b ρ σ fs) (PySem.exec (.Assign [.Attribute a y p2] b p) C.env) s:=
 KS.sI λh=>ay h λh1 h2=>KS.un (λQ E h=>plainObj_wpAny_Assign_Attribute h (dY h2 _ _ _))
  (KS.aE (G:=λv Q E s'=>wpAny (aC C) C.A (eval a C.env) (λov s'=>wpAny (aC C) C.A (setAttr ov y v) (λZ=>Q .next) E s') E s') (yt O H F) λv ρ1 σ1 fs1 γ1 u s1 n1 F1 r1=>
   KS.aE (G:=λov Q E s'=>wpAny (aC C) C.A (setAttr ov y u) (λZ=>Q .next) E s') (bG O H F1) λw ρ2 σ2 fs2 γ2 u2 s2 n2 F2 r2=>KS.sO λσ3 h3=>KS.bM (by
    exact aa (bH h1) (te H F2 r2 (aU.aw n2.ext r1) h3 λs3 z=>z.post (n1.trans n2).ext)))
theorem tf (H:az C sx){w j v:V}{σ':St}{u2 u3:Value}{Q:Unit→Shared→Prop}(F:FS C ρ σ γ s)(hw:aU C.D γ.fz γ.αs w u)(hj:aU C.D γ.fz γ.αs j u2)(hv:aU C.D γ.fz γ.αs v u3)(e:yn w j v σ=some σ')(h: ∀s',oB C γ ρ σ' s'→Q () s'):wpAny (aC C) C.A (setItem u u2 u3) Q E s:=
 aR e λk h1 e=>aR e λd h2 e=>aR e λq h3 e=>by
  obtain ⟨h4,e⟩:=aM e;subst e;refine F.fN (ed h1▸hw) h2 λa o pre post hu g3 r wk=> ?_;subst hu;have fin: ∀{h' o'},Fr C.g C.L h' γ.m→News C.g C.L h' (aL {γ with mu:=pre++(a,o')::post} C.rest)→oF C.D γ.fz γ.αs q o'→Q () {s with heap:=h',toks:=s.toks+1}:=λ{h' o'} F' N' hd=>
   h _ (.mk (γ':={γ with mu:=pre++(a,o')::post}) .refl (F.Mh (s':={s with heap:=h',toks:=s.toks+1}) g3 (wk _ _ (.fN hd)) F' N'))
  refine Fo hj (yo h3) (λn t e1 e2=> ?_) λi t e1 e2=> ?_
  ·subst e1 e2;refine zV r pX h3 λf hf ho=> ?_;exact kda_set F.fr F.nw (F.Qm g3) ho (f9 _ _) (dj (by exact fF hf.len (Nat.lt_trans h4 (by decide)))) λh' o' F' N' hd=>fin F' N' (.s (tv Me ⟨n,rfl,rfl⟩ hv hf (iI ho) h3) hd)
  ·subst e1 e2;refine EB r pX h3 λf hf ho=> ?_;exact kda_set F.fr F.nw (F.Qm g3) ho (jH _ _) (dj (by exact fF hf.len (Nat.lt_trans h4 (by decide)))) λh' o' F' N' hd=>fin F' N' (.i (tv N8 rfl hv hf (iI ho) h3) hd)
theorem vd (O:aK L)(H:az C sx)(F:FS C ρ σ γ s):cp C γ (CY L sx a b d ρ σ fs) (PySem.exec (.Assign [.Subscript a b p2] d p) C.env) s:=
 KS.sI λh2=>KS.un (λQ E h=>wpAny_Assign_Subscript h (dY h2 _ _ _))
  (KS.aE (G:=λv Q E s'=>wpAny (aC C) C.A (eval a C.env) (λov s'=>wpAny (aC C) C.A (eval b C.env) (λiv s'=>wpAny (aC C) C.A (setItem ov iv v) (λZ=>Q .next) E s') E s') E s') (bG O H F) λv ρ1 σ1 fs1 γ1 u s1 n1 F1 r1=>
   KS.aE (G:=λov Q E s'=>wpAny (aC C) C.A (eval b C.env) (λiv s'=>wpAny (aC C) C.A (setItem ov iv u) (λZ=>Q .next) E s') E s') (bG O H F1) λw ρ2 σ2 fs2 γ2 u2 s2 n2 F2 r2=>
    KS.aE (G:=λiv Q E s'=>wpAny (aC C) C.A (setItem u2 iv u) (λZ=>Q .next) E s') (bG O H F2) λj ρ3 σ3 fs3 γ3 u3 s3 n3 F3 r3=>KS.sO λσ4 h4=>KS.bM (tf H F3 (aU.aw n3.ext r2) r3 (aU.aw (n2.trans n3).ext r1) h4 λs4 z=>z.post ((n1.trans n2).trans n3).ext))
end
noncomputable abbrev Eh (C:Cx):List Expr→List N→Prop:=bZ λe x=>(∃p,e= .Name (nm x) p)∧C.env.kindOf (nm x)=some .local
theorem rD {xs:List N}: ∀{l:List V} {ρ ρ':ao},nP xs l ρ=some ρ'→xs.length=l.length:=by
 induction xs with
 |nil=>
  intro l ρ ρ' h;cases l with
  |nil=>rfl
  |cons _ _=>exact no h
 |cons x xs ih=>
  intro l ρ ρ' h;cases l with
  |nil=>exact no h
  |cons v l=>exact WJ (·+1) (ih (l:=l) h)
section
variable {sx:Sx}{C:Cx}{ρ ρ':ao}{σ:St}{γ:GS}{s:Shared}{u:Value}{E:Value→Shared→Prop}{x:N}{y:Str}{v:V}{a b d e:Expr}{p:Pos}{fs:List aD}{l:List Expr}{k:Nat}{o:Operator}{xs:List N}
theorem Gb (H:az C sx): ∀{xs},sU sx l=some xs→Eh C l xs:=by
 induction l with
 |nil=>exact λh=>by obtain rfl:=cH h;exact .nil
 |cons e r ih=>
  intro xs h;refine aR h λs h1 h=>ey (x:=(sU sx r).map (dk s::·)) h λh2 h=>cG h λys h3 e1=>cb h1 λp e2=> ?_;subst e1 e2;have hs:=bH (i9 h2);exact .cons ⟨⟨p,WJ (λz=>Expr.Name z p) hs⟩,hs▸gf H h2⟩ (ih h3)
theorem A5 (h:Eh C l xs):(assignEach l C.env).length=xs.length∧(assignEach l C.env).findIdx? (·.1)=none:=by
 induction h with
 |nil=>exact ⟨rfl,rfl⟩
 | @cons e x r xs h _ ih=>
  obtain ⟨⟨p,e'⟩,_⟩:=h;subst e';refine ⟨WJ (·+1) ih.1,?_⟩;show ((false,_)::assignEach r C.env).findIdx? (·.1)=none;exact aa (List.findIdx?_cons) (aa ih.2 rfl)
theorem pL (K:aW C){Q:Unit→Shared→Prop}(h:Eh C l xs): ∀{vs:List V} {us:List Value} {ρ:ao} {γ:GS} {s:Shared},nP xs vs ρ=some ρ'→aH C.D γ.fz γ.αs vs us→FS C ρ σ γ s→(∀s',oB C γ ρ' σ s'→Q () s')→wpAny (aC C) C.A (assignInOrder ((assignEach l C.env).map (·.2)) us) Q E s:=by
 induction h with
 |nil=>
  intro vs us ρ γ s e r F k
  induction r with
  |nil=>obtain rfl:=cH e;exact wpAny_assignInOrder_none (k s (.mk .refl F))
  |cons _ _=>exact no e
 | @cons e x r xs h _ ih=>
  intro vs us ρ γ s e r F k;obtain ⟨⟨p,e'⟩,hk⟩:=h;subst e'
  induction r with
  |nil=>exact no e
  |cons h1 h2=>
   show wpAny (aC C) C.A (assignInOrder (assign (.Name (nm x) p) C.env::(assignEach r C.env).map (·.2)) (_::_)) Q E s;refine wpAny_assignInOrder_more (wpAny_assign_Name (gz K F hk h1 λs1 z=> ?_));obtain ⟨y,F1⟩:=z;exact ih e (aH.aw y h2) F1 λs2 z=>k s2 (z.ext y)
theorem B8 {x1:Nat}(h1:eI a=true)(h2:(LG a).isNone=true):swappedStores [.Tuple l x1 p2] a C.env=pure none:=by
 cases a with
 |Tuple _ _ _=>exact bK h2
 |_=>rfl
theorem vf (O:aK L)(H:az C sx)(F:FS C ρ σ γ s){x1:Nat}:cp C γ (CZ L sx l a ρ σ fs) (PySem.exec (.Assign [.Tuple l x1 p2] a p) C.env) s:=
 KS.sI λh=>ay h λh h3=>ay h λh1 h2=>KS.sO λxs hx=>KS.un (λQ E h=>wpAny_Assign_stores h (show swapsWith a (some (.Tuple l x1 p2)) p.line C.env=pure false from dY h2 _ _ _) (B8 h2 h3))
  (KS.aE (G:=λu Q E s'=>wpAny (aC C) C.A (assignAll u ((assignEach [.Tuple l x1 p2] C.env).map (·.2))) (λZ=>Q .next) E s') (bG O H F) λw ρ1 σ1 fs1 γ1 u s1 n1 F1 r1=>KS.sO λvs hv=>KS.sO λρ2 hp=>KS.bM (by
   cases w with
   |au q=>
    obtain rfl:=cH hv;refine aU.eV r1 λb us n hu hm r=> ?_;subst hu;show wpAny (aC C) C.A (assign (.Tuple l x1 p2) C.env (.ref b)) _ _ _;have hn:=Gb H hx;obtain ⟨g1,g2⟩:=A5 hn;refine wpAny_assign_Tuple (H.lp h1) (ef (F1.at H.K hm)) (by exact aa g1 (aa (rD hp) (aa r.len (aa List.size_toArray rfl)))) g2 λh' hx=> ?_;exact pL H.K hn hp r (F1.keep (s':={s1 with heap:=h'}) (F1.fr.keeps λb o e=>hx b o (Nat.ne_of_lt (Heap.lt_size e)) e) (F1.nw.grown λb o e=>hx b o (Nat.ne_of_lt (Heap.lt_size e)) e)) λs2 z=>z.post n1.ext
   |_=>exact no hv))
theorem TS.nO {ks k:Ks}{x:TS}:(x.pre k).pre ks=x.pre (ks++k):=by
 cases x with
 |bM _ _ q=>exact WJ (TS.bM _ _) (Wn ks k q).symm
 |bC=>rfl
theorem TO.yL {α β:Type}{x:TO α}{f:α→ao→St→List aD→TO β}{g:β→ao→St→List aD→TS}:(x.bind f).so g=x.so λa ρ σ fs=>(f a ρ σ fs).so g:=by
 cases x with
 |ok a ρ σ fs q=>
  show ((f a ρ σ fs).pre q).so g=((f a ρ σ fs).so g).pre q;cases f a ρ σ fs with
  |ok _ _ _ _ _=>exact TS.nO.symm
  |ba _ _ _ _=>rfl
  |bC=>rfl
 |ba _ _ _ q=>rfl
 |bC=>rfl
theorem KS.Gy {o:TS}(h:KS C γ o P):KS C γ (o.pre []) P:=KS.pre λZ=>h
theorem KS.Nk {γ0:GS}(O:aK L)(H:az C sx)(F:FS C ρ σ γ s)(ho:KH o=true){i:Int}{t:Tok}{f:Int→ao→St→List aD→TS}{G:Value→(Flow→Shared→Prop)→(Value→Shared→Prop)→Shared→Prop}
  (k: ∀j ρ σ fs γ' s' t,Nx γ γ'→FS C ρ σ γ' s'→KS C γ0 (f j ρ σ fs) λQ E=>G (.int j t) Q E s'):KS C γ0 ((v7 L sx o i d ρ σ fs).so f) λQ E=>wpAny (aC C) C.A (eval d C.env) (λv s'=>wpAny (aC C) C.A (inplaceOp o (.int i t) v) (λr s'=>G r Q E s') E s') E s:=by
 unfold v7;refine aa TO.yL ?_;refine KS.aE (G:=λv Q E s'=>wpAny (aC C) C.A (inplaceOp o (.int i t) v) (λr s'=>G r Q E s') E s') (bG O H F) λw ρ1 σ1 fs1 γ1 u s1 n1 F1 r1=> ?_;refine ax (x:=(bT w).bind (cF o i)) (λq=> ?_) λj q=> ?_
 ·exact aa q False.elim
 ·refine aa q ?_;refine aR q λm hm hj=>gY hm r1 λt' hu=> ?_;subst hu;exact KS.Gy (KS.un (λQ E h=>Ax ho hj h) (k j ρ1 σ1 fs1 γ1 _ _ n1 F1.same))
theorem yu (O:aK L)(H:az C sx)(F:FS C ρ σ γ s):cp C γ (ID L sx y o d ρ σ fs) (PySem.exec (.AugAssign (.Name y p2) o d p) C.env) s:=
 KS.sI λh=>ay h λh ho=>ay h λhl hX=>KS.sO λi hi=>aR hi λw hw hi=>by
  have hk:=gf H hl;have hy:=bH (i9 hl);obtain ⟨u,h1,h2⟩:=F.ow.As (mJ hw) ((H.X _).trans hX);refine gY hi h2 λt hu=> ?_;subst hu;have hm:γ.m y=some (.int i t):=by
   unfold bP at h1;rw [←hy,hk] at h1;exact h1
  exact KS.un (λQ E h=>wpAny_AugAssign_Name (wpAny_loadName_local H.K.hk hk F.fr.ns hm h)) (KS.Nk (G:=λr Q E s'=>wpAny (aC C) C.A (storeName C.env y r) (λZ=>Q .next) E s') O H F ho λj ρ1 σ1 fs1 γ1 s1 t1 n1 F1=>KS.bM (by
   have q:=gz (x:=dk y) (E:=iW C (.next (b8 ρ1 (dk y) (.val (.int j))) σ1)) (Q:=λZ=>aQ C γ (.next (b8 ρ1 (dk y) (.val (.int j))) σ1) .next) H.K F1 (hy▸hk) (.int j t1) λs2 z=>z.post n1.ext;rw [←hy] at q;exact q))
theorem vh (O:aK L)(H:az C sx)(F:FS C ρ σ γ s):cp C γ (C3 L sx a y o d ρ σ fs) (PySem.exec (.AugAssign (.Attribute a y p2) o d p) C.env) s:=
 KS.sI λh=>ay h λh1 ho=>KS.un (λQ E h=>wpAny_AugAssign_AttributeAny h) (KS.aE (G:=λov Q E s'=>wpAny (aC C) C.A (getAttr ov y true) (λold s'=>wpAny (aC C) C.A (eval d C.env) (λv s'=>wpAny (aC C) C.A (inplaceOp o old v) (λnew s'=>wpAny (aC C) C.A (setAttr ov y new) (λZ=>Q .next) E s') E s') E s') E s') (bG O H F) λw ρ1 σ1 fs1 γ1 u s1 n1 F1 r1=>
  KS.sO λi hi=>aR hi λz hz hi=>λg=>by
   have q:=xO (b:=true) H F1 r1 hz;rw [←bH h1] at q;refine wpAny_mono q (λx s2 q=> ?_) λZ Z q=>q.elim;cases q with
   |mk n2 F2 r2=>
    refine gY hi r2 λt hu=> ?_;subst hu;exact (KS.Nk (G:=λnew Q E s'=>wpAny (aC C) C.A (setAttr u y new) (λZ=>Q .next) E s') O H F2 ho λj ρ3 σ3 fs3 γ3 s3 t3 n3 F3=>KS.sO λσ4 h4=>KS.bM (by
     have q:=te (E:=iW C (.next ρ3 σ4)) (Q:=λZ=>aQ C γ (.next ρ3 σ4) .next) H F3 (aU.aw (n2.trans n3).ext r1) (.int j t3) h4 λs4 z=>z.post ((n1.trans n2).trans n3).ext;rw [←bH h1] at q;exact q)) g)
theorem Bc (F:FS C ρ σ γ s){w:V}{n:N}{i:Int}{t:Tok}(hr:aU C.D γ.fz γ.αs w u)(h:Ju w n σ=some i):wpAny (aC C) C.A (getItem u (.str (nm n) t)) (λz s'=>FS C ρ σ γ s'∧ ∃t,z= .int i t) (λZ Z=>False) s:=
 aR h λdd h1 h=>aR h λz h2 h=>aR h λv h3 h4=>i0 h1 λk hk hd=>by
  injection hk with eA;subst eA
  refine F.fN hr hd λa o pre post hu g3 hD Z=> ?_;subst hu h3;refine zV hD f7 h2 λf hf ho=> ?_;obtain ⟨x,hx,hR⟩:=iO Me ⟨n,rfl,rfl⟩ hf h2;exact wpAny_getItem_of (knd:=PySem.strKind pw C.D.w) (k:=nm n) (f9 _ _) (eg (F.eZ (g3▸iK)) ho) hx ⟨F.same,gY h4 hR λt hu=>⟨t,hu⟩⟩
theorem vj (O:aK L)(H:az C sx)(F:FS C ρ σ γ s):cp C γ (C4 L sx a b o d ρ σ fs) (PySem.exec (.AugAssign (.Subscript a b p2) o d p) C.env) s:=
 KS.sO λy hy=>gG hy λk q e=>by
  subst e;refine KS.sI λh=>ay h λh1 ho=>KS.un (λQ E h=>wpAny_AugAssign_SubscriptAny h (λZ Z Z=>rfl)) (KS.aE (G:=λov Q E s'=>wpAny (aC C) C.A (eval (.Constant (.str y) k q) C.env) (λiv s'=>wpAny (aC C) C.A (getItem ov iv) (λold s'=>wpAny (aC C) C.A (eval d C.env) (λv s'=>wpAny (aC C) C.A (inplaceOp o old v) (λnew s'=>wpAny (aC C) C.A (setItem ov iv new) (λZ=>Q .next) E s') E s') E s') E s') E s') (bG O H F) λw ρ1 σ1 fs1 γ1 u s1 n1 F1 r1=>KS.sO λi hi g=>wpAny_Constant_str ?_);have z:=Bc (s:={s1 with toks:=s1.toks+1}) (t:=s1.toks) F1.same r1 hi;rw [←bH h1] at z;refine wpAny_mono z (λx s2 z=> ?_) λZ Z q=>q.elim;obtain ⟨F2,t,hu⟩:=z;subst hu;exact (KS.Nk (G:=λnew Q E s'=>wpAny (aC C) C.A (setItem u (.str y s1.toks) new) (λZ=>Q .next) E s') O H F2 ho λj ρ3 σ3 fs3 γ3 s3 t3 n3 F3=>KS.sO λσ4 h4=>KS.bM (by
   have z:=tf (u2:= .str (nm (dk y)) s1.toks) (E:=iW C (.next ρ3 σ4)) (Q:=λZ=>aQ C γ (.next ρ3 σ4) .next) H F3 (aU.aw n3.ext r1) (.str _ _) (.int j t3) h4 λs4 z=>z.post (n1.trans n3).ext;rw [←bH h1] at z;exact z)) g
end
theorem ym {ns:List N}: ∀{l l':List V} {x:N} {v:V},yl ns l x v=some l'→jA (ns.zip l) x v=ns.zip l'∧x∈ns:=by
 induction ns with
 |nil=>exact no
 |cons y r ih=>
  intro l l' x v e;cases l with
  |nil=>exact no e
  |cons w l=>
   have e:(if y=x then some (v::l) else (yl r l x v).map (w::·))=some l':=e;show (if y=x then (y,v)::r.zip l else (y,w)::jA (r.zip l) x v)=_∧_;by_cases q:y=x
   ·rw [WE q] at e⊢;obtain rfl:=cH e;exact ⟨rfl,q▸ .head _⟩
   ·rw [WG q] at e⊢;refine cG e λl2 h e=> ?_;subst e;exact ⟨WJ ((y,w)::·) (ih h).1,.tail _ (ih h).2⟩
theorem oK {v:V}{p:N×List V}:qN v=some p→v= .aO p.1 p.2:=by
 cases v with
 |aO c l=>exact λh=>by obtain rfl:=cH h;rfl
 |_=>exact no
inductive CG (D:Wd)(fz:aJ)(αs:List Addr)(c:N)(l:List V)(q:List V)(vs:List Value)(ld:aJ):Prop
 |mk {vs0 ld0 a d ns es n} (h1:vs=vs0++[.ref a]) (h2:ld=ld0++dO D c a d es n) (hc:gP c=some ns) (r:dH D fz αs (ns.zip l) es) (t:qy D fz αs q.dropLast vs0 ld0):CG D fz αs c l q vs ld
theorem Cn {D:Wd}{fz:aJ}{αs:List Addr}{c:N}{l q:List V}{vs:List Value}{ld:aJ}(h:qy D fz αs q vs ld):q.getLast? =some (.aO c l)→CG D fz αs c l q vs ld:=by
 induction h with
 |nil=>exact no
 | @cons c' l' a d ns es n q vs ld h1 h2 h3 ih=>
  intro e
  induction h3 with
  |nil=>cases e;exact .mk (vs0:=[]) (ld0:=[]) rfl rfl h1 h2 .nil
  |cons k1 k2 k3=>
   obtain ⟨e1,e2,e3,e4,e5⟩:=ih (List.getLast?_cons_cons.symm.trans e);exact .mk (WJ (_::·) e1) (WJ (λz=>_::_::z) e2) e3 e4 (.cons h1 h2 e5)
theorem xy: ∀p∈wR,SI∈p.2→hZ p.1 SI=true:=by decide+kernel
theorem Ap: ∀p∈wR,p.2.length≤6:=by decide+kernel
theorem lQ {t o:Expr}{s:Str}(h:vZ t=some (o,s)): ∃p,t= .Attribute o s p:=by
 have z:=kY t;unfold vZ at h;revert h z;generalize vE t=v;intro h z
 induction z with
 | @IA e s p=>obtain ⟨rfl,rfl⟩:=OU h;exact ⟨p,rfl⟩
 |_=>exact no h
theorem vt {t o i:Expr}(h:Hb t=some (o,i)): ∃p,t= .Subscript o i p:=by
 have z:=kY t;unfold Hb at h;revert h z;generalize vE t=v;intro h z
 induction z with
 | @sub e s p=>obtain ⟨rfl,rfl⟩:=OU h;exact ⟨p,rfl⟩
 |_=>exact no h
theorem uQ {t e:Expr}(h:FW t=some e): ∃p,t= .UnaryOp .USub e p:=by
 have z:=kY t;unfold FW at h;revert h z;generalize vE t=v;intro h z
 induction z with
 | @LJ o e p=>
  obtain ⟨h1,h2⟩:=aM h;subst h1 h2;exact ⟨p,rfl⟩
 |_=>exact no h
theorem rn {t o:Expr}{P:Prop}(h:Dx t=some o)(k: ∀k p2 p5 p6 p7,t= .Attribute (.Subscript o (.UnaryOp .USub (.Constant (.int 1) k p5) p6) p7) (nm SI) p2→P):P:=
 aR h λp h1 h=>aR h λq h2 h=>aR h λe h3 h=>by
  obtain ⟨⟨h4,h5⟩,h6⟩:=aM h;obtain ⟨p,x⟩:=p;obtain ⟨a,i⟩:=q;have h5:x=_:=h5;have h6:a=o:=h6;subst h5 h6;exact (lQ h1).elim λp2 e1=>(vt h2).elim λp7 e2=>(uQ h3).elim λp6 e3=>eX h4 λk' p5 e4=>by
   have e2:p=_:=e2;have e3:i=_:=e3;subst e2 e3 e4;exact k _ _ _ _ _ e1
section
variable {sx:Sx}{C:Cx}{ρ:ao}{σ σ':St}{γ:GS}{s:Shared}{u:Value}{E:Value→Shared→Prop}{v w:V}{a b t:Expr}{p p5 p6 p7:Pos}{fs:List aD}{k:Nat}
set_option tactic.hygienic true in
theorem Bd (H:az C sx){i:Expr}{tk:Tok}{Q:Unit→Shared→Prop}(hs:dJ i=true)(F:FS C ρ σ γ s)(hr:aU C.D γ.fz γ.αs w u)(hv:aU C.D γ.fz γ.αs v u2)(e:pj w v σ=some σ')(h: ∀s',oB C γ ρ σ' s'→Q () s'):
  wpAny (aC C) C.A (subscriptTail a i u (.int (-1) tk)) (λov s'=>wpAny (aC C) C.A (setAttr ov (nm SI) u2) Q E s') E s:=
 aR e λk h1 e=>aR e λq h2 e=>aR e λz h3 e=>aR e λp h4 e=>aR e λns hc e=>cG e λl' h6 e=>by
  obtain ⟨c,l⟩:=p;subst e;have hz:=oK h4;subst hz;refine F.iT (ed h1▸hr) h2 λA vs en ld pre post hu g3 t wk=> ?_;subst hu;obtain ⟨e1,e2,e3,rA,e5⟩:=Cn t h3;rename_i vs0 ld0 x d ns' es n;obtain rfl:=cH (hc.symm.trans e3);subst e1 e2;have hl:=bF (F.eZ (g3▸iK));refine tail_any hl.typeIs slot_list_getitem.lookup (wpAny_getItem_list_neg hl (by decide) (by exact aa List.size_toArray (aa Wo (Int.ofNat_le.mpr (Nat.le_add_left 1 _)))) (by decide) (x:= .ref x) ?_ ?_) (bV hs)
  ·refine aa List.size_toArray (aa (List.getElem?_toArray) (aa Wo (aa List.length_singleton (aa (show ((-1:Int)+((vs0.length+1:Nat):Int)).toNat=vs0.length by simp+arith) ?_))));exact List.getElem?_concat_length
  ·obtain ⟨z1,z3⟩:=ym h6;have e0:γ.mu=(pre++((A,bh (vs0++[.ref x]) en)::(ld0++[(x,instObj (C.D.ca c) d)])))++(d,dictOf es n)::post:=by
    refine aa g3 ?_;rw [Wn pre];show pre++(A,_)::((ld0++dO C.D c x d es n)++post)=pre++(A,_)::((ld0++[(x,instObj (C.D.ca c) d)])++((d,dictOf es n)::post));rw [Wn ld0,Wn ld0];rfl
   refine nY H.K (H.H.KO c SI (xy (c,ns) (aZ hc) z3)) F (F.eZ ?_) (F.eZ (e0▸iK)) rA hv ?_ (λo=>F.Oj e0) λes' en' h' r' F' N'=> ?_
   ·exact aa e0 (WC _ (WB _ (.tail _ (WB _ (.head _)))))
   ·have:=Ap (c,ns) (aZ hc);exact aa List.length_zip (WD (Nat.min_le_left ..) (WD this (by decide)))
   ·refine h {s with heap:=h',toks:=s.toks+2} (.mk (γ':={γ with mu:=(pre++((A,bh (vs0++[.ref x]) en)::(ld0++[(x,instObj (C.D.ca c) d)])))++(d,dictOf es' en')::post}) .refl (F.Mh e0 ?_ F' N'));have z:=wk _ _ (.iT (e:=en) (qi (x:=x) (d:=d) (en:=en') hc (z1▸r') e5));have e7:pre++(((A,bh (vs0++[.ref x]) en)::(ld0++dO C.D c x d es' en'))++post)=(pre++((A,bh (vs0++[.ref x]) en)::(ld0++[(x,instObj (C.D.ca c) d)])))++(d,dictOf es' en')::post:=by
     rw [Wn pre];show pre++(A,_)::((ld0++dO C.D c x d es' en')++post)=pre++(A,_)::((ld0++[(x,instObj (C.D.ca c) d)])++((d,dictOf es' en')::post));rw [Wn ld0,Wn ld0];rfl
    exact e7▸z
theorem yF (O:aK L)(H:az C sx)(F:FS C ρ σ γ s):cp C γ (Dy L sx a b ρ σ fs) (PySem.exec (.Assign [.Attribute (.Subscript a (.UnaryOp .USub (.Constant (.int 1) k p5) p6) p7) (nm SI) p2] b p) C.env) s:=
 KS.sI λh2=>KS.un (λQ E h=>plainObj_wpAny_Assign_Attribute h (dY h2 _ _ _))
  (KS.aE (G:=λv Q E s'=>wpAny (aC C) C.A (eval (.Subscript a (.UnaryOp .USub (.Constant (.int 1) k p5) p6) p7) C.env) (λov s'=>wpAny (aC C) C.A (setAttr ov (nm SI) v) (λZ=>Q .next) E s') E s') (bG O H F) λv ρ1 σ1 fs1 γ1 u s1 n1 F1 r1=>
   KS.un (λQ E h=>Subscript_ h) (KS.aE (G:=λov Q E s'=>wpAny (aC C) C.A (eval (.UnaryOp .USub (.Constant (.int 1) k p5) p6) C.env) (λi s'=>wpAny (aC C) C.A (subscriptTail a (.UnaryOp .USub (.Constant (.int 1) k p5) p6) ov i) (λov s'=>wpAny (aC C) C.A (setAttr ov (nm SI) u) (λZ=>Q .next) E s') E s') E s') (bG O H F1) λw ρ2 σ2 fs2 γ2 u2 s2 n2 F2 r2=>KS.sO λσ3 h3=>KS.bM
    (UnaryOp_ (wpAny_Constant_int (neg_int (Bd H rfl (F2.same (s':={s2 with toks:=s2.toks+1+1})) r2 (aU.aw n2.ext r1) h3 λs3 z=>z.post (n1.trans n2).ext))))))
end
section
variable {M:Model}{E:Value→Shared→Prop}{s:Shared}{env:PySem.Env}{base:Heap}{l:List PySem.Env}{e L:Addr}{cls a0:Value}
theorem ux (hf:env.frame=some L)(hh:Heap.HeldW base l e cls a0 L s.heap)(f2:F2 e s.heap)(hQ: ∀h',Heap.HeldW base l e cls a0 L h'→s.heap.UpToSlots h'→F2 e h'→E (.ref e) {s with heap:=h'}):
  cameBackBy M A env E (.ref e) s:=by
 obtain ⟨k1,k2,k3,oe,vs,T,oT,ts,he,hcls,hd,h1,hnT,hTe,hT,hdT,h3⟩:=hh;have du: ∀b,b≠T→(s.heap.update T (Obj.mapFields (·.setIfInBounds 3 (rawInt L)))).get? b=s.heap.get? b:=λb hb=>Heap.get?_update_other _ _ (Ne.symm hb);have noRecord: ∀b o,s.heap.get? b=some o→(∀vs,o.data≠ .fields vs)→b≠T:=λb o hb hnf q=>by
  rw [q,hT] at hb;injection hb with hb;subst hb;exact hnf ts hdT
 have hsz3:3<ts.size:=(Array.getElem?_eq_some_iff.mp h3).1;unfold cameBackBy;refine aa (show setFlight (.ref e) env.frame=setFlight (.ref e) (some L) by rw [hf]) ?_;refine wpAny_bind (wpAny_field he hd h1 ?_);refine aa (WG (show¬((Value.ref T==Value.none)=true) by simp)) ?_;unfold setFlight;refine wpAny_bind (wpAny_field he hd h1 ?_);refine aa (WE (show (Value.ref T !=Value.none)=true by simp)) ?_;refine wpAny_setField hT hdT hsz3 (hQ _ ⟨λb o hbo=>(du b λq=>by rw [q,hnT] at hbo;exact ig hbo).trans (k1 b o hbo),k2,k3.of_keeps λb o hb hnf=>⟨o,(du b (noRecord b o hb hnf)).trans hb,rfl⟩,?_⟩
  (λb o hb hnf=>⟨o.slots,(du b (noRecord b o hb hnf)).trans hb⟩) (by obtain ⟨a,b,c⟩:=f2;exact ⟨(du e (Ne.symm hTe)).trans a,b,c⟩))
 exact ⟨oe,vs,T,_,_,(du e (Ne.symm hTe)).trans he,hcls,hd,h1,hnT,hTe,Heap.get?_update_self _ hT (Obj.isFreed_of_fields (Obj.data_mapFields hdT _)),Obj.data_mapFields hdT _,by simp [hsz3]⟩
end
section
variable {sx:Sx}{C:Cx}{ρ:ao}{σ:St}{γ:GS}{s:Shared}{e:Value}{o:SO}{R:aJ}{b:List Stmt}{p:Pos}{fs fs':List aD}{ks:Ks}
theorem xV {A:Around}(hA:A.frames=some (C.env::C.outer))(hfr:C.env.frame=some C.L)(hc:C.comp=false)(h:b7 C ρ σ e s):notedBy (aC C) A C.env (cameBackBy (aC C) C.A C.env (b7 C ρ σ)) e s:=by
 cases h with
 |comp h=>rw [hc] at h;exact bK h
 | @«at» γ x t vs gh _ R=>
  have fin: ∀(B:Heap) (h₁:Heap),C.base.StaysIn B→(∀q∈aL γ C.rest,B.get? q.1=some q.2∧C.base.get? q.1=none)→B.get? t=none→Heap.TupAt h₁ t vs→gh.UpToSlots h₁→Heap.HeldW B (C.env::C.outer) x (.ref C.D.ps) (.ref t) C.L h₁→F2 x h₁→
    cameBackBy (aC C) C.A C.env (b7 C ρ σ) (.ref x) {s with heap:=h₁}:=λB h₁ hB hl hn ht hu hh f2=>
   ux (s:={s with heap:=h₁}) hfr hh f2 λh₂ hh₂ u₂ f2'=> .at ⟨R.fr,hu.trans u₂,.lH hB hl hh₂ hn (ht.of_slots u₂),R.ds,R.ow,R.mu,R.ge,R.os,R.x0,f2'⟩
  unfold notedBy;cases R.ra with
  |zp r=>
   obtain ⟨⟨B,hB,hl,hfl,hnew⟩,htup⟩:=r;exact eQ hA hfr hfl R.f2 λh₁ hh u f2=>fin B h₁ hB hl hnew (htup.of_slots u) (R.up.trans u) hh f2
  |lH hB hl hh hn ht=>exact wpAny_noteFrame_againW hfr hh.2.2.2 (fin _ s.heap hB hl hn ht R.up hh R.f2)
theorem uW {M:Model}{A A':Around}{env:PySem.Env}{E E':Value→Shared→Prop}(k: ∀e s,E e s→E' e s)(h:notedBy M A env (cameBackBy M A' env E) e s):notedBy M A env (cameBackBy M A' env E') e s:=
 have q: ∀e s,cameBackBy M A' env E e s→cameBackBy M A' env E' e s:=λe s h=>wpAny_mono h (λZ Z q=>k _ _ q) λZ Z q=>k _ _ q
 wpAny_mono h (λZ Z h=>q _ _ h) λZ Z h=>q _ _ h
theorem mZ {A:Around}(hA:A.frames=some (C.env::C.outer))(hfr:C.env.frame=some C.L)(hc:C.comp=false)(h:iW C o e s):notedBy (aC C) A C.env (cameBackBy (aC C) C.A C.env (iW C o)) e s:=by
 induction h with
 |ba R=>exact uW (λZ Z q=> .ba q) (xV hA hfr hc R)
noncomputable def cW (C:Cx)(γ:GS)(o:SO):Result→Shared→Prop:=λr s'=>match r with
 | .ok f=>aQ C γ o f s'
 | .error e=>cameBackBy (aC C) C.A C.env (iW C o) e s'
inductive PI {α β:Type}(C:Cx)(γ:GS)(rel:Cx→GS→α→β→Prop)(f:α→ao→St→List aD→TS)(o:SO)(b:β)(s:Shared):Prop
 |mk {a ρ σ fs fs' ks γ'} (e:f a ρ σ fs= .bM o fs' ks) (k:bN ks) (n:Nx γ γ') (F:FS C ρ σ γ' s) (r:rel C γ' a b):PI C γ rel f o b s
theorem gC {x:TS}{k:Ks}(h:x.pre k= .bM o fs ks): ∃q,x= .bM o fs q∧ks=k++q:=by
 cases x with
 |bM o' fs' q=>cases h;exact ⟨q,rfl,rfl⟩
 |bC=>cases h
theorem G4 {α β:Type}{rel:Cx→GS→α→β→Prop}{x:TO α}{m:Sem β}{f:α→ao→St→List aD→TS}(h:bO C γ rel x m s)(e:x.so f= .bM o fs' ks)(k:bN ks):wpAny (aC C) C.A m (PI C γ rel f o) (iW C o) s:=by
 cases x with
 |bC=>cases e
 |ba ρ σ fs q=>
  cases e;exact wpAny_mono (h k) (λZ Z z=>z.elim) λZ Z z=> .ba z
 |ok a ρ σ fs q=>
  obtain ⟨q',e2,hk⟩:=gC e;subst hk;exact wpAny_mono (h (bN.eU k).1) (λZ Z z=>by cases z with|mk n F r=>exact .mk e2 (bN.eU k).2 n F r) λZ Z z=>z.elim
theorem qm {C1:Cx}(hA:C.A.frames=some (C.env::C.outer))(hfr:C.env.frame=some C.L)(hc:C.comp=false)(e1:C1=C.aS R)(hs: ∀p∈C.rest,p∈R)(dr: ∀{ρ σ γ s},FS (C.aS R) ρ σ γ s→FS C ρ σ γ s)(dx: ∀{ρ σ e s},b7 (C.aS R) ρ σ e s→b7 C ρ σ e s){x:TS}{m:Sem Flow}{k:ao→St→List aD→TS}{n:Nat}{I:Nat→Shared→Prop}(y:dE γ.fz γ.αs γ2.fz γ2.αs)
  (h:cp (C.aS R) γ2 x m s) (e:gq x k= .bM o fs' ks) (hk:bN ks) (hI: ∀ρ σ fs k2 γ3 s',k ρ σ fs= .bM o fs' k2→bN k2→dE γ2.fz γ2.αs γ3.fz γ3.αs→FS (C.aS R) ρ σ γ3 s'→I n s'):wpAny (aC C) C.A m (λf s'=>match f with
    | .next| .cont=> ∃j,j<n+1∧I j s'
    | .brk=>cW C γ o (.ok .next) s'
    | .ret v=>cW C γ o (.ok (.ret v)) s') (notedBy (aC C) C.A C.env λe s'=>cW C γ o (.error e) s') s:=by
 cases x with
 |bC=>cases e
 |bM bo fsb kb=>
  have go:bN kb→wpAny (aC C) C.A m (aQ (C.aS R) γ2 bo) (iW (C.aS R) bo) s:=h;cases bo with
  |next ρ2 σ2=>
   obtain ⟨q,e2,hq⟩:=gC e;subst hq;exact wpAny_mono (go (bN.eU hk).1) (λf s2 z=>by cases z with|next z=>obtain ⟨y3,F3⟩:=z;exact ⟨n,Nat.lt_succ_self n,hI _ _ _ _ _ _ e2 (bN.eU hk).2 y3 F3⟩) λZ Z z=>nomatch z
  |ew ρ2 σ2=>
   obtain ⟨q,e2,hq⟩:=gC e;subst hq;exact wpAny_mono (go (bN.eU hk).1) (λf s2 z=>by cases z with|ew z=>obtain ⟨y3,F3⟩:=z;exact ⟨n,Nat.lt_succ_self n,hI _ _ _ _ _ _ e2 (bN.eU hk).2 y3 F3⟩) λZ Z z=>nomatch z
  |brk ρ2 σ2=>
   cases e;exact wpAny_mono (go hk) (λf s2 z=>by cases z with|brk z=>obtain ⟨y3,F3⟩:=z;exact aQ.next (.mk (y.trans y3) (dr F3))) λZ Z z=>nomatch z
  |ret v σ2=>
   cases e;exact wpAny_mono (go hk) (λf s2 z=>by cases z with|ret y3 F3 r=>exact aQ.ret (y.trans y3) (dr F3) r) λZ Z z=>nomatch z
  |ba ρ2 σ2=>
   cases e;exact wpAny_mono (go hk) (λf s2 z=>nomatch z) λZ Z z=>by cases z with|ba z=>exact mZ hA hfr hc (.ba (dx z))
end
section
variable {sx:Sx}{C:Cx}{ρ:ao}{σ:St}{γ:GS}{s:Shared}{o:SO}{b l:List Stmt}{st:Stmt}{p:Pos}{fs fs':List aD}{ks:Ks}{x:N}
theorem n5 {q:Option (zQ×List aD)}(H:az C sx)(F:FS C ρ σ γ s)(h:cp C γ ts (PySem.exec st C.env) s):cp C γ (B7 sx st ρ σ q ts) (PySem.exec st C.env) s:=
 KS.sE (λZ=>h) λp Z g=>by
  obtain ⟨⟨f,st',ρ',σ',o,h⟩,fs'⟩:=p;have g:dG.eJ st ρ σ sx=dG.eJ st' ρ' σ' (bj f ρ' σ'):=g.1;cases g;exact h C γ s H F
noncomputable def gS (p:N×LV):Bool:=match p.2 with
 | .val _=>true
 | .own _=>false
noncomputable def CL (ρ2 ρ:ao):Prop:= ∃ex:ao,ρ=ρ2++ex∧ex.all gS=true
noncomputable def HI (p:ao→St→Prop)(ρ:ao)(σ:St):Prop:= ∃ρ2,CL ρ2 ρ∧p ρ2 σ
noncomputable def Dn (p:ao→St→Prop)(o:SO):Prop:=match o with
 | .next ρ σ=>HI p ρ σ
 | .ew ρ σ=>HI p ρ σ
 |_=>False
noncomputable def xT (o:SO)(o1:SO):Prop:=match o1 with
 | .brk ρ σ=> ∃ρ2,CL ρ2 ρ∧o= .next ρ2 σ
 | .ret v σ=>o= .ret v σ
 | .ba ρ σ=>o= .ba ρ σ
 |_=>False
noncomputable def vV (o o1:SO):Prop:=o1=o∨ ∃ρ ρ2 σ,o1= .next ρ σ∧CL ρ2 ρ∧o= .next ρ2 σ
theorem CL.refl {ρ:ao}:CL ρ ρ:=⟨[],(Wr _).symm,rfl⟩
theorem l5 {r r2:ao}(h:cu (r++r2) x=none):cu r x=none:=by
 induction r with
 |nil=>rfl
 |cons p r ih=>
  have h:(if p.1=x then some p.2 else cu (r++r2) x)=none:=h;show (if p.1=x then some p.2 else cu r x)=none;by_cases q:p.1=x
  ·rw [WE q] at h;exact AZ h
  ·rw [WG q] at h⊢;exact ih h
theorem dZ.all {D:Wd}{env:PySem.Env}{X:N→Bool}{m:Str→Option Value}{aG fz:aJ}{αs:List Addr}{aL:aJ}: ∀{ex:ao},dZ D env X m aG fz αs ex aL→ex.all gS=true→dZ D env X m aG fz αs [] aL
 |[],o,_=>o
 |_::_,o,h=>by
  cases o with
  |val _ _ _ o=>exact dZ.all o (ay (a:=true) h λZ h=>h)
  |own _ _ _ o=>exact bK h
theorem dZ.sub {D:Wd}{env:PySem.Env}{X:N→Bool}{m:Str→Option Value}{aG fz:aJ}{αs:List Addr}{ex:ao}: ∀{ρ:ao} {aL:aJ},dZ D env X m aG fz αs (ρ++ex) aL→ex.all gS=true→dZ D env X m aG fz αs ρ aL
 |[],_,o,h=>o.all h
 |_::_,_,o,h=>by
  cases o with
  |val g a r o=>exact .val (l5 g) a r (dZ.sub o h)
  |own g a r o=>exact .own (l5 g) a r (dZ.sub o h)
theorem FS.sub {ρ2:ao}(h:CL ρ2 ρ)(F:FS C ρ σ γ s):FS C ρ2 σ γ s:=by
 obtain ⟨ex,e,h⟩:=h;subst e;exact ⟨F.fr,F.nw,F.ds,F.ow.sub h,F.mu,F.ge,F.os,F.x0⟩
theorem aQ.sub {o1:SO}{f:Flow}(h:vV o o1)(z:aQ C γ o1 f s):aQ C γ o f s:=by
 rcases h with e|⟨ρ,ρ2,σ,e,h,e2⟩
 ·exact e▸z
 ·subst e e2;cases z with
  |next z=>obtain ⟨x,F⟩:=z;exact .next (.mk x (F.sub h))
theorem iW.sub {o1:SO}{e:Value}(h:vV o o1)(z:iW C o1 e s):iW C o e s:=by
 rcases h with q|⟨ρ,ρ2,σ,q,h,e2⟩
 ·exact q▸z
 ·subst q;exact nomatch z
noncomputable def qJ (p:ao→St→Prop)(o:SO)(x:List aD→TS):Prop:= ∃fs o1 fs' ks,x fs= .bM o1 fs' ks∧bN ks∧(Dn p o1∨xT o o1)
noncomputable def lK (L:Lv)(sx:Sx)(c:Expr)(b:List Stmt)(ρ:ao)(σ:St)(fs:List aD):TS:=(L.ev sx true c ρ σ fs).so λt ρ σ fs=>sO (cc t) λt=>sF t (L.bl sx b ρ σ fs) (.bM (.brk ρ σ) fs [])
noncomputable def t5 (L:Lv)(sx:Sx)(c:Expr)(b:List Stmt)(o:SO):Nat→ao→St→Prop
 |0,_,_=>False
 |n+1,ρ,σ=>qJ (t5 L sx c b o n) o (lK L sx c b ρ σ)
noncomputable def tX (L:Lv)(sx:Sx)(get:ao→St→Option (List V))(x:N)(b:List Stmt)(o:SO):Nat→Nat→ao→St→Prop
 |0,i,ρ,σ=> ∃l,get ρ σ=some l∧l.length=i∧o= .next ρ σ
 |n+1,i,ρ,σ=> ∃l v,get ρ σ=some l∧l[i]? =some v∧qJ (tX L sx get x b o n (i+1)) o (L.bl sx b (b8 ρ x (.val v)) σ)
open Classical in
noncomputable def kR (p:ao→St→Prop)(o:SO)(ρ:ao)(σ:St)(fs:List aD):TS:=if p ρ σ then .bM o fs [] else .bC
theorem nu {p:ao→St→Prop}{ρ:ao}{σ:St}{o o':SO}(h:kR p o ρ σ fs= .bM o' fs' ks):p ρ σ∧o'=o:=by
 unfold kR at h;by_cases q:p ρ σ
 ·rw [WE q] at h;injection h with eA;subst eA;exact ⟨q,rfl⟩
 ·rw [WG q] at h;exact nomatch h
theorem sG {p:ao→St→Prop}{ρ:ao}{σ:St}{o:SO}(h:p ρ σ):kR p o ρ σ fs= .bM o fs []:=WE h
theorem bN.append: ∀{l q:Ks},bN l→bN q→bN (l++q)
 |[],_,_,h=>h
 |_::_,_,h,h2=>⟨h.1,bN.append h.2 h2⟩
theorem tQ {p:ao→St→Prop}{o1:SO}(e:ts= .bM o1 fs ks)(hk:bN ks)(h:Dn p o1∨xT o o1): ∃o2 q,gq ts (kR (HI p) o)= .bM o2 fs q∧bN q∧vV o o2:=by
 subst e;rcases h with h|h
 ·cases o1 with
  |next ρ σ=>exact ⟨o,_,WJ (TS.pre ks) (sG h),hk.append trivial,.inl rfl⟩
  |ew ρ σ=>exact ⟨o,_,WJ (TS.pre ks) (sG h),hk.append trivial,.inl rfl⟩
  |_=>exact h.elim
 ·cases o1 with
  |brk ρ σ=>obtain ⟨ρ2,h,e⟩:=h;exact ⟨_,ks,rfl,hk,.inr ⟨ρ,ρ2,σ,rfl,h,e⟩⟩
  |ret v σ=>exact ⟨_,ks,rfl,hk,.inl (Eq.symm h)⟩
  |ba ρ σ=>exact ⟨_,ks,rfl,hk,.inl (Eq.symm h)⟩
  |_=>exact h.elim
theorem cW.sub {o1:SO}{r:Result}(h:vV o o1)(z:cW C γ o1 r s):cW C γ o r s:=by
 cases r with
 |ok f=>exact aQ.sub h z
 |error e=>exact wpAny_mono z (λZ Z q=>iW.sub h q) λZ Z q=>iW.sub h q
theorem tR {p:ao→St→Prop}{x:List aD→TS}{k:ao→St→List aD→TS}(e:gq (x fs) k= .bM o fs' ks)(hk:bN ks)(h: ∀ρ σ fs q,k ρ σ fs= .bM o fs' q→bN q→p ρ σ):qJ p o x:=by
 unfold qJ;revert e;cases hx:x fs with
 |bC=>exact λe=>nomatch e
 |bM o1 f1 k1=>
  intro e;cases o1 with
  |next ρ σ=>obtain ⟨q,e2,e3⟩:=gC e;subst e3;exact ⟨fs,_,_,_,hx,(bN.eU hk).1,.inl ⟨ρ,.refl,h _ _ _ _ e2 (bN.eU hk).2⟩⟩
  |ew ρ σ=>obtain ⟨q,e2,e3⟩:=gC e;subst e3;exact ⟨fs,_,_,_,hx,(bN.eU hk).1,.inl ⟨ρ,.refl,h _ _ _ _ e2 (bN.eU hk).2⟩⟩
  |brk ρ σ=>injection e with eA eB eC;subst eA eB eC;exact ⟨fs,_,_,_,hx,hk,.inr ⟨ρ,.refl,rfl⟩⟩
  |ret v σ=>injection e with eA eB eC;subst eA eB eC;exact ⟨fs,_,_,_,hx,hk,.inr rfl⟩
  |ba ρ σ=>injection e with eA eB eC;subst eA eB eC;exact ⟨fs,_,_,_,hx,hk,.inr rfl⟩
theorem wU {get:ao→St→Option (List V)}: ∀{n i:Nat} {ρ:ao} {σ:St} {fs fs':List aD} {ks:Ks},E8 L sx get x b n i ρ σ fs= .bM o fs' ks→bN ks→tX L sx get x b o n i ρ σ
 |0,i,ρ,σ,fs,fs',ks,e,hk=>by
  have e:sO (get ρ σ) _=_:=e;unfold tX;cases hg:get ρ σ with
  |none=>rw [hg] at e;exact nomatch e
  |some l=>
   rw [hg] at e;have e:sI (decide (l.length=i)) _=_:=e;cases hd:decide (l.length=i) with
   |false=>rw [hd] at e;exact nomatch e
   |true=>rw [hd] at e;injection e with eA;subst eA;exact ⟨l,rfl,Wy hd,rfl⟩
 |n+1,i,ρ,σ,fs,fs',ks,e,hk=>by
  have e:sO (get ρ σ) _=_:=e;unfold tX;cases hg:get ρ σ with
  |none=>rw [hg] at e;exact nomatch e
  |some l=>
   rw [hg] at e;have e:sO l[i]? _=_:=e;cases hv:l[i]? with
   |none=>rw [hv] at e;exact nomatch e
   |some v=>
    rw [hv] at e;exact ⟨l,v,rfl,hv,tR e hk λρ σ fs q e2 k2=>wU e2 k2⟩
theorem tn {x:TS}{a b:Ks}:(x.pre b).pre a=x.pre (a++b):=by
 cases x with
 |bC=>rfl
 |bM o fs ks=>exact WJ (TS.bM o fs) (Wn a b ks).symm
theorem y8 {x:TS}{a:Ks}{k:ao→St→List aD→TS}:gq (x.pre a) k=(gq x k).pre a:=by
 cases x with
 |bC=>rfl
 |bM o fs ks=>
  cases o with
  |next ρ σ=>exact tn.symm
  |ew ρ σ=>exact tn.symm
  |_=>rfl
theorem Cz {n:Nat}:qp L sx c b (n+1) ρ σ fs=gq (lK L sx c b ρ σ fs) (qp L sx c b n):=by
 show TO.so _ _=gq (TO.so _ _) _;cases L.ev sx true c ρ σ fs with
 |bC=>rfl
 |ba _ _ _ _=>rfl
 |ok t ρ1 σ1 fs1 ks1=>
  refine Eq.trans ?_ y8.symm;refine WJ (TS.pre ks1) ?_;show sO (cc t) (λt=>sF t (gq (L.bl sx b ρ1 σ1 fs1) (qp L sx c b n)) (cZ ρ1 σ1 fs1))=gq (sO (cc t) λt=>sF t (L.bl sx b ρ1 σ1 fs1) (.bM (.brk ρ1 σ1) fs1 [])) _;cases cc t with
  |none=>rfl
  |some t=>cases t<;>rfl
theorem zf: ∀{n:Nat} {ρ:ao} {σ:St} {fs fs':List aD} {ks:Ks},qp L sx c b n ρ σ fs= .bM o fs' ks→bN ks→t5 L sx c b o n ρ σ
 |0,_,_,_,_,_,e,_=>nomatch e
 |_+1,_,_,_,_,_,e,hk=>tR (Cz.symm.trans e) hk λZ Z Z Z e2 k2=>zf e2 k2
inductive Er (L:Lv)(sx:Sx)(C:Cx)(c:Expr)(b:List Stmt)(γ:GS)(o:SO)(n:Nat)(s:Shared):Prop
 |mk {ρ σ γ'} (x:dE γ.fz γ.αs γ'.fz γ'.αs) (F:FS C ρ σ γ' s) (e:t5 L sx c b o n ρ σ):Er L sx C c b γ o n s
theorem GQ {α:Type}{y:Option α}{f:α→TS}(h:sO y f= .bM o fs ks): ∃a,y=some a∧f a= .bM o fs ks:=by
 cases y with
 |some a=>exact ⟨a,rfl,h⟩
 |none=>cases h
theorem OR {c:Bool}(h:sI c ts= .bM o fs ks):c=true∧ts= .bM o fs ks:=by
 cases c with
 |true=>exact ⟨rfl,h⟩
 |false=>cases h
theorem mI {o2:SO}{m:Sem Flow}{I:Nat→Shared→Prop}{n:Nat}(h:vV o o2)(z:wpAny (aC C) C.A m (λf s'=>match f with
    | .next| .cont=> ∃j,j<n+1∧I j s'
    | .brk=>cW C γ o2 (.ok .next) s'
    | .ret v=>cW C γ o2 (.ok (.ret v)) s') (notedBy (aC C) C.A C.env λe s'=>cW C γ o2 (.error e) s') s):wpAny (aC C) C.A m (λf s'=>match f with
    | .next| .cont=> ∃j,j<n+1∧I j s'
    | .brk=>cW C γ o (.ok .next) s'
    | .ret v=>cW C γ o (.ok (.ret v)) s') (notedBy (aC C) C.A C.env λe s'=>cW C γ o (.error e) s') s:=
 wpAny_mono z (λf s' q=>by
  cases f with
  |brk=>exact cW.sub h q
  |ret v=>exact cW.sub h q
  |_=>exact q) λe s' q=>wpAny_mono q (λZ Z q=>cW.sub h q) λZ Z q=>cW.sub h q
theorem qa (O:aK L)(H:az C sx)(F:FS C ρ σ γ s)(hcm:sx.cm=false){n:Nat}(e:t5 L sx c b o n ρ σ):wpAny (aC C) C.A (PySem.exec (.While c b [] p) C.env) (aQ C γ o) (iW C o) s:=by
 have hc:C.comp=false:=H.cm.trans hcm;obtain ⟨hA,hfr⟩:=H.K.hA hc;refine wpAny_While (codeAny_whileLoop (R:=cW C γ o) (Er L sx C c b γ o) (λn s h=> ?_) n (.mk .refl F e));obtain ⟨y,F,e⟩:=h;cases n with
 |zero=>exact e.elim
 |succ n=>
  obtain ⟨fs,o1,fs',ks,e,hk,ho⟩:=e;have sx1: ∀e s,iW C o1 e s→iW C o e s:=λe s z=>by
   induction z with
   |ba R=>
    have ho:o=_:=ho.elim False.elim id;subst ho;exact .ba R
  refine wpAny_mono (G4 (O.et H F) e hk) (λt s1 z=> ?_) λZ Z z=>mZ hA hfr hc (sx1 _ _ z);obtain ⟨e2,k2,n1,F1,r1⟩:=z;obtain ⟨t',h1,e3⟩:=GQ e2;have r1:_=R.v (.bool t):=r1;rw [r1] at h1;injection h1 with eA;subst eA
  cases t with
  |false=>
   have e3:TS.bM (.brk _ _) _ []=_:=e3;injection e3 with eA;subst eA
   obtain ⟨ρ2,hs,ho⟩:=ho.elim False.elim id;subst ho;exact wpAny_execs_nil (aQ.next (.mk (y.trans n1.ext) (F1.sub hs)))
  |true=>
   have e3:L.bl sx b _ _ _=_:=e3;obtain ⟨o2,q,e4,hq,hs⟩:=tQ e3 k2 ho;refine mI hs ?_;exact qm (C1:=C) (R:=C.rest) (o:=o2) (k:=kR (HI (t5 L sx c b o n)) o) (n:=n) (I:=Er L sx C c b γ o) hA hfr hc rfl (λZ h=>h) id id (y.trans n1.ext) (O.bl H F1) e4 hq λρ3 σ3 fs3 k3 γ3 s3 e4 k4 y4 F4=>by obtain ⟨⟨ρ2,h2,h3⟩,_⟩:=nu e4;exact .mk ((y.trans n1.ext).trans y4) (F4.sub h2) h3
theorem B5 (O:aK L)(H:az C sx)(F:FS C ρ σ γ s)(hcm:sx.cm=false){n:Nat}:cp C γ (qp L sx c b n ρ σ fs) (PySem.exec (.While c b [] p) C.env) s:=by
 cases he:qp L sx c b n ρ σ fs with
 |bC=>exact False.elim
 |bM o fs' ks=>exact λhk=>qa O H F hcm (zf he hk)
inductive Ec (L:Lv)(sx:Sx)(C:Cx)(it:Addr)(get:ao→St→Option (List V))(J:Nat→Obj→Prop)(x:N)(b:List Stmt)(γ0 γ:GS)(o:SO)(n:Nat)(s:Shared):Prop
 |mk {ρ σ γ' i io} (x0:dE γ0.fz γ0.αs γ'.fz γ'.αs) (x1:dE γ.fz γ.αs γ'.fz γ'.αs) (F:FS (C.aS ((it,io)::C.rest)) ρ σ γ' s) (hJ:J i io) (e:tX L sx get x b o n i ρ σ):Ec L sx C it get J x b γ0 γ o n s
set_option tactic.hygienic true in
theorem tG (O:aK L)(H:az C sx)(hcm:sx.cm=false)(hx:C.env.kindOf (nm x)=some .local){it:Addr}{io:Obj}{get:ao→St→Option (List V)}{J:Nat→Obj→Prop}{n:Nat}{γ0:GS}(y:dE γ.fz γ.αs γ0.fz γ0.αs)(W:qK C γ0 C.rest it get J)(hJ:J 0 io)(F:FS (C.aS ((it,io)::C.rest)) ρ σ γ0 s)
  (e:tX L sx get x b o n 0 ρ σ):codeAny (aC C) C.A (.forLoop (.Name (nm x) px) (.ref it) b [] C.env) (cW C γ o) s:=by
 have hc:C.comp=false:=H.cm.trans hcm;obtain ⟨hA,hfr⟩:=H.K.hA hc;refine codeAny_forLoop (R:=cW C γ o) (Ec L sx C it get J x b γ0 γ o) (λn s h=> ?_) n (.mk .refl y F hJ e);obtain ⟨x0,x1,F,hJ,e⟩:=h;rename_i ρ σ γ' i io;have hl: ∃l,get ρ σ=some l:=by
  cases n with
  |zero=>obtain ⟨l,h,_⟩:=e;exact ⟨l,h⟩
  |succ n=>obtain ⟨l,_,h,_⟩:=e;exact ⟨l,h⟩
 obtain ⟨l,hl⟩:=hl;refine W.next x0 (λZ h=>h) F hJ hl (λv xv o' s1 hv hR hJ' F1=> ?_) λs1 hle F1=> ?_
 ·cases n with
  |zero=>
   obtain ⟨l',h1,z,_⟩:=e;obtain rfl:=cH (hl.symm.trans h1);exact WK (List.getElem?_eq_some_iff.mp hv).1 (Nat.not_lt.mpr (Nat.le_of_eq z))
  |succ n=>
   obtain ⟨l',v',h1,h2,fs,o1,fs',ks,e,hk,ho⟩:=e;obtain rfl:=cH (hl.symm.trans h1);obtain rfl:=cH (hv.symm.trans h2);have H1:az (C.aS ((it,o')::C.rest)) sx:=H.aS λZ h=> .tail _ h;refine wpAny_assign_Name (gz (C:=C.aS ((it,o')::C.rest)) H1.K F1 hx hR λs2 z=> ?_);obtain ⟨y2,F2⟩:=z;obtain ⟨o2,q,e4,hq,hs⟩:=tQ e hk ho;refine mI hs ?_;exact qm (C1:=C.aS ((it,o')::C.rest)) (R:=(it,o')::C.rest) (o:=o2) (k:=kR (HI (tX L sx get x b o n (i+1))) o) (n:=n) (I:=Ec L sx C it get J x b γ0 γ o) hA hfr hc rfl (λZ h=> .tail _ h) FS.drop b7.aS (x1.trans y2) (O.bl H1 F2) e4 hq λρ3 σ3 fs3 k3 γ3 s3 e4 k4 y4 F4=>by obtain ⟨⟨ρ2,h2,h3⟩,_⟩:=nu e4;exact .mk ((x0.trans y2).trans y4) ((x1.trans y2).trans y4) (F4.sub h2) hJ' h3
 ·cases n with
  |zero=>
   obtain ⟨l',h1,_,e⟩:=e;subst e;exact wpAny_execs_nil (aQ.next (.mk x1 F1))
  |succ n=>
   obtain ⟨l',v',h1,h2,_⟩:=e;obtain rfl:=cH (hl.symm.trans h1);exact ig (hle.symm.trans h2)
end
section
variable {sx:Sx}{C:Cx}{ρ:ao}{σ:St}{γ:GS}{s:Shared}{o:SO}{e a t v d:Expr}{b b1 b2 l:List Stmt}{st:Stmt}{p:Pos}{fs fs':List aD}{ks:Ks}{x:N}{y:Str}
theorem KS.told (h: ∀o fs' ks,ts= .bM o fs' ks→bN ks→P (aQ C γ o) (iW C o)):KS C γ ts P:=by
 cases ts with
 |bM o fs ks=>exact λk=>h _ _ _ rfl k
 |bC=>exact False.elim
theorem kL (O:aK L)(H:az C sx)(F:FS C ρ σ γ s)(hcm:sx.cm=false){T:(ao→St→Option (List V))→N→Nat→ao→St→List aD→TS}
  (hT: ∀{get x n ρ σ fs o fs' ks},T get x n ρ σ fs= .bM o fs' ks→bN ks→tX L sx get x b o n 0 ρ σ):cp C γ (i5 L sx T y iter ρ σ fs) (PySem.exec (.For (.Name y px) iter b [] p) C.env) s:=
 KS.sI λh=>ay h λh1 h2=>by
  have hk:=gf H h2;obtain ⟨n,rfl⟩: ∃n,y=nm n:=⟨_,bH (i9 h2)⟩;refine aa (show dk (nm n)=n from oh (Nat.le_refl n)) ?_;refine KS.sE (λZ=>KS.sI λhn=> ?_) λa ha=>KS.sI λhg=> ?_
  ·refine KS.un (λQ E h=>wpAny_For h (eW hn)) (KS.aE (G:=λu Q E s'=>wpAny (aC C) C.A (pyIter u) (λit s₂=>codeAny (aC C) C.A (.forLoop (.Name (nm n) px) it b [] C.env) (λr s'=>match r with
    | .ok f=>Q f s'
    | .error e=>cameBackBy (aC C) C.A C.env E e s') s₂) E s') (O.ev H F) λr ρ1 σ1 fs1 γ1 u s1 n1 F1 r1=>KS.sO λw hw=>KS.sO λl hl=>KS.told λo fs' ks e k=> ?_)
   rw [cS hw] at r1;obtain ⟨hu,hg,hR⟩:=F1.GX H.K r1 hl;subst hu;exact pb F1 hg λit io s2 hio F2=>tG O H hcm hk n1.ext (qK.val H.K H.hk r1) hio F2 (hT e k)
  ·refine aR ha λq h4 h5=> ?_;obtain ⟨z,w⟩:=q;obtain ⟨h6,e⟩:=aM h5;have h6:z=Str.ofString "range" :=h6;have e:w=a:=e;subst h6 e;refine jd h4 λp1 p2 e hs=> ?_;subst e;have st:=bp (r:=[]) (env:=C.env) (e:=w) (WJ not hs);refine KS.un (λQ E h=>wpAny_For (Call_Name rfl (gw H.K F H.H.GO.GK PyProof.Rows.boot_range (by decide) (dI H hg) (by decide) (PyProof.Rows.callWith_type1 (wpAny_items_cons (wpAny_mono h (λZ Z q=>wpAny_items_nil q) λZ Z q=>q) st) st (cJ (l:=[]) rfl)))) (eW rfl))
    (KS.aE (G:=λu Q E s'=>wpAny (aC C) C.A (call (.type "range") [u]) (λu s'=>wpAny (aC C) C.A (pyIter u) (λit s₂=>codeAny (aC C) C.A (.forLoop (.Name (nm n) px) it b [] C.env) (λr s'=>match r with
    | .ok f=>Q f s'
    | .error e=>cameBackBy (aC C) C.A C.env E e s') s₂) E s') E s') (bG O H F) λv ρ1 σ1 fs1 γ1 u s1 n1 F1 r1=>KS.sO λm hm=>KS.sI λhlt=>KS.told λo fs' ks e k=> ?_)
   refine gY hm r1 λt hu=> ?_;subst hu;exact mz F1 (Wy hlt) λit s2 F2=>tG O H hcm hk n1.ext (qK.GK (H.lp h1)) KV F2 (hT e k)
theorem yD (O:aK L)(H:az C sx)(F:FS C ρ σ γ s)(hcm:sx.cm=false):cp C γ (Jp L sx y iter b ρ σ fs) (PySem.exec (.For (.Name y px) iter b [] p) C.env) s:=kL O H F hcm wU
theorem BY (O:aK L)(H:az C sx)(F:FS C ρ σ γ s){e:Option Expr}:cp C γ (KQ L sx e ρ σ fs) (PySem.exec (.Return e p) C.env) s:=by
 cases e with
 |none=>exact KS.bM (wpAny_Return_none (.ret .refl F .none))
 |some e=>exact KS.un (λQ E h=>wpAny_Return_some h) (KS.aE (G:=λu Q E s'=>Q (.ret u) s') (bG O H F) λv ρ1 σ1 fs1 γ1 u s1 n1 F1 r1=>KS.bM (.ret n1.ext F1 r1))
theorem BR (O:aK L)(H:az C sx)(F:FS C ρ σ γ s):cp C γ (JC L sx c b1 b2 ρ σ fs) (PySem.exec (.If c b1 b2 p) C.env) s:=
 KS.un (λQ E h=>wpAny_If h) (KS.aE (G:=λt Q E s'=>if t then wpAny (aC C) C.A (PySem.execs b1 C.env) Q E s' else wpAny (aC C) C.A (PySem.execs b2 C.env) Q E s') (O.et H F) λr ρ1 σ1 fs1 γ1 t s1 n1 F1 hr=>by
  obtain rfl:r= .v (.bool t):=hr;cases t with
  |true=>exact cp.ext n1.ext (O.bl H F1)
  |false=>exact cp.ext n1.ext (O.bl H F1))
theorem yp (O:aK L)(H:az C sx)(F:FS C ρ σ γ s):cp C γ (It L sx t v ρ σ fs) (PySem.exec (.Assign [t] v p) C.env) s:=
 KS.sE (λZ=>by
  cases t with
  |Name y q=>exact yr O H F
  |Tuple l k q=>exact vf O H F
  |Attribute a y q=>exact vc O H F
  |Subscript a i q=>exact vd O H F
  |_=>exact False.elim) λo ho=>rn ho λk p2 p5 p6 p7 e=>by
   subst e;exact yF O H F
theorem Bz (O:aK L)(H:az C sx)(F:FS C ρ σ γ s){o:Operator}:cp C γ (IE L sx t o d ρ σ fs) (PySem.exec (.AugAssign t o d p) C.env) s:=by
 cases t with
 |Name y q=>exact yu O H F
 |Attribute a y q=>exact vh O H F
 |Subscript a i q=>exact vj O H F
 |_=>exact False.elim
theorem kr (H:az C sx):interactive C.env=false:=by
 unfold interactive;exact aa H.K.hk rfl
end
noncomputable abbrev Cx.qA (C:Cx)(x:Addr):Cx:={C with A:=C.A.mark (some (.ref x))}
noncomputable abbrev Cx.lP (C:Cx)(fz:aJ)(αs:List Addr):Cx:={C with Dk:=fz,Ea:=αs}
section
variable {sx:Sx}{C:Cx}{ρ:ao}{σ:St}{γ:GS}{s s':Shared}{e:Value}{x:Addr}{ob:Obj}{o:SO}{fs fs':List aD}{ks:Ks}
theorem az.qA (H:az C sx)(ho:zE ob):az ((C.qA x).aS ((x,ob)::C.rest)) {sx with lp:=false}:=by
 obtain ⟨fe,N⟩:=H.fe;exact ⟨⟨H.K.IG,(λh=>H.K.hA h),H.K.hk,H.K.uy,H.K.Fe,H.K.AN,H.K.fh,H.K.qj,H.K.units,H.K.vw,H.K.LU⟩,⟨fe,N.fr,N.fl,N.ff,N.fk,N.ab,N.eq⟩,H.H,H.Ag,H.un,H.g,H.ks,H.X,(bK),.bR rfl ho (.head _),H.cm,H.aG,H.bg⟩
theorem aW.lP (K:aW C):aW (C.lP fz αs):=⟨K.IG,K.hA,K.hk,K.uy,K.Fe,K.AN,K.fh,K.qj,K.units,K.vw,K.LU⟩
theorem az.lP (H:az C sx):az (C.lP fz αs) sx:=by
 obtain ⟨fe,N⟩:=H.fe;exact ⟨H.K.lP,⟨fe,N.fr,N.fl,N.ff,N.fk,N.ab,N.eq⟩,H.H,H.Ag,H.un,H.g,H.ks,H.X,H.lp,H.hk,H.cm,H.aG,H.bg⟩
theorem FS.lP (F:FS C ρ σ γ s):FS (C.lP γ.fz γ.αs) ρ σ γ s:=⟨F.fr,F.nw,F.ds,F.ow,F.mu,F.ge,F.os,.refl⟩
theorem FS.rO (x:dE C.Dk C.Ea fz αs)(F:FS (C.lP fz αs) ρ σ γ s):FS C ρ σ γ s:=⟨F.fr,F.nw,F.ds,F.ow,F.mu,F.ge,F.os,x.trans F.x0⟩
theorem FS.Pg (y:dE C.Dk C.Ea fz αs)(F:FS (((C.lP fz αs).qA x).aS ((x,ob)::C.rest)) ρ σ γ s):FS C ρ σ γ s:=by
 have F':FS (((C.lP fz αs).qA x).aS C.rest) ρ σ γ s:=FS.drop F;exact ⟨F'.fr,F'.nw,F'.ds,F'.ow,F'.mu,F'.ge,F'.os,y.trans F'.x0⟩
theorem b7.Pg (y:dE C.Dk C.Ea fz αs)(R:b7 (((C.lP fz αs).qA x).aS ((x,ob)::C.rest)) ρ σ e s):b7 C ρ σ e s:=by
 induction R with
 |comp h=>exact .comp h
 | @«at» _ _ t vs _ _ r=>
  refine .at (t:=t) (vs:=vs) ⟨r.fr,r.up,?_,r.ds.sub eY,r.ow,r.mu,r.ge,r.os,y.trans r.x0,r.f2⟩;cases r.ra.sub λq hq=>eY.mem hq with
  |zp r=>exact .zp r
  |lH a b c d e=>exact .lH a b c d e
theorem EI (K:aW C)(hH:HY C.D)(hc:C.comp=false)(hbg:C.base=C.g)(hk:C.env.kindOf (nm Tu)=some .globalImplicit){t:Addr}{vs:List Value}{gh:Heap}{np pos:Pos}{b₀:Stmt}{suite:List Stmt}{hs:List ExceptHandler}{Q:Flow→Shared→Prop}{E:Value→Shared→Prop}
  (R:oD C ρ σ γ x t vs gh s') (hE: ∀e s,E e s→notedBy (aC C) (C.qA x).A C.env (cameBackBy (aC C) C.A C.env E) e s)
  (k: ∀o h',zE o→FS ((C.qA x).aS ((x,o)::C.rest)) ρ σ γ {s' with heap:=h'}→wpAny (aC C) (C.qA x).A (PySem.execs (b₀::suite) C.env) Q E {s' with heap:=h'}):
  wpAny (aC C) C.A (noteFrame (.ref x) C.env) (λZ s₂=>wpAny (aC C) C.A (setFlight (.ref x) none) (λZ s₃=>
   wpAny (aC C) C.A (handleBy (.ref x) C.env (.ExceptHandler (some (.Name (nm Tu) np)) none (b₀::suite) pos::hs)) Q E s₃) E s₂) E s':=by
 obtain ⟨hA,hfr⟩:=K.hA hc;obtain ⟨fI,fd,kn,bd,P⟩:=hH.PO;have land: ∀(B h₁:Heap),C.base.StaysIn B→(∀q∈aL γ C.rest,B.get? q.1=some q.2∧C.base.get? q.1=none)→B.get? t=none→gh.UpToSlots h₁→Heap.HeldW B (C.env::C.outer) x (.ref C.D.ps) (.ref t) C.L h₁→F2 x h₁→
   wpAny (aC C) C.A (setFlight (.ref x) none) (λZ s₃=>wpAny (aC C) C.A (handleBy (.ref x) C.env (.ExceptHandler (some (.Name (nm Tu) np)) none (b₀::suite) pos::hs)) Q E s₃) E {s' with heap:=h₁}:=λB h₁ hB hl hn u hh f2=>by
  refine ei (s:={s' with heap:=h₁}) hh.1 hh.2.1 hh.2.2.1 hh.2.2.2 f2 λh₂ hf₂ u₂ f2₂=> ?_;have hL:B.get? C.L=none:=by
   obtain ⟨_,⟨L',_,hf,hn',_⟩,_⟩:=hf₂.2.2.1;cases hfr.symm.trans hf;exact hn'
  have hBx:C.g.get? x=none:=hbg▸fresh_of_stays hB hf₂.2.1;have dx: ∀p∈aL γ C.rest,p.1≠x:=λp hp q=>by have z:=(hl p hp).1;rw [q,hf₂.2.1] at z;exact ig z
  have mk: ∀h',Heap.FlyingW B (C.env::C.outer) x (.ref C.D.ps) (.ref t) h'→gh.UpToSlots h'→ ∀o,h'.get? x=some o→(∃vs,o.data= .fields vs)→FS ((C.qA x).aS ((x,o)::C.rest)) ρ σ γ {s' with heap:=h'}:=λh' hf u o ho hof=>by
   have st:C.g.StaysIn h':=λb ob q=>hf.1 b ob (hB b ob (hbg▸q));have Fr':Fr C.g C.L h' γ.m:=R.fr.of_stays st u;refine ⟨Fr',λp hp=> ?_,aN.dA bq.symm (R.ds.cons dx),R.ow,R.mu,R.ge,R.os,R.x0⟩;cases Wv (bq.mem_iff.mp hp) with
   |inl eM=>
    subst eM;refine ⟨ho,λq=> ?_,hBx⟩;obtain ⟨on,hon,es,ep,hd,_⟩:=dz Fr'.ns;obtain ⟨vs',hv⟩:=hof;rw [←show x=C.L from q,ho] at hon;cases hon;rw [hv] at hd;exact nomatch hd
   |inr hp=>exact ⟨hf.1 _ _ (hl p hp).1,(λq=>by have z:=(hl p hp).1;rw [q,hL] at z;exact ig z),hbg▸(hl p hp).2⟩
  obtain ⟨ho2,hd2,h22⟩:=f2₂;have F2':=mk h₂ hf₂ (u.trans u₂) _ ho2 ⟨_,hd2⟩;obtain ⟨ob,hob,hobc⟩:=hf₂.there;refine wpAny_handleBy_cons (codeAny_handlers_test (nameG_K F2'.fr K.fh K.qj P.nm ?_ K.uy K.hk hk (da (by decide+kernel)))) (by intro q;cases q);obtain ⟨nme,q,N,bs,bm,hdct,sn,sub,ab,col,dd,k0,k1,k2,k3,k5,hC⟩:=P.cls;refine wpAny_excMatches_sub_self (F2'.fr.keep _ _ (K.fh _ _ hC.obj)) hob hobc hC.be (codeAny_handlers_suite ?_);refine ei (s:={s' with heap:=h₂}) hf₂.1 hf₂.2.1 hf₂.2.2.1 hf₂.2.2.2.at ⟨ho2,hd2,h22⟩ λh₃ hf₃ u₃ f2₃=> ?_;obtain ⟨ho3,hd3,h23⟩:=f2₃;exact wpAny_mono (k _ h₃ ⟨_,hd3,h23⟩ (mk h₃ hf₃ ((u.trans u₂).trans u₃) _ ho3 ⟨_,hd3⟩)) (λZ Z q=>q) hE
 cases R.ra with
 |zp r=>
  obtain ⟨⟨B,hB,hl,hfl,hnew⟩,htup⟩:=r;exact eQ hA hfr hfl R.f2 λh₁ hh u f2=>land B h₁ hB hl hnew (R.up.trans u) hh f2
 |lH hB hl hh hn ht=>
  exact wpAny_noteFrame_againW hfr hh.2.2.2 (land _ s'.heap hB hl hn R.up hh R.f2)
theorem aQ.conv {C1 C2:Cx}{γ1 γ2:GS}{f:Flow}(y:dE γ2.fz γ2.αs γ1.fz γ1.αs)(hD:C1.D=C2.D)(k: ∀{ρ σ γ},FS C1 ρ σ γ s→FS C2 ρ σ γ s)(h:aQ C1 γ1 o f s):aQ C2 γ2 o f s:=by
 induction h with
 |next h=>obtain ⟨z,F⟩:=h;exact .next (.mk (y.trans z) (k F))
 |brk h=>obtain ⟨z,F⟩:=h;exact .brk (.mk (y.trans z) (k F))
 |ew h=>obtain ⟨z,F⟩:=h;exact .ew (.mk (y.trans z) (k F))
 |ret z F r=>exact .ret (y.trans z) (k F) (hD▸r)
theorem B1 (O:aK L)(H:az C sx)(F:FS C ρ σ γ s){b:List Stmt}{h:ExceptHandler}{p:Pos}:cp C γ (LD L sx b h ρ σ fs) (PySem.exec (.Try b [h] [] [] p) C.env) s:=by
 obtain ⟨t,n,hb,hp⟩:=h;refine KS.sO λy hy=>KS.sI λh=>ay h λh h6=>ay h λh h5=>ay h λh h4=>ay h λh h3=>ay h λh1 h2=>aR hy λte e1 e2=>cb e2 λnp e3=> ?_;have h2:y=nm Tu:=Wy h2;have hn:=H5.none h1;subst e1 e3 hn h2;have hc:C.comp=false:=H.cm.trans (aY h4);obtain ⟨hA,hfr⟩:=H.K.hA hc;cases hb with
 |nil=>exact bK h6
 |cons b₀ suite=>
  have go:=O.bl (l:=b) (fs:=fs) (H.lP (fz:=γ.fz) (αs:=γ.αs)) F.lP;revert go;cases L.bl sx b ρ σ fs with
  |bC=>exact λZ=>False.elim
  |bM o fs1 kb=>
   intro go;have go:bN kb→wpAny (aC C) C.A (PySem.execs b C.env) (aQ (C.lP γ.fz γ.αs) γ o) (iW (C.lP γ.fz γ.αs) o) s:=go;cases o with
   |ba ρ1 σ1=>
    show KS C γ ((L.bl {sx with lp:=false} (b₀::suite) ρ1 σ1 fs1).pre kb) _;refine KS.pre λhk=>KS.told λo2 fs2 k2 e2 hk2=>wpAny_Try_except (wpAny_mono (go hk) (λf s1 q=>nomatch q) λe s1 q=> ?_);cases q with
    |ba R=>induction R with
     |comp h=>exact bK (hc.symm.trans h)
     | @«at» γ1 x t vs gh _ R=>
      refine EI (C:=C.lP γ.fz γ.αs) H.K.lP H.H hc (H.bg (Wy h3)) (dI (H.lP (fz:=γ.fz) (αs:=γ.αs)) h5) R (λe s q=>mZ (A:=(C.qA x).A) hA hfr hc q) λob h' hO F'=> ?_;have z:=O.bl (l:=b₀::suite) (fs:=fs1) ((H.lP (fz:=γ.fz) (αs:=γ.αs)).qA hO) F';rw [e2] at z;exact wpAny_mono (z hk2) (λf s2 q=>aQ.conv (C1:=((C.lP γ.fz γ.αs).qA x).aS ((x,ob)::C.rest)) R.x0 rfl (λF2=>FS.Pg F.x0 F2) q) λe s2 q=>by
       cases q with
       |ba q=>exact .ba (q.Pg F.x0)
   |next ρ1 σ1=>exact λhk=>wpAny_Try_except (wpAny_mono (go hk) (λf s1 q=>by cases q with|next q=>obtain ⟨z,F1⟩:=q;exact wpAny_execs_nil (aQ.next (.mk z (F1.rO F.x0)))) λZ Z q=>nomatch q)
   |brk ρ1 σ1=>exact λhk=>wpAny_Try_except (wpAny_mono (go hk) (λf s1 q=>by cases q with|brk q=>obtain ⟨z,F1⟩:=q;exact aQ.brk (.mk z (F1.rO F.x0))) λZ Z q=>nomatch q)
   |ew ρ1 σ1=>exact λhk=>wpAny_Try_except (wpAny_mono (go hk) (λf s1 q=>by cases q with|ew q=>obtain ⟨z,F1⟩:=q;exact aQ.ew (.mk z (F1.rO F.x0))) λZ Z q=>nomatch q)
   |ret v σ1=>exact λhk=>wpAny_Try_except (wpAny_mono (go hk) (λf s1 q=>by cases q with|ret z F1 r=>exact aQ.ret z (F1.rO F.x0) r) λZ Z q=>nomatch q)
end
section
variable {sx:Sx}{C:Cx}{ρ:ao}{σ:St}{γ:GS}{s:Shared}{st:Stmt}{l:List Stmt}{fs:List aD}{x:TS}{m m':Sem Flow}
theorem KS.then {f:ao→St→List aD→TS}(h:cp C γ x (PySem.exec st C.env) s)(k: ∀ρ σ fs γ' s',dE γ.fz γ.αs γ'.fz γ'.αs→FS C ρ σ γ' s'→cp C γ' (f ρ σ fs) (PySem.execs l C.env) s'):cp C γ (x.then f) (PySem.execs (st::l) C.env) s:=by
 cases x with
 |bC=>exact False.elim
 |bM o fs ks=>
  have h:bN ks→wpAny (aC C) C.A (PySem.exec st C.env) (aQ C γ o) (iW C o) s:=h;cases o with
  |next ρ1 σ1=>
   show KS C γ ((f ρ1 σ1 fs).pre ks) _;refine KS.pre λhk g=>wpAny_execs_cons (wpAny_mono (h hk) (λfl s1 q=> ?_) λZ Z q=>nomatch q);cases q with
   |next q=>
    obtain ⟨y,F1⟩:=q;exact cp.ext y (k ρ1 σ1 fs _ s1 y F1) g
  |brk ρ1 σ1=>exact λhk=>wpAny_execs_cons (wpAny_mono (h hk) (λfl s1 q=>by cases q with|brk q=>exact aQ.brk q) λZ Z q=>nomatch q)
  |ew ρ1 σ1=>exact λhk=>wpAny_execs_cons (wpAny_mono (h hk) (λfl s1 q=>by cases q with|ew q=>exact aQ.ew q) λZ Z q=>nomatch q)
  |ret v σ1=>exact λhk=>wpAny_execs_cons (wpAny_mono (h hk) (λfl s1 q=>by cases q with|ret y F r=>exact aQ.ret y F r) λZ Z q=>nomatch q)
  |ba ρ1 σ1=>exact λhk=>wpAny_execs_cons (wpAny_mono (h hk) (λfl s1 q=>nomatch q) λZ Z q=>q)
theorem iS (O:aK L)(H:az C sx)(F:FS C ρ σ γ s):cp C γ (ej L sx st ρ σ fs) (PySem.exec st C.env) s:=by
 cases st with
 |Expr e p=>exact KS.sI λh=>KS.un (λQ E h=>wpAny_Expr_any h (kr H) (dY (by assumption) _ _ _)) (KS.aE (G:=λZ Q E s'=>Q .next s') (O.ev H F) λr ρ1 σ1 fs1 γ1 u s1 n1 F1 r1=>KS.bM (aQ.next (.mk n1.ext F1)))
 |Assign ts v p=>
  cases ts with
  |nil=>exact False.elim
  |cons t r=>
   refine KS.sI λh=> ?_;obtain rfl:=Ww h;exact yp O H F
 |AugAssign t o d p=>exact Bz O H F
 |If c a b p=>exact n5 H F (BR O H F)
 |While c b e p=>
  refine KS.sI λh=>ay h λh1 h2=> ?_;obtain rfl:=Ww h2;exact n5 H F (B5 O H F (aY h1))
 |For t it b e p=>
  refine KS.sI λh=>ay h λh1 h2=> ?_;obtain rfl:=Ww h2;exact n5 H F (KS.sO λy hy=>cb hy λpx e=>by
   subst e;exact yD O H F (aY h1))
 |Return e p=>exact BY O H F
 |Try b hs e f p=>
  cases hs with
  |nil=>exact False.elim
  |cons h r=>
   refine KS.sI λq=>ay q λq h3=>ay q λh1 h2=> ?_;obtain rfl:=Ww h1;obtain rfl:=Ww h2;obtain rfl:=Ww h3;exact B1 O H F
 |Break p=>exact KS.bM (wpAny_Break (.brk (.mk .refl F)))
 |Continue p=>exact KS.bM (wpAny_Continue (.ew (.mk .refl F)))
 |Pass p=>exact KS.bM (wpAny_Pass (.next (.mk .refl F)))
 |_=>exact False.elim
theorem zW (O:aK L)(H:az C sx): ∀{ρ σ fs γ s},FS C ρ σ γ s→cp C γ (oN L sx l ρ σ fs) (PySem.execs l C.env) s:=by
 induction l with
 |nil=>exact λF=>KS.bM (wpAny_execs_nil (.next (.mk .refl F)))
 |cons st r ih=>exact λF=>KS.then (iS O H F) λρ σ fs γ' s' y F'=>ih F'
end
section
variable {C:Cx}{f:N}{l:List V}{σ:St}{γ:GS}{fs:List aD}{p:qw×List aD×Ks}{fe:PySem.Env}{g:Heap}{keep:aJ}{L':Addr}
theorem qr.deep {env:PySem.Env}{R R':aJ}(h:qr A' R)(k: ∀p∈R,p∈R'):qr (A'.deeper env) R':=by
 cases h with
 |no h=>exact .no h
 |bR h o m=>exact .bR h o (k _ m)
theorem js (FN:lu C.D (C.D.fa f) (jz f) (iG f) (pG f) (dQ f) fd)(hH:HY C.D)(hg:vN f l σ)(hlaw:f≠Sz)(hh:A'.handled=none∨f=Tg)(hk:qr A' C.rest)(hdep:A'.depth+1+Mz f l σ≤960)(hun:A'.units+3+3*Mz f l σ+100<cLine)
  (K:aW (C.cf A' fe (envOfC fd.qualname fd.scope L' (C.D.fa f) fd.code) g keep γ.fz γ.αs)) (N:cV (C.cf A' fe (envOfC fd.qualname fd.scope L' (C.D.fa f) fd.code) g keep γ.fz γ.αs) (envOfC fd.qualname fd.scope L' (C.D.fa f) fd.code)):
  az (C.cf A' fe (envOfC fd.qualname fd.scope L' (C.D.fa f) fd.code) g keep γ.fz γ.αs) (vv f l σ) where
 K:=K
 fe:=⟨_,N⟩
 H:=hH
 Ag:=hdep
 un:=hun
 g:=hg
 ks:=λn=>WJ (λz:List (Str×NameKind)=>z.lookup n) FN.ks
 X:=λy=>(Bool.and_true (jP y)).symm
 lp:=λh=>hh.elim id λq=>WK q (Wy h)
 hk:=hk.deep λZ h=>WB _ h
 cm:=rfl
 aG:=λZ=>⟨rfl,_,WJ (λz=>cellsFrom _ z []) FN.ks⟩
 bg:=λh=>WK h hlaw
theorem nc (h:lG.contains f=true):f∈lG:=List.contains_iff_mem.mp h
theorem lT (O:aK L)(hf:f∈lG)(hlaw:f≠Sz)(hg:vN f l σ)(e:dq L f l σ fs=some p)(hk:bN p.2.2):aq f l σ p.1:=
 ⟨hg,λC fe A' us ρ γ s hH K N hA hh hho hdep hun F hr=>aR e λρ0 hb e=>by
  obtain ⟨fd,FN⟩:=hH.P2 f hf;revert e;cases hx:L.bl (vv f l σ) (dQ f) ρ0 σ fs with
  |bC=>exact no
  |bM o fs1 ks=>
   refine λe=>cG e λr hr' e=> ?_;subst e;refine oQ K N FN hA (Nat.le_trans (Nat.le_add_right ..) hdep) (WD (Nat.add_le_add_right (Nat.le_add_right ..) _) hun) F hr hb hr' λg L' γ0 keep s0 K' N' F'=> ?_;have z:=O.bl (l:=dQ f) (fs:=fs) (js FN hH hg hlaw hh hho hdep hun K' N') F';rw [hx] at z;exact wpAny_mono (z hk) (λZ Z q=>q) λZ Z q=> .inl q⟩
theorem iJ (h1:eG f=false)(h2:f≠Sr)(h3:f≠SA):vN f l σ:=
 ⟨λh=>WK h h2,(λh=>bK (h1.symm.trans h)),λh=>WK h h3⟩
theorem xi (O:aK L)(e:JF L f l σ fs=some p)(hk:bN p.2.2):aq f l σ p.1:=
 ey (x:=dq L f l σ fs) e λh e=>ay h λh h5=>ay h λh h4=>ay h λh h3=>ay h λh1 h2=>
  lT O (nc h1) (of_decide_eq_false (aY h5)) (iJ (aY h2) (of_decide_eq_false (aY h3)) (of_decide_eq_false (aY h4))) e hk
theorem FJ (O:aK L):aK (Ql L):=by
 refine ⟨?_,?_,?_,λe hk=>xi O e hk⟩
 ·intro C sx H pe ρ σ fs γ s F;exact kM (m:=false) O H F
 ·intro C sx H pe ρ σ fs γ s F;exact kM (m:=true) O H F
 ·intro C sx H l ρ σ fs γ s F;exact zW O H F
theorem gT (n:Nat):aK (lv n):=by
 induction n with
 |zero=>
  refine ⟨?_,?_,?_,λe=>no e⟩
  ·intro C sx H pe ρ σ fs γ s F;exact False.elim
  ·intro C sx H pe ρ σ fs γ s F;exact False.elim
  ·intro C sx H l ρ σ fs γ s F;exact False.elim
 |succ n ih=>exact FJ ih
end
noncomputable def lhs (x:TC):Option (qw×List dG):=x.map λp=>(p.1,p.2.2.map (·.1))
noncomputable def rhs (r:qw)(x:TC):Option (qw×List dG):=some (r,match x with
 |some p=>p.2.2.map (·.2)
 |none=>[])
noncomputable def ie (x:TS):Option (SO×List dG):=match x with
 | .bM o _ ks=>some (o,ks.map (·.1))
 | .bC=>none
noncomputable def ip (o:SO)(x:TS):Option (SO×List dG):=some (o,match x with
 | .bM _ _ ks=>ks.map (·.2)
 | .bC=>[])
noncomputable def Od {α:Type}(x:TO α):Option (α×ao×St×List dG):=match x with
 | .ok a ρ σ _ ks=>some (a,ρ,σ,ks.map (·.1))
 |_=>none
noncomputable def OQ {α:Type}(a:α)(ρ:ao)(σ:St)(x:TO α):Option (α×ao×St×List dG):=some (a,ρ,σ,match x with
 | .ok _ _ _ _ ks=>ks.map (·.2)
 |_=>[])
noncomputable def QM (f:N):Bool:=lG.contains f&& !decide (f=Sz)
noncomputable def Sq (f:N):Bool:=QM f&& !eG f&& !decide (f=Sr)&& !decide (f=SA)
section
variable {f:N}{l:List V}{σ σ':St}{r:qw}(fs:List aD){st:Stmt}{o:SO}{ρ ρ':ao}{e:Expr}{a:R}{g:Comprehension}{p:Pos}{vs:List V}
theorem iV (hg:vN f l σ)(e:lhs (dq (lv 40) f l σ fs)=rhs r (dq (lv 40) f l σ fs):=by kernel_rfl)(hf:QM f=true:=by kernel_rfl):aq f l σ r:=by
 cases hb:dq (lv 40) f l σ fs with
 |none=>rw [hb] at e;exact no e
 |some p=>
  rw [hb] at e;have e:=cH e;have h1:p.1=r:=WJ Prod.fst e;have h2:p.2.2.map (·.1)=p.2.2.map (·.2):=WJ Prod.snd e;exact h1▸ay hf λa b=>lT (gT 40) (nc a) (of_decide_eq_false (aY b)) hg hb (.of h2)
theorem wk (e:lhs (dq (lv 40) f l σ fs)=rhs r (dq (lv 40) f l σ fs):=by kernel_rfl)(hf:Sq f=true:=by kernel_rfl):aq f l σ r:=
 ay hf λh h4=>ay h λh h3=>ay h λh1 h2=>iV fs (iJ (aY h2) (of_decide_eq_false (aY h3)) (of_decide_eq_false (aY h4))) e h1
theorem cD (e:ie (ej (lv 40) (bj f ρ σ) st ρ σ fs)=ip o (ej (lv 40) (bj f ρ σ) st ρ σ fs):=by kernel_rfl):eO f st ρ σ o:=λC γ s H F=>by
 have z:=iS (st:=st) (fs:=fs) (gT 40) H F;revert z e;cases ej (lv 40) (bj f ρ σ) st ρ σ fs with
 |bC=>exact no
 |bM o' fs' ks=>
  intro e z;have e:=cH e;have h1:o'=o:=WJ Prod.fst e;have h2:ks.map (·.1)=ks.map (·.2):=WJ Prod.snd e;exact h1▸z (.of h2)
theorem Pp (h:Od (mB (lv 40) (bj f ρ σ) false e ρ σ fs)=OQ a ρ' σ' (mB (lv 40) (bj f ρ σ) false e ρ σ fs):=by kernel_rfl):ET f e ρ σ a ρ' σ':=λC γ s H F=>by
 have z:bO C γ aA (mB (lv 40) (bj f ρ σ) false e ρ σ fs) (eval e C.env) s:=kM (e:=e) (fs:=fs) (m:=false) (gT 40) H F;revert z h;cases mB (lv 40) (bj f ρ σ) false e ρ σ fs with
 |bC=>exact no
 |ba _ _ _ _=>exact no
 |ok a' ρ1 σ1 fs' ks=>
  intro h z;have h:=cH h;have h1:a'=a:=WJ (·.1) h;have h2:ρ1=ρ':=WJ (·.2.1) h;have h3:σ1=σ':=WJ (·.2.2.1) h;have h4:ks.map (·.1)=ks.map (·.2):=WJ (·.2.2.2) h;subst h1 h2 h3;exact z (.of h4)
end
end Mine
end
noncomputable section
set_option maxRecDepth 100000
namespace Mine
open PySem PySem.W PySem.Calls PySem.Spec PyProof.V PySem.Builtin PySem.Builtin.ObjectAttr
section
variable {h:Heap}{g:Array GenState}{d:Drawn}{t:Nat}{os:OsState}{nme q:Str}{C N:Addr}{bs bm bmN:List Value}{hdct:Bool}{sn:List Str}{sub:List Value}{ab:Bool}{col:Option Bool}{dd:Option Addr}{k0 k1 k2 k3 k5:Option Value}{Bn newId inN:String}{rest:List Value}{E:Value→Shared→Prop}
theorem lA {M:Model}{A:Around}(Fn:ExcBaseFacts Bn newId inN bmN)(hBn:bm.contains (.type Bn)=true){Q:Unit→Shared→Prop}(hC:h.get? C=some (excClassObj nme q C N bs bm hdct sn sub ab col dd k0 k1 k2 k3 k5 newId))
  (hq:Q () ⟨h,g,d,t,os⟩):wpAny M A (checkBuiltinCall newId ⟨.ref C::rest,[]⟩) Q E ⟨h,g,d,t,os⟩:=by
 have hcont:(Value.ref C::bm).contains (.type Bn)=true:=by exact aa List.contains_cons (aa hBn (aa (Bool.or_true ..) rfl))
 have hstar:=Fn.noStar
 simp only [checkBuiltinCall,Fn.newKind,Fn.newSplit,Fn.newRow]
 repeat (first|refine wpAny_loadPart_at hC ?_|(refine wpAny_isSubtype_exc hC ?_;refine aa hcont ?_)|refine wpAny_staticBase_exc hC ?_|refine wpAny_madeBy_exc hC ?_|simp only [bne_self_eq_false,Bool.false_eq_true,if_false]|wp_step)
 exact hq
variable {prog:Program}{w:World}{A:Around}
theorem Al {R:Result→Shared→Prop}(Fn:ExcBaseFacts Bn newId inN bmN)(hBn:bm.contains (.type Bn)=true)(hA:bm.contains (.type "AttributeError")=false) (hN:bm.contains (.type "NameError")=false) (hC:h.get? C=some (excClassObj nme q C N bs bm hdct sn sub ab col dd k0 k1 k2 k3 k5 newId))
  (hq:R (.ok (.ret (.ref (h.objs.size+1)))) ⟨(h.push {cls:= .type "tuple",data:= .seq rest.toArray}).push {cls:= .ref C,data:= .fields #[.ref h.objs.size,.none,.none,.none,.bool false,.none]},g,d,t,os⟩) (hrest:rest.length≤sizeLine):
  codeAny (model prog w) A (.builtin newId ⟨.ref C::rest,[]⟩) R ⟨h,g,d,t,os⟩:=by
 have hends:=Fn.ends;have hcB:(Value.ref C::bm).contains (.type Bn)=true:=by exact aa List.contains_cons (aa hBn (aa (Bool.or_true ..) rfl))
 have hcA:(Value.ref C::bm).contains (.type "AttributeError")=false:=by exact aa List.contains_cons (aa hA rfl)
 have hcN:(Value.ref C::bm).contains (.type "NameError")=false:=by exact aa List.contains_cons (aa hN rfl)
 refine codeAny_builtinAt Fn.entry ?_;unfold Builtin.«BaseException.__new__»;refine wpAt_bind ?_;show wpAt _ _ _ (stack>>=_) _ _ _;refine wpAt_bind (wpAt_stack λp below=>wpAt_of_wpAny ?_)
 wp_walk
 refine wpAt_of_wpAny ?_;refine aa Fn.owner ?_
 repeat (first|with_reducible refine wpAny_madeHere_exc Fn.canon hC ?_|with_reducible refine wpAny_loadPart_at hC ?_|(with_reducible refine wpAny_isSubtype_exc hC ?_;first|rewrite [hcB]|rewrite [hcA]|rewrite [hcN])|wp_step)
 show R _ _;exact aa (Heap.size_push ..) hq
theorem lC {K:Frag}{fI:Addr}{Q:PySem.Fin→Shared→Prop}(Fn:ExcBaseFacts Bn newId inN bmN)(hBn:bm.contains (.type Bn)=true)(hA:bm.contains (.type "AttributeError")=false) (hN:bm.contains (.type "NameError")=false) (X:K.In h) (hi:findIn K (.ref C) "__init__" =some (some (.ref fI))) (hf:typeIn K (.ref fI)=some (.type "function"))
  (hC:h.get? C=some (excClassObj nme q C N bs bm hdct sn sub ab col dd k0 k1 k2 k3 k5 newId))
  (hq: ∀h' e,Heap.MadeExcOf h h' e (.ref C) rest→wpAny (model prog w) A (call (.ref fI) (.ref e::rest)) (λr s'=>r= .none∧Q (.done (.ret (.ref e))) s') E ⟨h',g,d,t,os⟩) (hrest:rest.length≤sizeLine):
  wpAny (model prog w) A (Builtin.«type.__call__» ⟨.ref C::rest,[]⟩) Q E ⟨h,g,d,t,os⟩:=by
 repeat (first|with_reducible refine wpAny_loadPart_at hC ?_|with_reducible refine wpAny_madeBy_exc hC ?_|wp_step)
 refine codeAny_call_builtin_code (Code.quiet_builtin _ Fn.quiet) (lA Fn hBn hC ?_);refine Al Fn hBn hA hN hC ?_ hrest;show wpAny _ _ _ _ _ _;have up: ∀b o,h.get? b=some o→((h.push {cls:= .type "tuple",data:= .seq rest.toArray}).push {cls:= .ref C,data:= .fields #[.ref h.objs.size,.none,.none,.none,.bool false,.none]}).get? b=some o:=λb o e=>Heap.get?_push_of_some _ (Heap.get?_push_of_some _ e);have hC₁:=up _ _ hC;have hget:((h.push {cls:= .type "tuple",data:= .seq rest.toArray}).push {cls:= .ref C,data:= .fields #[.ref h.objs.size,.none,.none,.none,.bool false,.none]}).get? (h.objs.size+1)=some
   {cls:= .ref C,data:= .fields #[.ref h.objs.size,.none,.none,.none,.bool false,.none]}:=by heap_get
 have hcC:(Value.ref C::bm).contains (.ref C)=true:=by simp
 have X₁:=X.keeps up;unfold isInstance
 repeat (first|with_reducible refine wpAny_loadPart_at hget ?_|(with_reducible refine wpAny_isSubtype_exc hC₁ ?_;refine aa hcC ?_)|wp_step)
 show wpAny _ _ (typeLookup (.ref C) _) _ _ _;refine (looks_findIn X₁ hi).here (wpAny_holding (wpAny_bind ((bind_fn X₁ _ hf).here ?_)));refine wpAny_bind (wpAny_mono (hq _ (h.objs.size+1) ⟨up,Heap.get?_none_of_le (Nat.le_succ _),h.objs.size,hget,Heap.get?_none_of_le (Nat.le_refl _),?_⟩) (λr s' hr=> ?_) λZ Z x=>x)
 ·exact Heap.get?_push_of_some _ (Heap.get?_push_at rfl rfl)
 ·obtain ⟨rfl,hQ⟩:=hr
  wp_walk
  exact hQ
theorem wN {K:Frag}{fI:Addr}{Q:Value→Shared→Prop}(Fn:ExcBaseFacts Bn newId inN bmN)(hBn:bm.contains (.type Bn)=true)(hA:bm.contains (.type "AttributeError")=false) (hN:bm.contains (.type "NameError")=false) (X:K.In h) (hi:findIn K (.ref C) "__init__" =some (some (.ref fI))) (hf:typeIn K (.ref fI)=some (.type "function"))
  (hC:h.get? C=some (excClassObj nme q C N bs bm hdct sn sub ab col dd k0 k1 k2 k3 k5 newId))
  (hq: ∀h' e,Heap.MadeExcOf h h' e (.ref C) rest→wpAny (model prog w) (A.under (.builtin "type.__call__" ⟨.ref C::rest,[]⟩)) (call (.ref fI) (.ref e::rest)) (λr s'=>r= .none∧Q (.ref e) s') E ⟨h',g,d,t,os⟩) (hrest:rest.length≤sizeLine):
  wpAny (model prog w) A (call (.ref C) rest) Q E ⟨h,g,d,t,os⟩:=by
 have f1:=tc_lookup;have f2:=tc_bind (.ref C);have hT:(⟨h,g,d,t,os⟩:Shared).TypeIs (.ref C) "type" :=⟨_,hC,rfl⟩;refine wpAny_call (codeAny_of_tree ?_);show wpAny _ _ (callAny (.ref C) _) _ _ _
 repeat (any_goals (first|assumption|with_reducible refine wpAny_loadPart_at hC ?_|wp_step))
 refine ⟨rfl,?_⟩;refine codeAny_call_builtin_at (Code.quiet_builtin _ (by decide+kernel)) entry_typeCall (wpAny_check_type_call_sub hC (lC Fn hBn hA hN X hi hf hC (λh' e hm=> ?_) hrest));exact hq h' e hm
theorem uv {M:Model}{s:Shared}{env:PySem.Env}{x:Sem Value}{Q:Flow→Shared→Prop}(hbase:bm.contains (.type "BaseException")=true) (hh:A.handled=none)
  (h:wpAny M A x (λv s₁=> ∃e t od,v= .ref e∧s₁.heap.get? C=some (excClassObj nme q C N bs bm hdct sn sub ab col dd k0 k1 k2 k3 k5 newId)∧
   s₁.heap.get? e=some {cls:= .ref C,dict:=od,data:= .fields #[.ref t,.none,.none,.none,.bool false,.none]}∧E (.ref e) s₁) E s):
  wpAny M A (raiseStmt env (some x) none) Q E s:=by
 have hcB:(Value.ref C::bm).contains (.type "BaseException")=true:=by exact aa List.contains_cons (aa hbase (aa (Bool.or_true ..) rfl))
 unfold raiseStmt;refine wpAny_bind (wpAny_mono h (λv s₁ h₁=> ?_) λZ Z x=>x);obtain ⟨e,t,od,rfl,hC,he,hE⟩:=h₁;obtain ⟨hp,g,d,tk,os⟩:=s₁
 repeat (first|with_reducible refine wpAny_loadPart_at he ?_|with_reducible refine wpAny_loadPart_at hC ?_|(with_reducible refine wpAny_isSubtype_exc hC ?_;refine aa hcB ?_)|wp_step)
 exact wpAny_raiseNew_none hh hE
end
section
variable {prog:Program}{w:World}{A:Around}{K:Frag}{C x:Addr}{s:Shared}{name:Str}{v:Value}{E:Value→Shared→Prop}{Q:Unit→Shared→Prop}
theorem sd {ox:Obj}{od:Option Obj}(S:mO K C name)(X:K.In s.heap)(I:InstAt s.heap x ox C od)
  (h: ∀tk b,wpAny (model prog w) A.in1 (Builtin.ObjectAttr.storeInOwnDict (.ref x) (.ref C) (.str name tk) name v b) (λfin s'=>fin= .done (.ret .none)∧Q () s') E {s with toks:=s.toks+1}):wpAny (model prog w) A (setAttr (.ref x) name v) Q E s:=by
 obtain ⟨cd,hc,ne,ho,hr,hd⟩:=S.cls;have SF:=PySem.F.store_object;refine set_plain X I S.sa ?_;generalize hs1:({s with toks:=s.toks+1}:Shared)=s1 at h⊢;have hh1:s1.heap=s.heap:=by subst hs1;rfl
 rw [←hh1] at X I;have sub:Looks (model prog w) s1.heap (isInstance (.ref x) (.type "object")) true:=I.type.andThen (looks_mroIn X (by unfold mroIn;rw [hc,Option.bind_some,WG (by refine aa ne ?_;decide),ho]));refine codeAny_call_builtin SF.slot.plain SF.entry (@check_slot (model prog w) _ _ _ "object.__setattr__" "object" "__setattr__" (.ref x) [.str name s.toks,v] [] _ SF.kind SF.split sub (SF.args (.ref x) (.str name s.toks) v) ?_);obtain ⟨attr,ha,hr2⟩:=Option.bind_eq_some_iff.mp S.tk;have hm:Looks (model prog w) s1.heap (mroOf (.ref C)) cd.mro:=(looks_clsIn X hc).andThen .now;have L3:Looks (model prog w) s1.heap (storeTaker? attr) none:=by
  cases attr with
  |none=>cases hr2;exact .now
  |some a=>
   obtain ⟨b,hb,e⟩:=Option.map_eq_some_iff.mp hr2;refine (looks_takesIn X hb).andThen ?_;cases b with
   |true=>exact AZ e
   |false=>exact .now
 rw [osa_eq,refuse_eq];refine wpAny_bind (wpAny_bind (I.type.here (wpAny_bind (hm.here ?_))));rw [hr];refine wpAny_pure (wpAny_bind (I.type.here (wpAny_bind ((looks_findIn X ha).here (wpAny_bind (L3.here ?_))))));refine wpAny_mono (h _ _) (λfin s' q=> ?_) λZ Z q=>q;obtain ⟨rfl,q⟩:=q;exact q
set_option tactic.hygienic true in
theorem rZ {dx:Addr}{es:List DictEntry}{n:Nat}{tk:Tok}{R:PySem.Fin→Shared→Prop}(D:s.heap.get? dx=some (dictOf es n))(hl:(getL name es).isSome=true)(hz:es.length≤900)
  (h: ∀h' n' tk',Heap.SameBut dx s.heap h'→h'.get? dx=some (dictOf (PySem.W.putL name (PyData.keyHash w.params name) (.str name tk') v es) n')→R (.done (.ret .none)) {s with heap:=h',toks:=s.toks+1}):
  wpAny (model prog w) A (Builtin.ObjectAttr.storeInDict dx (.str name tk) name v) R E s:=by
 refine wpAny_bind (wpAny_pure (wpAny_bind ?_));unfold nsSet;refine wpAny_bind (wpAny_bind (wpAny_askSetting (wpAny_pure (wpAny_bind (wpAny_mkText (wpAny_bind (wpAny_loadPart D ?_)))))));have c:(!(List.toArray es).any (·.key.isStr name)&&(List.toArray es).any (·.refKey))=false:=by
  refine aa List.any_toArray (aa List.any_toArray ?_);unfold getL at hl
  split at hl
  ·rename_i en he;exact aa (List.any_eq_true.mpr ⟨en,List.mem_of_find?_eq_some he,List.find?_some he⟩) rfl
  ·split at hl
   ·exact bK hl
   ·rename_i z;rw [Bool.not_eq_true] at z;rw [z,Bool.and_false]
 dsimp only;refine aa (aRefKeyMayBeTheName_at ..) (aa c ?_);refine wpAny_updatePart D ?_;have D':(s.heap.update dx (Obj.putName name (PyData.keyHash w.params name) (.str name s.toks) v)).get? dx=some (dictOf (PySem.W.putL name (PyData.keyHash w.params name) (.str name s.toks) v es) (PySem.W.putN name es n)):=by
  refine fF (putName_dict ..) ?_;exact Heap.get?_update_self _ D (by exact aa (putName_dict ..) rfl)
 refine wpAny_bind (wpAny_lookBehind D' (pastItsLine_dict (by refine aa List.size_toArray (aa sizeLine_eq ?_);have:=pN (n:=name) (h:=PyData.keyHash w.params name) (k:= .str name s.toks) (v:=v) (es:=es);exact lD hz this)) ?_);exact wpAny_pure (h _ _ _ (Heap.SameBut.update ..) D')
theorem ki {ox:Obj}{dx:Addr}{es:List DictEntry}{n:Nat}{tk:Tok}{b:Bool}{cd:ClassData}{R:PySem.Fin→Shared→Prop}(X:K.In s.heap)(hc:clsIn K C=some cd)(hd:cd.hasDict=true)(hx:s.heap.get? x=some ox)(hcl:ox.cls= .ref C)(hdx:ox.dict=some dx)
  (D:s.heap.get? dx=some (dictOf es n)) (hl:(getL name es).isSome=true) (hz:es.length≤900)
  (h: ∀h' n' tk',Heap.SameBut dx s.heap h'→h'.get? dx=some (dictOf (PySem.W.putL name (PyData.keyHash w.params name) (.str name tk') v es) n')→R (.done (.ret .none)) {s with heap:=h',toks:=s.toks+1}):
  wpAny (model prog w) A (Builtin.ObjectAttr.storeInOwnDict (.ref x) (.ref C) (.str name tk) name v b) R E s:=by
 obtain ⟨oc,odi,oda,osl⟩:=ox;dsimp only at hcl hdx;subst hcl hdx;refine wpAny_bind (wpAny_pure (wpAny_bind (wpAny_bind (wpAny_loadPart hx (wpAny_bind ((looks_clsIn X hc).here ?_))))));exact aa hd (wpAny_pure (a:=some dx) (rZ D hl hz h))
theorem kh {ox:Obj}{vs:Array Value}{tk:Tok}{b:Bool}{cd:ClassData}{R:PySem.Fin→Shared→Prop}(X:K.In s.heap)(hc:clsIn K C=some cd)(hd:cd.hasDict=true)(hx:s.heap.get? x=some ox)(hcl:ox.cls= .ref C)(hdx:ox.dict=none)(hda:ox.data= .fields vs)
  (h: ∀h' n' tk',(∀b o,b≠x→s.heap.get? b=some o→h'.get? b=some o)→h'.get? x=some {ox with dict:=some s.heap.objs.size}→h'.get? s.heap.objs.size=some (dictOf (PySem.W.putL name (PyData.keyHash w.params name) (.str name tk') v []) n')→R (.done (.ret .none)) {s with heap:=h',toks:=s.toks+1}):
  wpAny (model prog w) A (Builtin.ObjectAttr.storeInOwnDict (.ref x) (.ref C) (.str name tk) name v b) R E s:=by
 obtain ⟨oc,odi,oda,osl⟩:=ox;dsimp only at hcl hdx hda;subst hcl hdx hda;refine wpAny_bind (wpAny_pure (wpAny_bind (wpAny_bind (wpAny_loadPart hx (wpAny_bind ((looks_clsIn X hc).here ?_))))));refine aa hd ?_;have hx1:=Heap.get?_push_of_some emptyDict hx;have hxs:x≠s.heap.objs.size:=Nat.ne_of_lt (Heap.lt_size hx);refine wpAny_bind (wpAny_alloc (wpAny_bind (wpAny_update hx1 ?_)));have hx2:((s.heap.push emptyDict).update x λo=>{o with dict:=some s.heap.objs.size}).get? x=some {cls:= .ref C,dict:=some s.heap.objs.size,data:= .fields vs,slots:=osl}:=Heap.get?_update_self _ hx1 rfl;have hD:((s.heap.push emptyDict).update x λo=>{o with dict:=some s.heap.objs.size}).get? s.heap.objs.size=some (dictOf [] 0):=(Heap.get?_update_other _ _ hxs).trans (Heap.get?_push_size s.heap rfl);refine wpAny_pure (a:=some s.heap.objs.size) (rZ (s:={s with heap:=(s.heap.push emptyDict).update x λo=>{o with dict:=some s.heap.objs.size}}) hD rfl (by simp) λh' n' tk' hs hD'=> ?_);refine h h' n' tk' (λb o hb q=>(hs.2 b (Nat.ne_of_lt (Heap.lt_size q))).trans ((Heap.get?_update_other _ _ (Ne.symm hb)).trans (Heap.get?_push_of_some _ q))) ((hs.2 x hxs).trans hx2) hD'
end
end Mine
end
noncomputable section
namespace Mine
open PySem PySem.W PySem.Calls PyProof.Rows PySem.SeqAt
variable {σ:St}{ρ:ao}{γ:GS}{C:Cx}{E:Value→Shared→Prop}{body:List Stmt}{fd:FuncData}{fI:Addr}{kn:List (Str×NameKind)}
section
variable {pre rest:aJ}{s s':Shared}{e:Addr}{oe oe' od:Obj}
theorem gF:aL γ (pre++(e,oe)::rest)=(γ.aG++(γ.own++(γ.mu++pre)))++(e,oe)::(rest++γ.fz):=by
 show γ.aG++(γ.own++(γ.mu++((pre++(e,oe)::rest)++γ.fz)))=_;rw [Wn γ.aG,Wn γ.own,Wn γ.mu,Wn pre];rfl
theorem FS.ye (F:FS (C.aS (pre++(e,oe)::rest)) ρ σ γ s)(ho: ∀b o,b≠e→s.heap.get? b=some o→s'.heap.get? b=some o)(he:s'.heap.get? e=some oe')(hg:s'.gens=s.gens)(hos:s'.os=s.os):FS (C.aS (pre++(e,oe')::rest)) ρ σ γ s':=by
 have nw:News C.g C.L s.heap _:=gF▸F.nw;have ds:aN _:=gF▸F.ds;have me:=nw (e,oe) iK;have ne:=(ds.dA List.perm_middle).sW;obtain ⟨oL,hL,hn⟩:=dz F.fr.ns;have nw':News C.g C.L s'.heap (aL γ (pre++(e,oe')::rest)):=by
  refine aa gF ?_;intro p hp;cases List.mem_append.mp hp with
  |inl q=>
   have z:=nw p (WC _ q);exact ⟨ho _ _ (ne p (WC _ q)) z.1,z.2⟩
  |inr q=>cases Wv q with
   |inl eM=>subst eM;exact ⟨he,me.2⟩
   |inr q=>
    have z:=nw p (WB _ (.tail _ q));exact ⟨ho _ _ (ne p (WB _ q)) z.1,z.2⟩
 refine ⟨⟨hn.ns (ho _ _ (Ne.symm me.2.1) hL),λb o q=>ho _ _ (λz=> ?_) (F.fr.keep b o q),F.fr.above⟩,nw',?_,F.ow,F.mu,hg.trans F.ge,hos.trans F.os,F.x0⟩
 ·rw [z,me.2.2] at q;exact ig q
 ·show aN (aL γ (pre++(e,oe')::rest));exact aa gF ds.set
theorem FS.more (F:FS (C.aS rest) ρ σ γ s)(ho: ∀b o,s.heap.get? b=some o→s'.heap.get? b=some o)(hn:s.heap.get? e=none)(he:s'.heap.get? e=some oe)(hg:s'.gens=s.gens)(hos:s'.os=s.os):FS (C.aS ((e,oe)::rest)) ρ σ γ s':=by
 have no': ∀{b:Addr} {o:Obj},s.heap.get? b=some o→b≠e:=λh q=>by rw [q,hn] at h;exact ig h
 obtain ⟨oL,hL,hnL⟩:=dz F.fr.ns;exact FS.alloc (C:=C.aS rest) F ⟨hnL.ns (ho _ _ hL),λb o q=>ho _ _ (F.fr.keep b o q),F.fr.above⟩ (List.forall_mem_cons.mpr ⟨⟨he,Ne.symm (no' hL),ax (x:=C.g.get? e) id λo q=>WK rfl (no' (F.fr.keep _ _ q))⟩,λp hp=>⟨ho _ _ (F.nw p hp).1,(F.nw p hp).2⟩⟩) (λp hp=>no' (F.nw p hp).1) hg hos
theorem FS.dict (F:FS (C.aS ((e,oe)::rest)) ρ σ γ s)(ho: ∀b o,b≠e→s.heap.get? b=some o→s'.heap.get? b=some o)(he:s'.heap.get? e=some oe')(hD:s'.heap.get? s.heap.objs.size=some od)(hg:s'.gens=s.gens)(hos:s'.os=s.os):
  FS (C.aS ((s.heap.objs.size,od)::(e,oe')::rest)) ρ σ γ s':=by
 have F2:FS (C.aS ((e,oe')::rest)) ρ σ γ s':=FS.ye (pre:=[]) F ho he hg hos;have nn: ∀{b:Addr} {o:Obj},s.heap.get? b=some o→b≠s.heap.objs.size:=λq=>Nat.ne_of_lt (Heap.lt_size q);obtain ⟨oL,hL,_⟩:=dz F.fr.ns;refine FS.alloc (C:=C.aS ((e,oe')::rest)) F2 F2.fr (List.forall_mem_cons.mpr ⟨⟨hD,(λq=>nn hL q.symm),ax (x:=C.g.get? s.heap.objs.size) id λo q=>WK rfl (nn (F.fr.keep _ _ q))⟩,F2.nw⟩) λp hp=> ?_;cases Wv (bq.mem_iff.mp hp) with
 |inl eM=>subst eM;exact nn (F.nw _ (bq.mem_iff.mpr (.head _))).1
 |inr hp=>exact nn (F.nw _ (bq.mem_iff.mpr (.tail _ hp))).1
theorem FS.NU (F:FS (C.aS (pre++rest)) ρ σ γ s):FS (C.aS rest) ρ σ γ {s with heap:=hideAll s.heap (pre.map (·.1))}:=by
 have pm:(aL γ (pre++rest)).Perm (pre++aL γ rest):=by
  show (γ.aG++(γ.own++(γ.mu++((pre++rest)++γ.fz)))).Perm _;rw [Wn pre];exact (((List.perm_append_comm_assoc γ.mu pre _).append_left γ.own|>.trans (List.perm_append_comm_assoc γ.own pre _)).append_left γ.aG).trans (List.perm_append_comm_assoc γ.aG pre _)
 have ds2:=aN.dA pm F.ds;unfold aN at ds2;rw [List.map_append,List.nodup_append] at ds2;have nw2: ∀p∈pre++aL γ rest,s.heap.get? p.1=some p.2∧p.1≠C.L∧C.g.get? p.1=none:=λp hp=>F.nw p (pm.mem_iff.mpr hp);obtain ⟨oL,hL,hnL⟩:=dz F.fr.ns;refine ⟨⟨hnL.ns (hideAll_get _ hL λq=> ?_),λb o q=>hideAll_get _ (F.fr.keep b o q) λz=> ?_,F.fr.above⟩,λp hp=>⟨hideAll_get _ (nw2 p (WB _ hp)).1 λz=> ?_,(nw2 p (WB _ hp)).2⟩,ds2.2.1,F.ow,F.mu,F.ge,F.os,F.x0⟩
 ·obtain ⟨p,hp,e⟩:=List.mem_map.mp q;exact (nw2 p (WC _ hp)).2.1 e
 ·obtain ⟨p,hp,e⟩:=List.mem_map.mp z;rw [←e,(nw2 p (WC _ hp)).2.2] at q;exact ig q
 ·exact ds2.2.2 _ z _ (List.mem_map_of_mem hp) rfl
end
noncomputable abbrev E4 (D:Wd)(d:Option Addr)(t:Addr):Obj:={cls:= .ref D.ps,dict:=d,data:= .fields #[.ref t,.none,.none,.none,.bool false,.none]}
section
variable {keep R0:aJ}{s:Shared}{e t:Addr}{ot:Obj}{u:Value}
theorem kE {n:N}{pos:Pos}{R:aJ}{Q:Value→Shared→Prop}(K:aW C)(F:FS (C.aS R) ρ σ γ s)(hN:jP n=true)(hl:bP C.env γ.m γ.aG n=some u)(h:Q u s):wpAny (aC C) C.A (eval (.Name (nm n) pos) C.env) Q E s:=gy (C:=C.aS R) K.aS F hN hl h
theorem x9 (h:o7 [(SM,0),(Tf,Tf)] body): ∃p1 p2 k p3 p4 q1 q2 q3 q4,body=[.Assign [.Attribute (.Name (nm SN) p1) (nm SM) p2] (.Constant (.int 0) k p3) p4,.Assign [.Attribute (.Name (nm SN) q1) (nm Tf) q2] (.Name (nm Tf) q3) q4]:=by
 cases h with
 |cons h1 h=>
  cases h with
  |cons h2 h=>
   cases h with
   |nil=>
    obtain ⟨v,p1,p2,p3,e1,z1⟩:=h1;obtain ⟨w,q1,q2,q3,e2,z2⟩:=h2;rw [WE rfl] at z1;rw [WG (by decide)] at z2;obtain ⟨k,p4,e3⟩:=z1;obtain ⟨q4,e4⟩:=z2;subst e1 e2 e3 e4;exact ⟨p1,p2,k,p4,p3,q1,q2,q4,q3,rfl⟩
theorem Bl {Q:Flow→Shared→Prop}(K:aW C)(R:vU C.D fI fd kn body)(ls:bP C.env γ.m γ.aG SN=some (.ref e))(lt:bP C.env γ.m γ.aG Tf=some u)
  (F:FS (C.aS ((e,E4 C.D none t)::(t,ot)::R0)) ρ σ γ s) (h: ∀d od s',FS (C.aS ((d,od)::(e,E4 C.D (some d) t)::(t,ot)::R0)) ρ σ γ s'→Q .next s'):wpAny (aC C) C.A (PySem.execs body C.env) Q E s:=by
 obtain ⟨p1,p2,k,p3,p4,q1,q2,q3,q4,e1⟩:=x9 R.st;subst e1;refine wpAny_execs_cons (plainObj_wpAny_Assign_Attribute ?_ rfl);refine wpAny_Constant_int ?_;have F1:=F.same (s':={s with toks:=s.toks+1});refine kE K F1 (by decide+kernel) ls ?_;have g1:=F1.fb (.head _);obtain ⟨cd,hcd,_,_,_,hd⟩:=R.s1.cls;refine sd (od:=none) R.s1 (K.fh.keeps F1.fr.keep) ⟨g1,rfl,rfl,trivial⟩ λtk b=> ?_;refine kh (K.fh.keeps F1.fr.keep) hcd hd g1 rfl rfl rfl λh' n' tk' ho hx hD=>⟨rfl,?_⟩;have F3:=FS.dict (s':={s with heap:=h',toks:=s.toks+1+1+1}) F1 ho hx hD rfl rfl;have hA:dH C.D γ.fz γ.αs [(SM,V.int 0)] _:=pR (n:=SM) (hs:=PyData.keyHash C.D.w.params (nm SM)) (t:=tk') (.int 0 s.toks) .nil;refine wpAny_execs_cons (plainObj_wpAny_Assign_Attribute ?_ rfl);refine kE K F3 (by decide+kernel) lt ?_;refine kE K F3 (by decide+kernel) ls ?_;have g2:=F3.fb (.tail _ (.head _));have g3:=F3.fb (.head _);refine sd (od:=some _) R.s2 (K.fh.keeps F3.fr.keep) ⟨g2,rfl,rfl,g3⟩ λtk2 b2=> ?_;refine ki (K.fh.keeps F3.fr.keep) hcd hd g2 rfl rfl g3 (mw hA) (by refine fF hA.len ?_;decide) λh2 n2 tk3 hs2 hD2=>⟨rfl,?_⟩;have F4:=FS.ye (pre:=[]) (s':={s with heap:=h2,toks:=s.toks+1+1+1+1+1}) F3 (λb o hb q=>(hs2.2 b hb).trans q) hD2 rfl rfl;exact wpAny_execs_nil (h _ _ _ F4)
end
section
variable {r r':aJ}{s:Shared}{Q:Value→Shared→Prop}
theorem FS.dA (F:FS (C.aS r) ρ σ γ s)(p:r.Perm r'):FS (C.aS r') ρ σ γ s:=
 have q:(aL γ r).Perm (aL γ r'):=WH _ (WH _ (WH _ (List.Perm.append_right _ p)))
 ⟨F.fr,bw F.nw λz hz=>q.mem_iff.mpr hz,F.ds.dA q,F.ow,F.mu,F.ge,F.os,F.x0⟩
set_option tactic.hygienic true in
set_option backward.match.sparseCases true in
theorem Bk (K:aW C)(Nc:cV C C.env)(R:vU C.D fI fd kn body){tx:Str}{tk:Tok}(hd:C.A.depth≤960)(hu:C.A.units+100<cLine)(F:FS C ρ σ γ s)
  (h: ∀e t od vs s',qI C ρ σ γ e t vs (hideAll s'.heap [e,t]) s'→s'.heap.get? e=some (E4 C.D od t)→FS C ρ σ γ s'→Q (.ref e) s'):wpAny (aC C) C.A (call (.ref C.D.ps) [.str tx tk]) Q E s:=by
 obtain ⟨nme,q,Nn,bs,bm,hdct,sn,sub,ab,col,dd,k0,k1,k2,k3,k5,hC⟩:=R.cls;have hIn:C.D.K.In s.heap:=K.fh.keeps F.fr.keep;obtain ⟨hp,gn,dr,iT,os⟩:=s;refine wN PySem.F.excBase_Exception hC.ex hC.ae hC.ne hIn R.fi R.ty (hIn _ _ hC.obj) (λh' e hm=> ?_) (dj (n:=1) (by decide));obtain ⟨t,he,htn,htt⟩:=hm.there;have F1:FS (C.aS ((t,fQ [Value.str tx tk] 0)::C.rest)) ρ σ γ {heap:=hideAll h' [e],gens:=gn,drawn:=dr,toks:=iT,os:=os}:=by
  refine FS.more F (λb o q=>hideAll_get _ (hm.keeps b o q) λz=> ?_) htn (hideAll_get _ htt λz=> ?_) rfl rfl
  ·obtain rfl:=Wx z;rw [hm.new] at q;exact ig q
  ·obtain rfl:=Wx z;rw [he] at htt;exact nomatch htt
 have F2:FS (C.aS ((e,E4 C.D none t)::(t,fQ [Value.str tx tk] 0)::C.rest)) ρ σ γ {heap:=h',gens:=gn,drawn:=dr,toks:=iT,os:=os}:=
  FS.more F1 (λb o q=>of_hideAll _ q) (hideAll_none _ (.head _)) he rfl rfl
 have FN:=R.fn;obtain ⟨fo,hfo,hfd⟩:=FN.obj;obtain ⟨hn,G,hmk,hback⟩:=F2.q7 Nc.aS;rename_i oL m keep;have hIn2:C.D.K.In h':=K.fh.keeps F2.fr.keep;obtain ⟨ds,hds,hbi⟩:=FN.bind {heap:=h',gens:=gn,drawn:=dr,toks:=iT,os:=os} [.ref e,.str tx tk] hIn2 rfl;have e0:ds=[]:=List.length_eq_zero_iff.mp (hds [] []).len.symm;subst e0;have hkinds:=kindsX (scope:=fd.scope) (binds:=([SN,Tf].map nm).zip [.ref e,.str tx tk]) (List.all_eq_true.mpr λy hy=>Wu FN.sH y.1 ((List.map_fst_zip (l₁:=[SN,Tf].map nm) (l₂:=[Value.ref e,.str tx tk]) (by simp))▸List.mem_map_of_mem hy));have hdi:=R;obtain ⟨t1,t2,t3⟩:=kT (A:=C.A) (Ca:=C.D.ps) (r:=[Value.str tx tk]);refine wpAny_call (wt K (t3.trans Nc.fr) Nc hn ⟨G.lo,G.kp,G.nw,G.ds,G.mu,G.ge,G.os⟩ (hIn2 _ _ hfo) (FN.fe▸hfd) (codeRec_of hIn2 FN.code) (by exact aa t1 (WD (Nat.succ_le_succ hd) (by decide))) (FN.fe▸hbi) hkinds FN.L5 (λg L' h₁ tkk cells hg st hB F' N' Y dC=> ?_) FN.co FN.aB FN.kind);have hcok:eE (envOfC fd.qualname fd.scope L' fI fd.code) cells:=⟨λp hp=>by obtain ⟨o,h1,h2⟩:=cX Y p hp;exact ⟨o,_,h1,h2⟩,λL hL hne=>WK (cH hL).symm hne⟩;have lk: ∀y u,(nm y,u)∈([SN,Tf].map nm).zip [Value.ref e,.str tx tk]→bP (envOfC fd.qualname fd.scope L' fI fd.code) (bindL (envOfC fd.qualname fd.scope L' fI fd.code).kindOf (([SN,Tf].map nm).zip [Value.ref e,.str tx tk]) λZ=>none) cells y=some u:=λy u hm=>
  fB Y (aN.sub (List.sublist_append_left _ _) dC) FN.nd hm (hkinds (L'+1) _ hm)
 have mv: ∀{a b:Addr×Obj},(keep++(a::b::C.rest)).Perm (a::b::(keep++C.rest)):=List.perm_middle.trans (List.perm_middle.cons _);have FC:FS ((C.cf (C.A.under (.builtin "type.__call__" ⟨.ref C.D.ps::[.str tx tk],[]⟩)) C.env (envOfC fd.qualname fd.scope L' fI fd.code) g [] γ.fz γ.αs).aS (keep++((e,E4 C.D none t)::(t,fQ [Value.str tx tk] 0)::C.rest))) [] σ {m:=bindL (envOfC fd.qualname fd.scope L' fI fd.code).kindOf (([SN,Tf].map nm).zip [Value.ref e,.str tx tk]) λZ=>none,aG:=cells,αs:=γ.αs,fz:=γ.fz,own:=[],mu:=γ.mu} {heap:=h₁,gens:=gn,drawn:=dr,toks:=tkk,os:=os}:=
  ⟨F',N',dC,.nil hcok,G.mu,G.ge,G.os,.refl⟩
 refine Bl (C:=C.cf (C.A.under (.builtin "type.__call__" ⟨.ref C.D.ps::[.str tx tk],[]⟩)) C.env (envOfC fd.qualname fd.scope L' fI fd.code) g [] γ.fz γ.αs) (f5 K (t3.trans Nc.fr) hB st FN.kind rfl rfl rfl (by exact aa t2 (lB hu))) hdi (lk SN _ (.head _)) (lk Tf _ (.tail _ (.head _))) (FC.dA mv) λd od s4 F4=> ?_;have F4':=F4.dA (((mv.symm.cons (d,od))).trans List.perm_middle.symm);refine ⟨L',_,_,F4'.fr,bw F4'.nw λp hp=>WB _ hp,λFr' N''=>⟨rfl,?_⟩⟩;have F5:=hback _ σ γ.αs γ.fz γ.mu s4 .refl ⟨F4'.fr.keep _ _ hg,λb o e=>F4'.fr.keep _ _ (st _ _ e),N'',aN.sub (List.sublist_append_right _ _) F4'.ds,F4'.mu,F4'.ge,F4'.os⟩;have F6:FS (C.aS ((e,E4 C.D (some d) t)::(t,fQ [Value.str tx tk] 0)::C.rest)) ρ σ γ s4:=FS.drop F5;have g1:=F6.fb (.head _);have g2:=F6.fb (.tail _ (.head _));exact h e t (some d) [.str tx tk] s4 ⟨FS.NU (pre:=[_,_]) F6,λb o q=>of_hideAll _ q,hideAll_none _ (.head _),hideAll_none _ (.tail _ (.head _)),⟨_,g1⟩,⟨_,_,g2,rfl,rfl⟩⟩ g1 (FS.drop (FS.drop F6))
end
section
variable {s:Shared}
theorem yd (K:aW C)(Nc:cV C C.env)(hh:C.A.handled=none)(R:vU C.D fI fd kn body)(GO:MK C.D)(hd:C.A.depth≤960)(hu:C.A.units+100<cLine)(hX:C.X SM=true){i:Int}(hi:i.natAbs<2^60)(hg:cu ρ SM=some (.val (.int i)))
  (k1:C.env.kindOf (nm Tu)=some .globalImplicit) (k2:C.env.kindOf (Str.ofString "str")=some .globalImplicit) {p1 p2 p3 p4 p5 p6:Pos} {Q:Flow→Shared→Prop} (F:FS C ρ σ γ s):
  wpAny (aC C) C.A (PySem.exec (.Raise (some (.Call (.Name (nm Tu) p1) [.Call (.Name (Str.ofString "str") p2) [.Name (nm SM) p3] [] p4] [] p5)) none p6) C.env) Q (rL C (.ba ρ σ)) s:=by
 obtain ⟨nme,q,Nn,bs,bm,hdct,sn,sub,ab,col,dd,k0,k1',k2',k3,k5,hC⟩:=R.cls;refine aa (arm_exec_Raise ..) ?_;show wpAny _ _ (do standAt p6;raiseStmt C.env (some (do let v←eval _ C.env;standAt p6;pure v)) none) _ _ _;refine wpAny_bind (wpAny_standAt (uv (C:=C.D.ps) hC.be hh (wpAny_bind (wpAny_mono (Q:=λv s₁=> ∃e t od,v= .ref e∧s₁.heap.get? C.D.ps=some (excClassObj nme q C.D.ps Nn bs bm hdct sn sub ab col dd k0 k1' k2' k3 k5 "Exception.__new__")∧
   s₁.heap.get? e=some (E4 C.D od t)∧rL C (.ba ρ σ) (.ref e) s₁) ?_ (λv s₁ h₁=>wpAny_bind (wpAny_standAt (wpAny_pure h₁))) λZ Z x=>x))))
 refine Call_Name rfl (nameG_K F.fr K.fh K.qj R.nm ?_ K.uy K.hk k1 (da (by decide+kernel)));refine callWith_K K.fh R.keep ?_ rfl rfl;refine wpAny_items_cons ?_ rfl;refine Call_Name rfl (gw K F GO.str PyProof.Rows.boot_str (by decide) k2 (by decide) ?_);refine PyProof.Rows.callWith_type1 (wpAny_items_cons ?_ rfl) rfl rfl;obtain ⟨u,h1,h2⟩:=F.ow.As hg hX;refine gy K F (by decide+kernel) h1 (wpAny_items_nil ?_);refine h2.eV λt hu'=> ?_;subst hu';refine P.str_of_int ?_ ?_
 ·by_cases z:i.natAbs=0
  ·refine aa z ?_;decide
  ·exact Nat.lt_of_lt_of_le ((Nat.log2_lt z).mpr hi) (by decide)
 refine wpAny_items_nil ?_;have F1:=F.same (s':={s with toks:=s.toks+1});exact ⟨K.fh.keeps F1.fr.keep,Bk K Nc R hd hu F1 λe t od vs s' M g F'=>⟨e,t,od,rfl,K.fh.keeps F'.fr.keep _ _ (hC.obj),g,.mk M⟩⟩
end
noncomputable def xb (l:List Stmt):Stmt:=match l with
 |s::_=>s
 |[]=> .Pass default
noncomputable def Qx (s:Stmt):Expr×Pos:=match s with
 | .Raise (some e) _ p=>(e,p)
 |_=>(.Constant .none 0 default,default)
noncomputable def uh (e:Expr):Expr×List Expr:=match qQ e with
 |some p=>(p.1,p.2.1)
 |none=>(e,[])
noncomputable def PY:Stmt:=xb ((dQ Sw).drop 1)
noncomputable def L8:Expr:=(Qx PY).1
noncomputable def L7:Expr:=(uh L8).2.headD L8
noncomputable def Rj:Expr:=(uh L7).2.headD L7
theorem Ao:dQ Sw=[xb (dQ Sw),.Raise (some (.Call (.Name (nm Tu) (uh L8).1.pos) [.Call (.Name (Str.ofString "str") (uh L7).1.pos) [.Name (nm SM) Rj.pos] [] L7.pos] [] L8.pos)) none (Qx PY).2]:=by kernel_rfl
section
variable {l:List V}{σ1:St}{ρ0 ρ1:ao}{n:Nat}{fs:List aD}{i:Int}
theorem j6 (hb:jm (jz Sw) (CP Sw l)=some ρ0)(e:ie (ej (lv n) (vv Sw l σ) (xb (dQ Sw)) ρ0 σ fs)=ip (.next ρ1 σ1) (ej (lv n) (vv Sw l σ) (xb (dQ Sw)) ρ0 σ fs))(hg:cu ρ1 SM=some (.val (.int i)))(hi:i.natAbs<2^60):aq Sw l σ (.ba σ1):=
 ⟨iJ (by decide+kernel) (by decide) (by decide),λC fe A' us ρ γ s hH K N hA hh hho hdep hun F hr=>by
  obtain ⟨fd,FN⟩:=hH.P2 Sw (nc (by decide+kernel));obtain ⟨fI,fd2,kn,bd,PO⟩:=hH.PO;have hc:=Ao;revert hc e;generalize xb (dQ Sw)=st;intro e' hc;refine oQ (o:= .ba ρ1 σ1) K N FN hA (Nat.le_trans (Nat.le_add_right ..) hdep) (WD (Nat.add_le_add_right (Nat.le_add_right ..) _) hun) F hr hb rfl λg L' γ0 keep s0 K' N' F'=> ?_;have T:=js (l:=l) (σ:=σ) FN hH (iJ (by decide+kernel) (by decide) (by decide)) (by decide) hh hho hdep hun K' N';have z:=iS (st:=st) (fs:=fs) (gT n) T F';refine aa hc ?_;revert z e';cases ej (lv n) (vv Sw l σ) st ρ0 σ fs with
  |bC=>exact no
  |bM o fs' ks=>
   intro e' z;have e':=cH e';have h1:o= .next ρ1 σ1:=WJ Prod.fst e';have h2:ks.map (·.1)=ks.map (·.2):=WJ Prod.snd e';subst h1;refine wpAny_execs_cons (wpAny_mono (z (.of h2)) (λf s1 q=> ?_) λe s1 q=>nomatch q);cases q with
   |next q=>
    obtain ⟨y,F1⟩:=q;exact wpAny_execs_cons (wpAny_mono (yd (Q:=λZ Z=>False) K' N' (T.lp (WA (by decide:(Sw:Nat)≠Tg))) PO hH.GO (Nat.le_trans (Nat.le_add_right ..) T.Ag) (WD (Nat.add_le_add_right (Nat.le_add_right ..) _) T.un) (by decide+kernel:jP SM=true) hi hg ((T.ks _).trans (by kernel_rfl)) ((T.ks _).trans (by kernel_rfl)) F1) (λZ Z z=>z.elim) λZ Z z=> .inr (by cases z with|mk z=>exact .mk z))⟩
end
section
variable {prog:Program}{w:World}{A:Around}{s:Shared}{h₀:Heap}{L:Addr}{m:Str→Option Value}{news:List (Addr×Obj)}{vs:List Value}
theorem rG {a:Addr}{n:Nat}{P:PySem.Fin→Shared→Prop}(F:Fr h₀ L s.heap m)(N:News h₀ L s.heap news)(ho:s.heap.get? a=some (seqObj "list" vs.toArray n)) (haL:a≠L) (ha0:h₀.get? a=none) (hna: ∀p∈news,p.1≠a)
  (h2:vs.length<2) (h: ∀h' c,Fr h₀ L h' m→News h₀ L h' ((a,listOf vs.toArray c)::news)→P (.done (.ret .none)) {s with heap:=h'}):wpAny (model prog w) A (Builtin.«list.sort» ⟨[.ref a],[]⟩) P E s:=by
 have ha:a<s.heap.objs.size:=Heap.lt_size ho;have s1:=Heap.SameBut.update s.heap a (Obj.mapSeq λZ=>(#[]:Array Value));obtain ⟨e1,ho1⟩: ∃e1,(s.heap.update a (Obj.mapSeq λZ=>(#[]:Array Value))).get? a=some (seqObj "list" #[] e1):=⟨_,get?_update_seq ho λZ=> #[]⟩;have F3:Fr h₀ L (((s.heap.update a (Obj.mapSeq λZ=>(#[]:Array Value))).push (seqObj "tuple" vs.toArray 0)).push (seqObj "list" #[] 0)) m:=((kas_fr F s1 haL ha0).push _).push _;have N2:News h₀ L (((s.heap.update a (Obj.mapSeq λZ=>(#[]:Array Value))).push (seqObj "tuple" vs.toArray 0)).push (seqObj "list" #[] 0)) news:=
  (kas_news N s1 hna).grown λb x e=>Heap.get?_push_of_some _ (Heap.get?_push_of_some _ e)
 have ho3:(((s.heap.update a (Obj.mapSeq λZ=>(#[]:Array Value))).push (seqObj "tuple" vs.toArray 0)).push (seqObj "list" #[] 0)).get? a=some (seqObj "list" #[] e1):=Heap.get?_push_of_some _ (Heap.get?_push_of_some _ ho1);refine aa (list_sort_plain ..) ?_;refine wpAny_bind (listItems_at ho rfl ?_);refine wpAny_bind (listUpdate_at ho rfl ?_ (by exact aa List.size_toArray (aa sizeLine_eq (lB h2))) (Nat.zero_le _));refine wpAny_bind (seqEpoch_at ho1 rfl ?_);refine wpAny_bind (wpAny_newTuple ?_ (by show vs.length≤_;exact aa sizeLine_eq (lB h2)));refine wpAny_bind (wpAny_newList ?_ (Nat.zero_le _));refine wpAny_holding ?_;show wpAny (model prog w) A _ P E {s with heap:=((s.heap.update a (Obj.mapSeq λZ=>(#[]:Array Value))).push (seqObj "tuple" vs.toArray 0)).push (seqObj "list" #[] 0)};generalize hH:((s.heap.update a (Obj.mapSeq λZ=>(#[]:Array Value))).push (seqObj "tuple" vs.toArray 0)).push (seqObj "list" #[] 0)=H at F3 N2 ho3⊢;dsimp only;have hn2:vs.toArray.size<2:=by refine aa List.size_toArray ?_;assumption
 refine aa (WE hn2) (aa (WE hn2) ?_);refine wpAny_bind (wpAny_pure ?_);refine wpAny_bind (wpAny_pure ?_);have hout:(arrOf (SortSt.mk' general' (vs.toArray.zip vs.toArray) #[] 7 none)).map (·.2)=vs.toArray:=by
  show (vs.toArray.zip vs.toArray).map (·.2)=_
  apply Array.toList_inj.mp
  simp [List.map_snd_zip]
 dsimp only;refine aa hout ?_;have s2:=Heap.SameBut.update H a (Obj.mapSeq λZ=>vs.toArray);obtain ⟨c2,hc2⟩: ∃c2,(H.update a (Obj.mapSeq λZ=>vs.toArray)).get? a=some (seqObj "list" vs.toArray c2):=⟨_,get?_update_seq ho3 λZ=>vs.toArray⟩;refine wpAny_bind (seqEpoch_at ho3 rfl ?_);refine wpAny_bind (listUpdate_at ho3 rfl ?_ (Nat.zero_le _) (by exact aa List.size_toArray (aa sizeLine_eq (lB h2))))
 simp only [bne_self_eq_false,Bool.false_eq_true,if_false]
 refine wpAny_pure (h _ c2 (kas_fr F3 s2 haL ha0) λp hp=> ?_);rcases Wv hp with rfl|hp
 ·exact ⟨hc2,haL,ha0⟩
 ·exact kas_news N2 s2 hna p hp
theorem n6 {l:Addr}{Q:Value→Shared→Prop}(F:Fr h₀ L s.heap m)(N:News h₀ L s.heap news)(hl:s.heap.IsList l vs.toArray)(h2:vs.length<2)
  (h: ∀D c h',Fr h₀ L h' m→News h₀ L h' ((D,listOf vs.toArray c)::news)→(∀q∈news,q.1<D)→Q (.ref D) {s with heap:=h'}):
  wpAny (model prog w) A (call (.builtin "sorted") [.ref l]) Q E s:=by
 refine Calls.call_function_entry kind_sorted plain_sorted entry_sorted (args_sorted1 _) ?_;unfold Builtin.«sorted»;refine wpAny_bind (m:=checkCount "sorted" 1 1 _) (wpAny_pure ?_);refine wpAny_bind (collect_list hl ?_ (by exact aa sizeLine_eq (lB h2)));refine wpAny_bind (wpAny_newList ?_ (by exact aa sizeLine_eq (lB h2)));have hsz:((s.heap.push (seqObj "list" #[] 0)).update s.heap.objs.size (Obj.mapSeq (·++vs.toArray))).objs.size=s.heap.objs.size+1:=by
  exact aa (Heap.size_update ..) (aa (size_push' ..) rfl)
 have hoL:(((s.heap.push (seqObj "list" #[] 0)).update s.heap.objs.size (Obj.mapSeq (·++vs.toArray))).push (seqObj "list" vs.toArray 0)).get? (s.heap.objs.size+1)=some (seqObj "list" vs.toArray 0):=by
  refine fF hsz ?_;exact Heap.get?_push_size _ rfl
 have keep: ∀b o,s.heap.get? b=some o→(((s.heap.push (seqObj "list" #[] 0)).update s.heap.objs.size (Obj.mapSeq (·++vs.toArray))).push (seqObj "list" vs.toArray 0)).get? b=some o:=λb o q=>by
  have hlt:b<s.heap.objs.size:=Heap.lt_size q;exact aa (Heap.get?_push_ne _ _ _ (by rw [hsz];exact Nat.ne_of_lt (Nat.lt_succ_of_lt hlt))) (aa (Heap.get?_update_ne _ _ _ _ (Nat.ne_of_lt hlt)) (aa (Heap.get?_push_ne _ _ _ (Nat.ne_of_lt hlt)) q))
 have hL:L<s.heap.objs.size:=F.ns.lt;show wpAny _ _ _ _ _ {s with heap:=((s.heap.push (seqObj "list" #[] 0)).update s.heap.objs.size (Obj.mapSeq (·++vs.toArray))).push (seqObj "list" vs.toArray 0)};refine aa hsz ?_;refine wpAny_bind (wpAny_holding (wpAny_call_entry slot_list_sort ⟨_,hoL,rfl⟩ entry_list_sort ?body (args_list_sort _)))
 case body=>
  refine rG (s:={s with heap:=((s.heap.push (seqObj "list" #[] 0)).update s.heap.objs.size (Obj.mapSeq (·++vs.toArray))).push (seqObj "list" vs.toArray 0)})
   (F.kept keep) (N.grown keep) hoL (Nat.ne_of_gt (Nat.lt_succ_of_lt hL)) (Heap.get?_none_of_le (Nat.le_trans F.above (Nat.le_succ_of_le (Nat.le_of_lt hL))))
   (λp hp=>Nat.ne_of_lt (Nat.lt_succ_of_lt (Heap.lt_size (N p hp).1))) h2 λh' c F' N'=> ?_
  exact ⟨_,rfl,wpAny_pure ⟨_,rfl,h _ c h' F' N' λq hq=>Nat.lt_succ_of_lt (Heap.lt_size (N q hq).1)⟩⟩
end
noncomputable def AA (v:V):Bool:=(fK v).isSome
noncomputable def rH (l:List V):List Str:=l.filterMap λv=>(fK v).map nm
noncomputable def LS:List Str→List Str→Option Bool
 |[],_=>none
 |a::r,q=>(match q with
  |b::q=>if a=b then LS r q else some (decide (a.cps.toList<b.cps.toList))
  |[]=>none)
noncomputable def oq (l q:List Str):Bool:=(LS l q).getD (decide (l.length<q.length))
noncomputable def Ex:V→Option (List V)
 | .au l=>some l
 |_=>none
noncomputable def u7 (v:V):Option (Int×Int×List V):=(Ex v).bind λl=>(l[0]?.bind bT).bind λa=>(l[1]?.bind bT).bind λb=>(l[2]?.bind Ex).bind λw=>jx (l.length=3) (a,b,w)
noncomputable def jf (v:V):Bool:=(u7 v).any λp=>p.2.2.all AA
noncomputable def pT (x y:V):Bool:=match u7 x with
 |some p=>(match u7 y with
  |some q=>if p.1=q.1 then (if p.2.1=q.2.1 then oq (rH p.2.2) (rH q.2.2) else decide (p.2.1<q.2.1)) else decide (p.1<q.1)
  |none=>false)
 |none=>false
theorem AB {v:V}(h:AA v=true): ∃n,v= .str n:=by
 cases v with
 |str n=>exact ⟨n,rfl⟩
 |_=>exact bK h
theorem lO {v:V}{l:List V}(h:Ex v=some l):v= .au l:=by
 cases v with
 |au l=>obtain rfl:=cH h;rfl
 |_=>exact ig h
theorem yf {v:V}{a b:Int}{w:List V}(h:u7 v=some (a,b,w)):v= .au [.int a,.int b,.au w]:=
 aR h λl hl h=>aR h λa' ha h=>aR h λb' hb h=>aR h λw' hw h=>by
  obtain ⟨h3,e⟩:=aM h;cases e;refine aa (lO hl) ?_;clear h hl;obtain ⟨f,e⟩:=kx .none h3;subst e;exact aa (show ((List.range 3).map f)=[f 0,f 1,f 2] from rfl) (aa (dv (v:=f 0) ha) (aa (dv (v:=f 1) hb) (aa (lO (v:=f 2) hw) rfl)))
theorem gE {v:V}(h:jf v=true): ∃a b w,u7 v=some (a,b,w)∧v= .au [.int a,.int b,.au w]∧w.all AA=true:=by
 unfold jf at h;cases hk:u7 v with
 |none=>rw [hk] at h;exact bK h
 |some p=>rw [hk] at h;exact ⟨_,_,_,rfl,yf hk,h⟩
section
variable {M:Model}{prog:Program}{w:World}{A:Around}{s:Shared}{D:Wd}{fz:aJ}{αs:List Addr}{a b:Addr}{xs ys:List Value}{na nb:Nat}{l q:List Str}
theorem pf {l:List V}{xs:List Value}(h:aH D fz αs l xs):l.all AA=true→ItemsAre (PySem.strKind prog w) (rH l) xs:=by
 induction h with
 |nil=>exact λZ=> .nil
 | @cons v u l xs h1 _ ih=>
  intro h;obtain ⟨h2,h3⟩:=Ws (show (AA v&&l.all AA)=true from h);obtain ⟨n,e⟩:=AB h2;subst e;cases h1;exact .cons (WA rfl) (ih h3)
theorem vF (l:List Str):oq l l=false:=by
 unfold oq;have e:LS l l=none:=by
  induction l with
  |nil=>rfl
  |cons a r ih=>exact (WE rfl).trans ih
 exact aa e (Wz (Nat.lt_irrefl _))
theorem AQ {β:Type}{f:Value×Value→β→Sem (ForInStep β)}{b0:β}{bd:Bool→β}{Q:β→Shared→Prop}(he: ∀u v n,(PySem.strKind prog w).is n u=true→(PySem.strKind prog w).is n v=true→ ∀{Q},Q (.yield b0) s→wpAny M A (f (u,v) b0) Q E s)
  (hn: ∀u v n m,n≠m→(PySem.strKind prog w).is n u=true→(PySem.strKind prog w).is m v=true→ ∀{Q},Q (.done (bd (decide (n.cps.toList<m.cps.toList)))) s→wpAny M A (f (u,v) b0) Q E s) (hx:ItemsAre (PySem.strKind prog w) l xs):
  ∀{q:List Str} {ys:List Value},ItemsAre (PySem.strKind prog w) q ys→(LS l q=none→Q b0 s)→(∀b,LS l q=some b→Q (bd b) s)→wpAny M A (forIn (List.zip xs ys) b0 f) Q E s:=by
 induction hx with
 |nil=>exact λZ h Z=>by exact aa List.zip_nil_left (aa List.forIn_nil (wpAny_pure (h rfl)))
 | @cons n u l xs h1 _ ih=>
  intro q ys hy h2 h3
  induction hy with
  |nil=>exact aa List.zip_nil_right (aa List.forIn_nil (wpAny_pure (h2 rfl)))
  | @cons m v q ys h4 hy=>
   refine aa List.zip_cons_cons (aa (List.forIn_cons ..) ?_);by_cases e:n=m
   ·subst e;exact wpAny_bind (he u v n h1 h4 (ih hy (λz=>h2 ((WE rfl).trans z)) λb z=>h3 b ((WE rfl).trans z)))
   ·exact wpAny_bind (hn u v n m e h1 h4 (wpAny_pure (h3 _ (WG e))))
theorem nr {n:Str}{u:Value}(h:(PySem.strKind prog w).is n u=true): ∃t,u= .str n t:=by
 cases u with
 |str m t=>exact ⟨t,by exact aa (Wy (show decide (m=n)=true from h)) rfl⟩
 |_=>exact bK h
theorem Hi {P:PySem.Fin→Shared→Prop}(hoa:s.heap.get? a=some (fQ xs na))(hob:s.heap.get? b=some (fQ ys nb))(hx:ItemsAre (PySem.strKind prog w) l xs)(hy:ItemsAre (PySem.strKind prog w) q ys)
  (h:P (.done (.ret (.bool (oq l q)))) s):wpAny (model prog w) A (Builtin.«tuple.__lt__» ⟨[.ref a,.ref b],[]⟩) P E s:=by
 have hTb:s.TypeIs (.ref b) "tuple" :=⟨_,hob,rfl⟩;show wpAny _ _ (isInstance (.ref b) (.type "tuple")>>=_) _ _ s;refine wpAny_bind (wpAny_isInstance hTb isSubtype_tuple_tuple ?_);show wpAny _ _ (Builtin.Tuple.tupleItemsOf (.ref a)>>=_) _ _ s;refine wpAny_bind (wpAny_tupleItemsOf hoa rfl (wpAny_bind (wpAny_tupleItemsOf hob rfl (wpAny_bind (AQ (bd:=λb=>⟨some (.done (.ret (.bool b))),PUnit.unit⟩) (λu v n h1 h2 Q hQ=> ?_) (λu v n m e h1 h2 Q hQ=> ?_) hx hy (λe=> ?_) λb e=> ?_)))))
 ·obtain ⟨t,e⟩:=nr h1;subst e;obtain ⟨t',e⟩:=nr h2;subst e;refine wpAny_bind (wpAny_eqBool_str ?_);exact aa (WA rfl) (wpAny_pure hQ)
 ·obtain ⟨t,e1⟩:=nr h1;subst e1;obtain ⟨t',e1⟩:=nr h2;subst e1;refine wpAny_bind (wpAny_eqBool_str ?_);exact aa (Wz e) (wpAny_bind (wpAny_rule (wpAny_bind (PySem.P.lt_str (wpAny_bind (wpAny_pure (wpAny_pure hQ)))))))
 ·refine wpAny_pure ?_;have e2:oq l q=decide (xs.toArray.size<ys.toArray.size):=by
   unfold oq;exact aa e (aa List.size_toArray (aa List.size_toArray (aa hx.length (aa hy.length rfl))))
  rw [e2] at h;exact h
 ·unfold oq at h;rw [e] at h;exact wpAny_pure h
theorem xB {Q:Value→Shared→Prop}(hu:A.units<cLine)(hoa:s.heap.get? a=some (fQ xs na))(hob:s.heap.get? b=some (fQ ys nb))(hx:ItemsAre (PySem.strKind prog w) l xs)(hy:ItemsAre (PySem.strKind prog w) q ys)
  (h:Q (.bool (oq l q)) s):wpAny (model prog w) A (compareOp .Lt (.ref a) (.ref b)) Q E s:=
 show wpAny (model prog w) A (richCompare .Lt (.ref a) (.ref b)) Q E s from
 wpAny_richCompare_same_room (op:= .Lt) ⟨_,hoa,rfl⟩ ⟨_,hob,rfl⟩ PySem.F.slot_tuple_lt
  (wpAny_call_entry PySem.F.slot_tuple_lt ⟨_,hoa,rfl⟩ PySem.F.entry_tuple_lt (Hi hoa hob hx hy ⟨_,rfl,(λe=>nomatch e),h⟩) (PySem.F.args_tuple_lt_2 _ _)) hu
inductive H9 (D:Wd)(fz:aJ)(αs:List Addr)(a b:Int)(w:List V):Value→Prop
 |mk {x n y m ta tb us} (h:At D fz x (fQ [.int a ta,.int b tb,.ref y] n)) (h2:At D fz y (fQ us m)) (r:aH D fz αs w us):H9 D fz αs a b w (.ref x)
theorem nV {a b:Int}{w:List V}{u:Value}(r:aU D fz αs (.au [.int a,.int b,.au w]) u):H9 D fz αs a b w u:=
 r.eV λZ xs na hu hA rA=>by
  subst hu;obtain _|⟨r1,_|⟨r2,_|⟨r3,rA⟩⟩⟩:=rA
  cases rA;cases r1;cases r2;exact r3.eV λZ Z Z hu h s=>by subst hu;exact .mk hA h s
theorem Bp {C:Cx}{ρ:ao}{σ:St}{γ:GS}(K:aW C)(hu:A.units<cLine)(F:FS C ρ σ γ s){x y:V}{u v:Value}(hx:jf x=true)(hy:jf y=true)(rx:aU C.D γ.fz γ.αs x u)(ry:aU C.D γ.fz γ.αs y v){Q:Bool→Shared→Prop}(h:Q (pT x y) s):
  wpAny (aC C) A (keyLt' (tuples' true) u v) Q E s:=by
 obtain ⟨a,b,ws,k1,e1,hx⟩:=gE hx;obtain ⟨c,d,vs,k2,e2,hy⟩:=gE hy;unfold pT at h;rw [k1,k2] at h;obtain ⟨hA,h3,s3⟩:=nV (e1▸rx);obtain ⟨hB,h4,s4⟩:=nV (e2▸ry);have i3:=pf (prog:=pw) (w:=C.D.w) s3 hx;have i4:=pf (prog:=pw) (w:=C.D.w) s4 hy;refine kat_lt (F.at K hA) rfl (F.at K hB) rfl (kat_cons (wpAny_eqBool_int ?_));have h:Q (if a=c then (if b=d then oq (rH ws) (rH vs) else decide (b<d)) else decide (a<c)) s:=h;by_cases e1:a=c
 ·rw [WE e1] at h;refine aa (beq_iff_eq.mpr e1) ?_;refine kat_yes (kat_cons (wpAny_eqBool_int ?_));by_cases e2:b=d
  ·rw [WE e2] at h;refine aa (beq_iff_eq.mpr e2) ?_;refine kat_yes (kat_cons (wpAny_eqBool_tuple (knd:=PySem.strKind pw C.D.w) hu ⟨_,_,_,F.at K h3,rfl,rfl,i3⟩ ⟨_,_,_,F.at K h4,rfl,rfl,i4⟩ ?_));by_cases e3:rH ws=rH vs
   ·refine aa (WA e3) ?_;rw [e3,vF] at h;exact kat_yes (kat_nil h)
   ·exact aa (Wz e3) (kat_no (kat_one _ _ (xB hu (F.at K h3) (F.at K h4) i3 i4 h)))
  ·rw [WG e2] at h;exact aa (beq_eq_false_iff_ne.mpr e2) (kat_no (kat_one _ _ (wpAny_lt_int h)))
 ·rw [WG e1] at h;exact aa (beq_eq_false_iff_ne.mpr e1) (kat_no (oneLt_int h))
end
noncomputable def Jw {α:Type}(cmp:Nat→Nat→Bool):KasT α→α
 | .ret a=>a
 | .ask i j k=>Jw cmp (k (cmp i j))
noncomputable def dM {α:Type}(n:Nat)(P:α→Prop):KasT α→Prop
 | .ret a=>P a
 | .ask i j k=>i<n∧j<n∧ ∀b,dM n P (k b)
theorem dM.bind {α β:Type}{n:Nat}{P:α→Prop}{R:β→Prop}{f:α→KasT β}: ∀{t:KasT α},dM n P t→(∀a,P a→dM n R (f a))→dM n R (t.bind f)
 | .ret a,h,k=>k a h
 | .ask i j g,h,k=>⟨h.1,h.2.1,λb=>dM.bind (h.2.2 b) k⟩
theorem dM.go {α:Type}{n:Nat}{P:α→Prop}{cmp:Nat→Nat→Bool}: ∀{t:KasT α},dM n P t→P (Jw cmp t)
 | .ret a,h=>h
 | .ask i j g,h=>(dM.go (t:=g (cmp i j)) (h.2.2 _):P (Jw cmp (g (cmp i j))))
theorem pg {α:Type}{n:Nat}{P:α→Prop}{cmp:Nat→Nat→Bool}{ask:Nat→Nat→(Bool→Shared→Prop)→Shared→Prop}{s:Shared}(hask: ∀i j C,i<n→j<n→C (cmp i j) s→ask i j C s){Q:α→Shared→Prop}: ∀{t:KasT α},dM n P t→Q (Jw cmp t) s→t.kasWp ask Q s
 | .ret a,_,h=>h
 | .ask i j g,hA,h=>hask i j _ hA.1 hA.2.1 (pg hask (hA.2.2 _) h)
noncomputable def jR (n:Nat)(p:Array Nat):Prop:= ∀x∈p,x<n
theorem jR.getD {n i:Nat}{p:Array Nat}(h:jR n p)(h0:0<n):p.getD i 0<n:=by
 by_cases hi:i<p.size
 ·have e:p.getD i 0=p[i]:=by simp [Array.getD,hi]
  exact aa e (h _ (Array.getElem_mem hi))
 ·have e:p.getD i 0=0:=by simp [Array.getD,hi]
  exact aa e h0
theorem jR.KU {n i j:Nat}{p:Array Nat}(h:jR n p):jR n (kas_rev p i j):=λx hx=>h x ((mirror_perm p i j _).mem_iff.mp hx)
theorem jR.Q7 {n i j:Nat}{p:Array Nat}(h:jR n p):jR n (bubble p i j):=λx hx=>h x ((bubble_perm p i j).mem_iff.mp hx)
section
variable {n:Nat}(h0:0<n)
include h0
theorem mP {p:Array Nat}(h:jR n p): ∀(f k:Nat),dM n (λZ=>True) (kas_asc p f k)
 |0,_=>trivial
 |f+1,k=>⟨h.getD h0,h.getD h0,λb=>by cases b;exact mP h f (k+1);exact trivial⟩
theorem iy: ∀(f:Nat) {p:Array Nat} (k q:Nat),jR n p→dM n (λr:Array Nat×Nat×Nat=>jR n r.1) (kas_desc f p k q)
 |0,p,_,_,h=>h
 |f+1,p,k,q,h=>by
  refine ⟨h.getD h0,h.getD h0,λb=> ?_⟩;cases b with
  |true=>
   show dM n _ (if q>0 then _ else _)
   split
   ·exact iy f _ _ h.KU
   ·exact iy f _ _ h
  |false=>
   refine ⟨h.getD h0,h.getD h0,λd=> ?_⟩;cases d with
   |true=>exact h
   |false=>exact iy f _ _ h
theorem lN {p:Array Nat}(h:jR n p)(a b:Nat):dM n (λr:Nat×Array Nat=>jR n r.2) (kas_tail3 a b p):=dM.bind (mP h0 h.KU _ _) λZ Z=>h.KU
theorem iz {p:Array Nat}(h:jR n p)(a b:Nat):dM n (λr:Nat×Array Nat=>jR n r.2) (kas_descPart a b p):=by
 refine dM.bind (iy h0 _ _ _ h) λr hr=> ?_
 split
 ·exact lN h0 (jR.KU hr) _ _
 ·exact lN h0 hr _ _
theorem t6 {p:Array Nat}(h:jR n p)(m:Nat):dM n (λr:Nat×Array Nat=>jR n r.2) (kas_count m p):=by
 refine dM.bind (mP h0 h _ _) λk Z=> ?_
 split
 ·exact h
 ·split
  ·refine ⟨h.getD h0,h.getD h0,λb=> ?_⟩;cases b with
   |true=>exact h
   |false=>exact iz h0 h.KU _ _
  ·exact iz h0 h _ _
theorem iX {p:Array Nat}(h:jR n p)(k:Nat): ∀(f l r:Nat),dM n (λZ=>True) (kas_place p k f l r)
 |0,_,_=>trivial
 |f+1,l,r=>by
  unfold kas_place
  split
  ·trivial
  ·refine ⟨h.getD h0,h.getD h0,λb=> ?_⟩;cases b with
   |true=>exact iX h k f _ _
   |false=>exact iX h k f _ _
theorem rN: ∀(f:Nat) {p:Array Nat} (k:Nat),jR n p→dM n (λr:Array Nat=>jR n r) (kas_bin f p k)
 |0,p,_,h=>h
 |f+1,p,k,h=>dM.bind (iX h0 h k _ _ _) λl Z=>rN f _ h.Q7
theorem oI:dM n (λr:Array Nat=>jR n r) (kas_sort n):=by
 have h:jR n (List.toArray (List.range n)):=λx hx=>by simpa using hx
 refine dM.bind (t6 h0 h n) λr hr=> ?_
 split
 ·exact rN h0 _ _ hr
 ·exact hr
end
noncomputable def Hd (l:List V):Option (List V):=
 if l.length<64∧l.all jf=true then some (if l.length<2 then l else (Jw (λi j=>pT (l.getD i .none) (l.getD j .none)) (kas_sort l.length)).toList.map λi=>l.getD i .none) else none
theorem yQ {l:List V}(h:l.length<64)(hr:l.all jf=true): ∃q,Hd l=some q∧q.all jf=true:=by
 unfold Hd;refine aa (WE ⟨h,hr⟩) ?_;refine ⟨_,rfl,?_⟩
 split
 ·exact hr
 ·rename_i h2;refine aa List.all_map ?_;refine List.all_eq_true.mpr λi hi=> ?_;have:=dM.go (cmp:=λi j=>pT (l.getD i .none) (l.getD j .none)) (oI (n:=l.length) (by lia)) i (by simpa using hi);have e:l.getD i .none=l[i]:=by simp [List.getD,this]
  show jf (l.getD i .none)=true;exact aa e (Wu hr _ (List.getElem_mem this))
section
variable {rest:aJ}{s:Shared}{Φ:N→List V→St→qw}{a:Expr}{p p2:Pos}
theorem je {D:Wd}{fz:aJ}{αs:List Addr}{l:List V}{vs:List Value}(h:aH D fz αs l vs)(i:Nat):aU D fz αs (l.getD i .none) (vs.getD i .none):=by
 cases hl:l[i]? with
 |none=>
  have h1:l.length≤i:=List.getElem?_eq_none_iff.mp hl;have h2:vs[i]? =none:=List.getElem?_eq_none_iff.mpr (by exact fF h.len h1)
  simp only [List.getD,hl,h2,Option.getD_none]
  exact .none
 |some v=>
  obtain ⟨x,hx,hr⟩:=h.get hl
  simp only [List.getD,hl,hx,Option.getD_some]
  exact hr
theorem pS {D:Wd}{fz:aJ}{αs:List Addr}{l:List V}{vs:List Value}(h:aH D fz αs l vs): ∀is:List Nat,aH D fz αs (is.map λi=>l.getD i .none) (is.map λi=>vs.getD i .none)
 |[]=> .nil
 |i::r=> .cons (je h i) (pS h r)
theorem pU (K:aW C)(F:FS C ρ σ γ s){l:List V}{vs:List Value}(r:aH C.D γ.fz γ.αs l vs):l.all jf=true→ ∃fs,KatTups s.heap vs fs∧fs.length=vs.length∧ ∀v∈fs,∃i t,v= .int i t:=by
 induction r with
 |nil=>exact λZ=>⟨[],.nil,rfl,nofun⟩
 | @cons v u l vs h1 _ ih=>
  intro h;obtain ⟨hv,h⟩:=Ws (show (jf v&&l.all jf)=true from h);obtain ⟨fs,k1,k2,k3⟩:=ih h;obtain ⟨a,b,w,_,e,_⟩:=gE hv;cases nV (e▸h1) with
  |mk hA _ _=>exact ⟨_::fs,.cons (F.at K hA) rfl rfl rfl k1,WJ Nat.succ k2,λv hv=>(Wv hv).elim (λe=>⟨_,_,e⟩) (k3 v)⟩
theorem uT (K:aW C){l q:List V}{b:Addr}{vs:List Value}{e:Nat}{E:Value→Shared→Prop}{Q:Value→Shared→Prop}(F:FS C ρ σ γ s)(hg:s.heap.get? b=some (PySem.W.listOf (List.toArray vs) e))(hR:aH C.D γ.fz γ.αs l vs)(hq:Hd l=some q)
  (h: ∀D us c s',FS (C.aS ((D,PySem.W.listOf (List.toArray us) c)::C.rest)) ρ σ γ s'→aH C.D γ.fz γ.αs q us→Q (.ref D) s'):wpAny (aC C) C.A (call (.builtin "sorted") [.ref b]) Q E s:=by
 unfold Hd at hq
 split at hq
 ·rename_i hc;obtain rfl:=cH hq;have hlen:=hR.len;by_cases h2:l.length<2
  ·rw [WE h2] at h;refine n6 F.fr F.nw (bF hg) (lD (Nat.le_of_eq hlen.symm) h2) λD c h' F' N' hlt=> ?_;exact h D vs c {s with heap:=h'} (F.alloc (s':={s with heap:=h'}) F' N' λp hp=>Nat.ne_of_lt (hlt p hp)) hR
  ·rw [WG h2] at h;refine kat_sorted F.fr F.nw (bF hg) (by lia) (by lia) λD e1 h' F' N' hlt=> ?_;have F1:FS (C.aS ((D,PySem.W.listOf #[] e1)::C.rest)) ρ σ γ {s with heap:=h'}:=F.alloc (s':={s with heap:=h'}) F' N' λp hp=>Nat.ne_of_lt (hlt p hp);obtain ⟨fs,k1,k2,k3⟩:=pU (C:=C.aS ((D,PySem.W.listOf #[] e1)::C.rest)) K.aS F1 hR hc.2;refine kat_kind (T:= .type "int") k1 (by lia) (λv hv=> ?_) rfl ?_
   ·obtain ⟨i,t,rfl⟩:=k3 v hv;exact Looks.of_pure rfl
   ·have hu:C.A.in1.in1.units<cLine:=by have:=K.units;show C.A.units+1+1<_;exact lB this
    have hrow: ∀i,i<l.length→jf (l.getD i .none)=true:=λi hi=>by
     have e:l.getD i .none=l[i]:=by simp [List.getD,hi]
     exact aa e (Wu hc.2 _ (List.getElem_mem hi))
    refine fF hlen ?_;refine pg (n:=l.length) (cmp:=λi j=>pT (l.getD i .none) (l.getD j .none)) (λi j Cc hi hj hC=>Bp (C:=C.aS ((D,PySem.W.listOf #[] e1)::C.rest)) K.aS hu F1 (hrow i hi) (hrow j hj) (je hR i) (je hR j) hC) (oI (by lia)) ?_;refine KasFin.intro F' N' (.head λp hp=>Nat.ne_of_lt (hlt p hp)) λh2 c F2 N2=> ?_;exact h D _ c {s with heap:=h2} (F.alloc (s':={s with heap:=h2}) F2 N2 λp hp=>Nat.ne_of_lt (hlt p hp)) (pS hR _)
 ·exact ig hq
theorem yN {f:N}{ρ':ao}{σ':St}{r:R}{l q:List V}(h:ET f a ρ σ r ρ' σ')(hl:cw r ρ' σ'=some l)(hq:Hd l=some q)(hs:dw a=false)(hk:(pG f).lookup (Str.ofString "sorted")=some .globalImplicit):ET f (.Call (.Name (Str.ofString "sorted") p) [a] [] p2) ρ σ (.v (.list q)) ρ' σ':=λC γ s H F=>by
 have st:=bp (r:=[]) (env:=C.env) (e:=a) (WJ not hs);refine Call_Name rfl (gw H.K F H.H.GO.Sg PyProof.Rows.Boot.«sorted» (by decide) ((H.ks _).trans hk) (by decide) (PyProof.Rows.callWith_builtin1 (wpAny_items_cons (wpAny_mono (h C γ s H F) (λu s1 z=> ?_) λZ Z z=>z) st) st (cJ (l:=[]) rfl)));obtain ⟨n,F1,r1⟩:=z;obtain ⟨hu,hg,hR⟩:=F1.cw r1 hl;subst hu;exact wpAny_items_nil (uT H.K F1 hg hR hq λD us c s2 F2 r2=> .mk (n.trans .oY) (FS.hY F2) (aU.eP (.head _) (aH.aw cg r2)))
end
theorem Ay {D:Wd}{fz:aJ}{αs:List Addr}{l:List V}{vs:List Value}(h:aH D fz αs l vs): ∀{i:Int},mD l=some i→ ∃ns,IntsAre vs ns∧ns.sum=i:=by
 induction h with
 |nil=>exact λe=>by obtain rfl:=cH e;exact ⟨[],.nil,rfl⟩
 | @cons v u l vs h _ ih=>
  intro i e;unfold mD at e;revert e;refine ax (x:=bT v) (λq=> ?_) λn q=> ?_
  ·exact aa q no
  ·refine aa q ?_;refine λe=>cG e λj hj e=>(show aU D fz αs (.int n) u from dv q▸h).eV λt hu=> ?_;obtain ⟨ns,h1,h2⟩:=ih hj;subst hu;exact ⟨n::ns,.cons n t h1,by exact aa List.sum_cons (aa h2 e)⟩
section
variable {a:Expr}{p p2:Pos}
theorem Hc {f:N}{ρ':ao}{σ':St}{r:R}{l:List V}{i:Int}(h:ET f a ρ σ r ρ' σ')(hl:cw r ρ' σ'=some l)(hq:mD l=some i)(hs:dw a=false)(hf:f≠Tg)(hk:(pG f).lookup (Str.ofString "sum")=some .globalImplicit):ET f (.Call (.Name (Str.ofString "sum") p) [a] [] p2) ρ σ (.v (.int i)) ρ' σ':=λC γ s H F=>by
 have st:=bp (r:=[]) (env:=C.env) (e:=a) (WJ not hs);refine Call_Name rfl (gw H.K F H.H.GO.sum PyProof.Rows.Boot.«sum» (by decide) ((H.ks _).trans hk) (by decide) (PyProof.Rows.callWith_builtin1 (wpAny_items_cons (wpAny_mono (h C γ s H F) (λu s1 z=> ?_) λZ Z z=>z) st) st (cJ (l:=[]) rfl)));obtain ⟨n,F1,r1⟩:=z;obtain ⟨hu,hg,hR⟩:=F1.cw r1 hl;subst hu;obtain ⟨ns,hi,e⟩:=Ay hR hq;subst e;exact wpAny_items_nil (sumK (H.lp (WA hf)) F1.fr F1.nw (bF hg) hi λh' tk t' F' N'=> .mk n (F1.keep (s':={s1 with heap:=h',toks:=tk}) F' N') (aU.int _ _))
end
noncomputable def d9 (sx:Sx)(c:Expr)(b:List Stmt)(ρ:ao)(σ:St)(o:SO):Prop:= ∃n,t5 (lv 40) sx c b o n ρ σ
noncomputable def eN (sx:Sx)(get:ao→St→Option (List V))(x:N)(b:List Stmt)(n i:Nat)(ρ:ao)(σ:St)(o:SO):Prop:=tX (lv 40) sx get x b o n i ρ σ
noncomputable def eD:Stmt→Expr
 | .While c _ _ _=>c
 | .For _ c _ _ _=>c
 |_=> .List [] default
noncomputable def dK:Stmt→List Stmt
 | .While _ b _ _=>b
 | .For _ _ b _ _=>b
 |_=>[]
noncomputable def Po:Stmt→Expr
 | .For x _ _ _ _=>x
 |_=> .List [] default
noncomputable def oo (st:Stmt):Str:=(gi (Po st)).getD default
noncomputable def JJ:Stmt→Bool
 | .While _ _ e _=>e.isEmpty
 |_=>false
noncomputable def Du:Stmt→Bool
 | .For x _ _ e _=>e.isEmpty&&(gi x).isSome
 |_=>false
noncomputable def eS (f:N)(i:Nat):Stmt:=fC (dQ f) i
noncomputable def HQ (st:Stmt)(i:Nat):Stmt:=fC (dK st) i
section
variable {o o1:SO}{fs fs1:List aD}{ρ2:ao}{σ2:St}{sx:Sx}{c:Expr}{b:List Stmt}{n i:Nat}{get:ao→St→Option (List V)}{x f:N}{l:List V}{v:V}{ks:Ks}{st:Stmt}{X:List aD→TS}{p:ao→St→Prop}
theorem qJ.of (h:ie (X fs)=ip o1 (X fs))(ho:Dn p o1∨xT o o1):qJ p o X:=by
 unfold qJ;revert h;cases hx:X fs with
 |bC=>exact λh=>no h
 |bM o' fs' ks=>
  intro h;have h:=cH h;have h1:o'=o1:=WJ (·.1) h;have h3:ks.map (·.1)=ks.map (·.2):=WJ (·.2) h;subst h1;exact ⟨fs,_,_,_,hx,.of h3,ho⟩
theorem Dn.nx {ex:ao}(h:p ρ2 σ2)(hv:ex.all gS=true):HI p (ρ2++ex) σ2:=⟨ρ2,⟨ex,rfl,hv⟩,h⟩
theorem d9.b9 (h:d9 sx c b ρ2 σ2 o)(ex:ao)(e:ie (lK (lv 40) sx c b ρ σ fs)=ip (.next (ρ2++ex) σ2) (lK (lv 40) sx c b ρ σ fs):=by kernel_rfl)(hv:ex.all gS=true:=by rfl):d9 sx c b ρ σ o:=
 h.elim λn h=>⟨n+1,.of e (.inl (Dn.nx h hv))⟩
theorem d9.ew (h:d9 sx c b ρ2 σ2 o)(ex:ao)(e:ie (lK (lv 40) sx c b ρ σ fs)=ip (.ew (ρ2++ex) σ2) (lK (lv 40) sx c b ρ σ fs):=by kernel_rfl)(hv:ex.all gS=true:=by rfl):d9 sx c b ρ σ o:=
 h.elim λn h=>⟨n+1,.of e (.inl (Dn.nx h hv))⟩
theorem d9.brk (ex:ao)(e:ie (lK (lv 40) sx c b ρ σ fs)=ip (.brk (ρ2++ex) σ2) (lK (lv 40) sx c b ρ σ fs):=by kernel_rfl)(hv:ex.all gS=true:=by rfl):d9 sx c b ρ σ (.next ρ2 σ2):=⟨1,.of e (.inr ⟨ρ2,⟨ex,rfl,hv⟩,rfl⟩)⟩
theorem d9.last (e:ie (lK (lv 40) sx c b ρ σ fs)=ip o1 (lK (lv 40) sx c b ρ σ fs):=by kernel_rfl)(ho:xT o o1:=by exact rfl):d9 sx c b ρ σ o:=⟨1,.of e (.inr ho)⟩
theorem d9.iw (h:d9 sx (eD st) (dK st) ρ σ o)(hx:sx=bj f ρ σ:=by kernel_rfl)(hs:JJ st=true:=by kernel_rfl):eO f st ρ σ o:=λC γ s H F=>by
 subst hx;cases st with
 |While c b e p=>obtain rfl:=Ww hs;exact h.elim λn h=>qa (gT 40) H F rfl h
 |_=>exact bK hs
theorem eN.b9 (h:eN sx get x b n (i+1) ρ2 σ2 o)(hg:get ρ σ=some l)(hv:l[i]? =some v)(ex:ao)(e:ie ((lv 40).bl sx b (b8 ρ x (.val v)) σ fs)=ip (.next (ρ2++ex) σ2) ((lv 40).bl sx b (b8 ρ x (.val v)) σ fs):=by kernel_rfl)(he:ex.all gS=true:=by rfl):eN sx get x b (n+1) i ρ σ o:=
 ⟨l,v,hg,hv,.of e (.inl (Dn.nx h he))⟩
theorem eN.ew (h:eN sx get x b n (i+1) ρ2 σ2 o)(hg:get ρ σ=some l)(hv:l[i]? =some v)(ex:ao)(e:ie ((lv 40).bl sx b (b8 ρ x (.val v)) σ fs)=ip (.ew (ρ2++ex) σ2) ((lv 40).bl sx b (b8 ρ x (.val v)) σ fs):=by kernel_rfl)(he:ex.all gS=true:=by rfl):eN sx get x b (n+1) i ρ σ o:=
 ⟨l,v,hg,hv,.of e (.inl (Dn.nx h he))⟩
theorem eN.last (hg:get ρ σ=some l)(hv:l[i]? =some v)(e:ie ((lv 40).bl sx b (b8 ρ x (.val v)) σ fs)=ip o1 ((lv 40).bl sx b (b8 ρ x (.val v)) σ fs):=by kernel_rfl)(ho:xT o o1:=by exact rfl):eN sx get x b (n+1) i ρ σ o:=⟨l,v,hg,hv,.of e (.inr ho)⟩
theorem eN.done (hg:get ρ σ=some l)(hi:l.length=i):eN sx get x b 0 i ρ σ (.next ρ σ):=⟨l,hg,hi,rfl⟩
theorem eN.iw {k0:Ks}{fs0:List aD}(h:eN sx get x (dK st) n 0 ρ σ o)(e: ∀T,i5 (lv 40) sx T (oo st) (eD st) ρ σ fs0=(T get x n ρ σ fs1).pre k0)(K0:bN k0:=by exact trivial)(hx:sx=bj f ρ σ:=by kernel_rfl)(hs:Du st=true:=by kernel_rfl):eO f st ρ σ o:=λC γ s H F=>by
 subst hx;cases st with
 |For y it b e2 p=>
  refine ay hs λh1 h2=> ?_;obtain rfl:=Ww h1;cases hy:gi y with
  |none=>rw [hy] at h2;exact bK h2
  |some s=>
   refine cb hy λpx e3=> ?_;subst e3;have z:=kL (L:=lv 40) (b:=b) (iter:=it) (y:=s) (px:=px) (p:=p) (fs:=fs0) (gT 40) H F rfl (T:=λget x n=>kR (tX (lv 40) (bj f ρ σ) get x b o n 0) o) (λh Z=>by obtain ⟨h,e⟩:=nu h;subst e;exact h);have e1:=(e λget x n=>kR (tX (lv 40) (bj f ρ σ) get x b o n 0) o).trans (WJ (TS.pre k0) (sG h));have e1:i5 (lv 40) (bj f ρ σ) _ s it ρ σ fs0=_:=e1;rw [e1] at z;exact z (K0.append trivial)
 |_=>exact bK hs
end
end Mine
end
noncomputable section
namespace Mine
open PySem
variable {g' g1 g3 g4:G}{m r on cn hw:Nat}{t:N}{K:PK}{d:Int}{ti al late con ar:Bool}{F:List (Nat×N)}{σ:St}{O:List V}{Dl:List DI}
noncomputable def gp (k:Nat)(u:N)(a e:V)(l:Bool):V:= .aO TK [.int (k:Int),.str u,.int 0,a,e,.bool l]
noncomputable def pv (i:Nat):V:= .int ((3*i+1:Nat):Int)
noncomputable def jt (k:Nat)(u:N)(i:Nat)(l:Bool):V:=gp k u (pv i) (.int ((3*i+2:Nat):Int)) l
noncomputable def wH (i:Nat):V:=gp 0 0 (pv i) (pv i) false
noncomputable def nd (k:Nat)(a:N)(kids:List V)(fl:Nat)(i:Nat):V:= .aO Ve [.int (k:Int),.str a,.list kids,.int (fl:Int),pv i,.int 0]
structure GC where
 nums:List Int
 jM:Int
 func:Int
 cL:Int
 bL:Int
structure GB where
 cq:Int
 switch:Int
 bD:Int
 ak:List V
structure G where
 c:GC
 b:GB
 next:Nat
 toks:List V
 told:List V
 pend:Bool
 loose:Bool
 dead:Bool
 eF:Int
noncomputable def aF (g:G):St:=[.iT g.toks,.gg g.told,.gg g.b.ak,
 .fN [(.str 1936553326,.list (g.c.nums.map .int)),(.str 1954047342,.int (g.next:Int)),(.str 7891309,.int g.c.jM),(.str 1936420724,.obj 0),(.str 1684828020,.obj 1),(.str VR,.obj 2),(.str 1684956528,.bool g.pend),(.str 435728379756,.bool g.loose),(.str 1684104548,.bool g.dead),(.str 1886351212,.int g.b.cq),(.str TJ,.int g.b.switch),(.str 1953719662,.int g.b.bD),(.str 474416112994,.int g.eF),(.str 1668183398,.int g.c.func),(.str 435710945399,.int g.c.cL),(.str 1886352499,.int g.c.bL)]]
noncomputable abbrev sV:V:= .obj 3
abbrev ln (g:G):Nat:=g.toks.length
noncomputable def u5 (g:G):Nat:=max g.c.nums.length 8 - g.next
noncomputable def rM (g:G):Nat:=ln g+3050*u5 g+2000*g.told.length+(if g.dead=true then 0 else 2000)
noncomputable def oH (x:V):Prop:= ∃n a ws,x= .au [.int n,.int a,.au ws]∧ws.all AA=true
noncomputable def ix (x:V):Prop:= ∃n b,x= .au [.str n,.bool b]∧(n=120∨n=121∨n=S0)
noncomputable def Iv (g:G):Prop:=(g.dead=true→g.c.cL≤g.eF)∧ ∀x∈g.told,oH x
structure aV (a b:Nat)(g g':G):Prop where
 c:g'.c=g.c
 bb:g'.b=g.b
 tk: ∃ts,g'.toks=g.toks++ts
 u:rM g'+a≤rM g+b
 dd:g.dead=true→g'.dead=true∧g'.toks=g.toks∧g'.told=g.told
 iv:Iv g→Iv g'
structure aj (n:Nat)(g:G):Prop where
 nums:g.c.nums.length<1000
 u:rM g+10000*n≤10000000
 bz:g.b.ak.length+2*n≤1000
 iv:Iv g
 bL:0≤g.c.bL∧g.c.bL<36
 cq:0≤g.b.cq
 switch:0≤g.b.switch
 bD:0≤g.b.bD
 iM: ∀x∈g.b.ak,ix x
section
variable {a b c d n:Nat}{g g2:G}
theorem aV.refl:aV 0 0 g g:=⟨rfl,rfl,⟨[],(Wr _).symm⟩,Nat.le_refl _,λh=>⟨h,rfl,rfl⟩,λh=>h⟩
theorem aV.trans (x:aV a b g g')(y:aV c d g' g2):aV (a+c) (b+d) g g2:=by
 obtain ⟨x1,x2,⟨p,hp⟩,x4,x5,x6⟩:=x;obtain ⟨y1,y2,⟨q,hq⟩,y4,y5,y6⟩:=y;exact ⟨y1.trans x1,y2.trans x2,⟨p++q,by exact aa hq (aa hp (aa (Wn ..) rfl))⟩,by exact lD x4 y4,λh=>by obtain ⟨e1,e2,e3⟩:=x5 h;obtain ⟨f1,f2,f3⟩:=y5 e1;exact ⟨f1,f2.trans e2,f3.trans e3⟩,λh=>y6 (x6 h)⟩
theorem aV.le (x:aV a b g g')(h:Nat.ble (b+c) (a+d)=true:=by rfl):aV c d g g':=
 ⟨x.c,x.bb,x.tk,by have:=x.u;have:=Nat.le_of_ble_eq_true h;lia,x.dd,x.iv⟩
theorem aV.dW (x:aV a b g g')(h:b+c≤a+d:=by simp+arith):aV c d g g':=x.le (Nat.ble_eq_true_of_le h)
theorem aV.ky (x:aV a b g g')(h:g'.dead=false):g.dead=false:=by
 cases e:g.dead with
 |false=>rfl
 |true=>exact (x.dd e).1.symm.trans h
theorem aj.sg (R:aj (n+1) g)(x:aV a b g g')(h:Nat.ble b (a+10000)=true:=by rfl):aj n g':=by
 obtain ⟨r1,r2,r3,r4,r5,r6,r7,r8,r9⟩:=R;have:=x.u;have:=Nat.le_of_ble_eq_true h;exact ⟨by refine aa x.c ?_;exact r1,by lia,by refine aa x.bb ?_;exact lB r3,x.iv r4,by refine aa x.c ?_;exact r5,by refine aa x.bb ?_;exact r6,by refine aa x.bb ?_;exact r7,by refine aa x.bb ?_;exact r8,by exact aa x.bb r9⟩
theorem aV.drop (x:aV (c+a) b g g'):aV a b g g':=x.dW
theorem aj.jy (R:aj (n+1) g):aj n g:=R.sg .refl
theorem aj.aw (R:aj m g)(h:n≤m:=by simp+arith):aj n g:=by
 obtain ⟨r1,r2,r3,r4,r5,r6,r7,r8,r9⟩:=R;exact ⟨r1,by lia,by lia,r4,r5,r6,r7,r8,r9⟩
theorem aj.tk (R:aj n g):ln g<16000000:=by have:=R.u;unfold rM at this;exact lB this
theorem aj.td (R:aj n g):g.told.length<16000000:=by have:=R.u;unfold rM at this;exact lB this
theorem aj.lb (R:aj n g):g.b.ak.length<16000000:=by have:=R.bz;exact lB this
end
noncomputable def G.nx (g:G):G:={g with next:=g.next+1}
noncomputable def zx:Nat→Nat
 |0=>0
 |_+1=>3050
structure Dr (g:G)(m r:Nat):Prop where
 lt:r<m
 aB:aq TV [sV,.int (m:Int)] (aF g) (.ok (.int (r:Int)) (aF g.nx))
 af:aV (zx r) 0 g g.nx
section
variable {g:G}{n:Nat}
theorem de {l:List V}{i:Nat}{v:V}(h:l[i]? =some v)(hi:l.length<16000000):ag l (i:Int)=some v:=by
 have:=(List.getElem?_eq_some_iff.mp h).1;unfold ag;exact aa (WE (by exact Int.natCast_nonneg _)) (aa (WE (by exact Int.ofNat_lt.mpr (Nat.lt_trans this hi))) h)
theorem wG (h:aq TV [sV,.int (m:Int)] (aF g) (.ok (.int (r:Int)) (aF g.nx)))(hl:r<m)(hr:u5 g=0→r=0):Dr g m r:=by
 refine ⟨hl,h,rfl,rfl,⟨[],(Wr _).symm⟩,?_,λh=>⟨h,rfl,rfl⟩,λh=>h⟩;have e:u5 g.nx=u5 g - 1:=Nat.sub_add_eq ..;show ln g+3050*u5 g.nx+2000*g.told.length+_+_≤ln g+3050*u5 g+2000*g.told.length+_+0;refine aa e ?_;cases r with
 |zero=>show _+0≤_;exact Nat.add_le_add_right (Nat.add_le_add_right (Nat.add_le_add_left (Nat.mul_le_mul_left _ (Nat.sub_le ..)) _) _) _
 |succ r=>
  have:u5 g≠0:=λh=>nomatch hr h;show _+3050≤_;obtain ⟨k,hk⟩:=Nat.exists_eq_succ_of_ne_zero this;rw [hk];show ln g+3050*k+2000*g.told.length+(if g.dead=true then 0 else 2000)+3050≤ln g+3050*(k+1)+2000*g.told.length+(if g.dead=true then 0 else 2000)+0;exact lB (Nat.le_refl 0)
theorem ee (R:aj n g)(m:Nat)(hm:0<m:=by decide): ∃r,Dr g m r:=by
 have hl:(g.c.nums.map V.int).length<16000000:=by have:=R.nums;exact aa (Wq ..) (Nat.lt_trans this (by decide))
 have md: ∀x:Int,∃r:Nat,r<m∧cF .Mod x (m:Int)=some (r:Int):=λx=>by
  have h1:=Int.emod_nonneg x (b:=(m:Int)) (Int.ne_of_gt (Int.ofNat_lt.mpr hm));have h2:=Int.emod_lt_of_pos x (b:=(m:Int)) (by exact Int.ofNat_lt.mpr hm);exact ⟨(x%m).toNat,(Int.toNat_lt h1).mpr h2,by show (if 0<(m:Int) then some (x%m) else none)=_;exact aa (WE (by exact Int.ofNat_lt.mpr hm)) (aa (Int.toNat_of_nonneg h1) rfl)⟩
 cases h:g.c.nums[g.next]? with
 |some x=>
  have hlt:g.next<g.c.nums.length:=(List.getElem?_eq_some_iff.mp h).1;have h1:decide ((g.next:Int)<((g.c.nums.map V.int).length:Int))=true:=WA (by exact aa (Wq ..) (Int.ofNat_lt.mpr hlt));have h2:ag (g.c.nums.map V.int) (g.next:Int)=some (.int x):=de (by exact aa (List.getElem?_map) (aa h rfl)) hl;obtain ⟨r,hr,e⟩:=md x;exact ⟨r,wG (wk [.lt hl,.av h1,.ag h2,.op e]) hr λh=>WK h (Nat.ne_of_gt (Nat.sub_pos_of_lt (Nat.lt_of_lt_of_le hlt (Nat.le_max_left ..))))⟩
 |none=>
  have hlt:g.c.nums.length≤g.next:=List.getElem?_eq_none_iff.mp h;have h1:decide ((g.next:Int)<((g.c.nums.map V.int).length:Int))=false:=Wz (by exact aa (Wq ..) λh=>WK (Int.ofNat_lt.mp h) (Nat.not_lt.mpr hlt));by_cases h8:g.next<8
  ·have h2:decide ((g.next:Int)<8)=true:=WA (by exact Int.ofNat_lt.mpr h8);have h3:cF .Mult (g.next:Int) (g.next:Int)=some ((g.next:Int)*g.next):=by show (if (g.next:Int).natAbs<2^60 then some _ else none)=_;exact aa (WE (by exact Nat.lt_trans h8 (by decide))) rfl
   obtain ⟨r,hr,e⟩:=md ((g.next:Int)*g.next+3);have h4:cF .Add ((g.next:Int)*g.next) 3=some ((g.next:Int)*g.next+3):=rfl;exact ⟨r,wG (wk [.lt hl,.av h1,.av h2,.op h3,.op h4,.op e]) hr λh=>WK h (Nat.ne_of_gt (Nat.sub_pos_of_lt (Nat.lt_of_lt_of_le h8 (Nat.le_max_right ..))))⟩
  ·have h2:decide ((g.next:Int)<8)=false:=Wz (by exact_mod_cast h8);exact ⟨0,wG (wk [.lt hl,.av h1,.av h2]) hm λZ=>rfl⟩
theorem ue (R:aj n g)(salt:Nat): ∃b,aq TL [sV,.int (salt:Int)] (aF g) (.ok (.bool b) (aF g)):=by
 have lo:0≤(3*(ln g:Int)+salt)%11:=Int.emod_nonneg _ (by decide);have hi:(3*(ln g:Int)+salt)%11<11:=Int.emod_lt_of_pos _ (by decide);revert lo hi;have h1:cF .Mult 3 (ln g:Int)=some (3*(ln g:Int)):=rfl;have h2:cF .Add (3*(ln g:Int)) salt=some (3*(ln g:Int)+salt):=rfl;have h3:cF .Mod (3*(ln g:Int)+salt) 11=some ((3*(ln g:Int)+salt)%11):=rfl;revert h3;generalize (3*(ln g:Int)+salt)%11=e;intro h3 lo hi;have hp:(2:Nat)^e.toNat≤2^10:=Nat.pow_le_pow_right (by decide) (by lia);have hq:0<(2:Nat)^e.toNat:=Nat.pow_pos (by decide);have h4:cF .Pow 2 e=some (((2:Nat)^e.toNat:Nat):Int):=by show (if (2:Int)=2∧0≤e∧e≤64 then some ((2:Int)^e.toNat) else none)=_;exact aa (WE (by lia)) (aa (Int.natCast_pow ..) rfl)
 revert h4 hp hq;generalize (2:Nat)^e.toNat=q;intro hp hq h4;have h5:cF .FloorDiv g.c.jM (q:Int)=some (g.c.jM / q):=by show (if 0<(q:Int)∧(q:Int)<1073741824 then some _ else none)=_;exact aa (WE (by lia)) rfl
 exact ⟨decide (g.c.jM / q%2=1),wk [.lt R.tk,.op h1,.op h2,.op h3,.op h4,.op h5]⟩
end
noncomputable def G.tq (g:G)(k:Nat)(u:N)(l:Bool):G:=if g.dead=true then g else {g with toks:=g.toks++[jt k u (ln g) l],pend:=false,loose:=false}
noncomputable def lg (t:N):Bool:=decide (t=59)||decide (t=125)
structure Tk (g g1:G)(t:N)(ti:Bool)(k:Nat)(u:N):Prop where
 aB:aq Tb [sV,.str t,.bool ti] (aF g) (.ok (pv (ln g)) (aF g1))
 st: ∃l,g1=g.tq k u l∧(ti=true→g.pend=false→l=false)∧(g.pend=true→lg t=false→l=true)
noncomputable def fy:List (N×Nat):=[(97,1),(98,1),(99,1),(V4,1),(120,1),(121,1),(122,1),(113,1),(S0,1),(VY,1),(VW,2),(Up,2),(UH,2),(Ui,2),(UZ,2),(UD,2),(VZ,2),(Wj,2),(Wi,2),(TB,2),(TM,2),(Wl,2),(VF,2),(28265,2),(V3,2),(TJ,2),(V9,2),(VG,2),(Un,2),(Tj,2),(55,3),(Wb,4),(27431,4),(6711591,4),(91,5),(93,5),(61,5),(V0,5),(58,5),(123,5),(125,5),(44,5),(40,5),(41,5),(33,5),(59,5)]
noncomputable def nQ (t:N)(ti:Bool)(i:Nat)(k:Nat):ao:=[(115,.val sV),(Tf,.val (.str t)),(499967814004,.val (.bool ti)),(TP,.val (pv i)),(Uo,.val (.int (k:Int)))]
noncomputable def Bm (i:Nat):Stmt:=fC (dQ Tb) i
section
variable {g:G}{n k i:Nat}{u:N}{l:Bool}
theorem AJ (ti:Bool)(i:Nat)(σ:St):fy.map (λp=>ie (ej (lv 40) (bj Tb (nQ p.1 ti i 5) σ) (Bm 3) (nQ p.1 ti i 5) σ []))=fy.map (λp=>ip (.next (nQ p.1 ti i p.2) σ) (ej (lv 40) (bj Tb (nQ p.1 ti i 5) σ) (Bm 3) (nQ p.1 ti i 5) σ [])):=by kernel_rfl
theorem Oa (h:bt fy t=some k):eO Tb (Bm 3) (nQ t ti i 5) σ (.next (nQ t ti i k) σ):=
 cD [] (List.map_inj_left.mp (AJ ti i σ) (t,k) (aZ h))
theorem Sb (l0:Bool): ∃l,eO Tb (Bm 5) (nQ t ti i k++[(1701734764,.val (.bool l0))]) (aF g) (.next (nQ t ti i k++[(1701734764,.val (.bool l))]) (aF g))∧(g.pend=false→l=l0)∧(g.pend=true→lg t=false→l=true):=by
 cases hp:g.pend with
 |false=>exact ⟨l0,cD [.av hp],λZ=>rfl,bK⟩
 |true=>
  cases h1:decide (t=59) with
  |true=>exact ⟨l0,cD [.av hp,.av (WJ not h1)],jN,λZ h=>by unfold lg at h;rw [h1] at h;exact jN h⟩
  |false=>
   cases h2:decide (t=125) with
   |true=>exact ⟨l0,cD [.av hp,.av (WJ not h1),.av (WJ not h2)],jN,λZ h=>by unfold lg at h;rw [h1,h2] at h;exact jN h⟩
   |false=>exact ⟨true,cD [.av hp,.av (WJ not h1),.av (WJ not h2)],jN,λZ Z=>rfl⟩
theorem dh (hd:g.dead=false):g.tq k u l={g with toks:=g.toks++[jt k u (ln g) l],pend:=false,loose:=false}:=WG (by refine aa hd ?_;decide)
theorem pO (hd:g.dead=true):g.tq k u l=g:=WE hd
noncomputable def LI (k:Nat)(t:N):N:=if k=4 then t / 256 else t
theorem Ld (h:bt fy t=some 4):t=Wb∨t=27431∨t=6711591:=by
 have h1:fy.all (λp=>p.2 !=4||(p.1==Wb||(p.1==27431||p.1==6711591)))=true:=by kernel_rfl
 have h2:=Wu h1 _ (aZ h);have h3:(t==Wb||(t==27431||t==6711591))=true:=h2;rw [Bool.or_eq_true,Bool.or_eq_true,beq_iff_eq,beq_iff_eq,beq_iff_eq] at h3;exact h3
theorem yc (R:aj n g)(h:bt fy t=some k)(hd:g.dead=false)(ti:Bool): ∃l,aq Tb [sV,.str t,.bool ti] (aF g) (.ok (pv (ln g)) (aF {g with toks:=g.toks++[jt k (LI k t) (ln g) l],pend:=false,loose:=false}))∧(ti=true→g.pend=false→l=false)∧(g.pend=true→lg t=false→l=true):=by
 obtain ⟨b,hb⟩:=ue R 0;obtain ⟨l,h2,h3,h4⟩:=Sb (g:=g) (t:=t) (ti:=ti) (i:=ln g) (k:=k) (!ti&&b);refine ⟨l,?_,λa c=>(h3 c).trans (by exact aa a rfl),h4⟩;by_cases hk:k=4
 ·subst hk;have h6:=Oa (ti:=ti) (i:=ln g) (σ:=aF g) h;cases ti with
  |false=>rcases Ld h with h|h|h<;>subst h<;>exact wk [.lt R.tk,.av hd,.ifs h6,.call hb,.ifs h2,.lt R.tk]
  |true=>rcases Ld h with h|h|h<;>subst h<;>exact wk [.lt R.tk,.av hd,.ifs h6,.ifs h2,.lt R.tk]
 ·have h5:decide ((k:Int)=4)=false:=Wz λe=>hk (Int.ofNat.inj e);refine aa (show LI k t=t from WG hk) ?_;cases ti with
  |false=>exact wk [.lt R.tk,.av hd,.ifs (Oa (ti:=false) (i:=ln g) (σ:=aF g) h),.call hb,.ifs h2,.av h5,.lt R.tk]
  |true=>exact wk [.lt R.tk,.av hd,.ifs (Oa (ti:=true) (i:=ln g) (σ:=aF g) h),.ifs h2,.av h5,.lt R.tk]
theorem Mp (R:aj n g)(ti:Bool)(h:bt fy t=some k): ∃g1,Tk g g1 t ti k (LI k t):=by
 cases hd:g.dead with
 |true=>exact ⟨g,wk [.lt R.tk,.av hd],g.pend&& !lg t,(pO hd).symm,λZ h=>by exact aa h rfl,λh h2=>by exact aa h (aa h2 rfl)⟩
 |false=>
  obtain ⟨l,h1,h2⟩:=yc R h hd ti;exact ⟨_,h1,l,(dh hd).symm,h2⟩
theorem cI (R:aj n g)(t:N)(ti:Bool)(k:Nat)(h:bt fy t=some k:=by rfl)(h4:Nat.beq k 4=false:=by rfl): ∃g1,Tk g g1 t ti k t:=by
 have z:=Mp R ti h;rw [show LI k t=t from WG λe=>by subst e;exact jN h4] at z;exact z
theorem nS:aV 0 1 g (g.tq k u l):=by
 cases hd:g.dead with
 |true=>exact aa (pO hd) aV.refl.le
 |false=>
  refine aa (dh hd) ?_;refine ⟨rfl,rfl,⟨[_],rfl⟩,?_,λh=>WK hd (by refine aa h ?_;decide),λh=>h⟩;show (g.toks++[_]).length+3050*u5 g+2000*g.told.length+_+0≤g.toks.length+3050*u5 g+2000*g.told.length+_+1;refine aa Wo ?_;show _+1+_+_+(if g.dead=true then 0 else 2000)+0≤_;generalize (if g.dead=true then 0 else 2000)=z
  simp+arith
theorem yb:(g.tq k u l).dead=g.dead:=by unfold G.tq;split<;>rfl
theorem Tk.af (o:Tk g g1 t ti k u):aV 0 1 g g1:=by obtain ⟨_,e,_⟩:=o.st;exact e▸nS
theorem Tk.dd (o:Tk g g1 t ti k u):g1.dead=g.dead:=by obtain ⟨_,e,_⟩:=o.st;exact e▸yb
noncomputable def G.ez (g:G)(n:Int)(a:V)(ws:List V):G:=if g.dead=true then g else {g with told:=g.told++[.au [.int n,a,.au ws]]}
noncomputable def G.dP (g:G)(n:Int)(i:Nat):G:=g.ez n (pv i) []
variable {c:Int}{ws:List V}{j:Nat}
theorem gJ (hd:g.dead=false){a:V}:g.ez c a ws={g with told:=g.told++[.au [.int c,a,.au ws]]}:=WG (by refine aa hd ?_;decide)
theorem gI (hd:g.dead=true){a:V}:g.ez c a ws=g:=WE hd
theorem ez (R:aj n g)(c:Int)(j:Nat)(ws:List V):aq UA [sV,.int c,pv j,.au ws] (aF g) (.ok .none (aF (g.ez c (pv j) ws))):=by
 cases hd:g.dead with
 |true=>exact aa (gI hd) (wk [.av hd])
 |false=>exact aa (gJ hd) (wk [.av hd,.lt R.td])
theorem kW (hw:ws.all AA=true:=by rfl):aV 0 2000 g (g.ez c (pv j) ws):=by
 cases hd:g.dead with
 |true=>exact aa (gI hd) aV.refl.le
 |false=>
  refine aa (gJ hd) ?_;refine ⟨rfl,rfl,⟨[],(Wr _).symm⟩,?_,λh=>WK hd (by refine aa h ?_;decide),λh=>⟨h.1,λx hx=>(List.mem_append.mp hx).elim (h.2 x) λhx=>⟨c,_,ws,Wx hx,hw⟩⟩⟩;show ln g+3050*u5 g+2000*(g.told++[_]).length+_+0≤ln g+3050*u5 g+2000*g.told.length+_+2000;refine aa Wo ?_;show _+2000*(_+1)+(if g.dead=true then 0 else 2000)+0≤_;generalize (if g.dead=true then 0 else 2000)=z;lia
theorem Ck {a:V}:(g.ez c a ws).dead=g.dead:=by unfold G.ez;split<;>rfl
structure En (g g1:G):Prop where
 aB:aq VN [sV] (aF g) (.ok .none (aF g1))
 st:g1={g with pend:=true}∨ ∃l,g1=g.tq 5 59 l
theorem wK (R:aj n g): ∃g1,En g g1:=by
 obtain ⟨b,hb⟩:=ue R 1;cases b with
 |true=>exact ⟨_,wk [.call hb],.inl rfl⟩
 |false=>
  obtain ⟨g1,o⟩:=cI R 59 false 5;obtain ⟨l,e,_⟩:=o.st;exact ⟨g1,wk [.call hb,.call o.aB],.inr ⟨l,e⟩⟩
theorem En.af (o:En g g1):aV 0 1 g g1:=by
 rcases o.st with e|⟨l,e⟩
 ·exact aa e ⟨rfl,rfl,⟨[],(Wr _).symm⟩,Nat.le_succ _,λh=>⟨h,rfl,rfl⟩,λh=>h⟩
 ·exact aa e nS
theorem En.dd (o:En g g1):g1.dead=g.dead:=by
 rcases o.st with e|⟨l,e⟩
 ·exact aa e rfl
 ·exact aa e yb
noncomputable def A4 (n:Nat):N:=([97,98,99,V4][n%4]?).getD 0
theorem Kh (n:Nat):A4 n=97∨A4 n=98∨A4 n=99∨A4 n=V4:=by
 unfold A4;rcases d4 (Nat.mod_lt n (by decide)) with h|h|h|h<;>refine aa h ?_
 ·exact .inl rfl
 ·exact .inr (.inl rfl)
 ·exact .inr (.inr (.inl rfl))
 ·exact .inr (.inr (.inr rfl))
noncomputable def vR (t:N):Prop:=t=97∨t=98∨t=99∨t=V4
theorem vR.all {p:N→Bool}(h:vR t)(hp:(p 97&&(p 98&&(p 99&&p V4)))=true):p t=true:=by
 obtain ⟨h1,h2⟩:=Ws hp;obtain ⟨h2,h3⟩:=Ws h2;obtain ⟨h3,h4⟩:=Ws h3;rcases h with h|h|h|h<;>subst h<;>assumption
theorem uP (R:aj n g)(ti:Bool): ∃t g1,vR t∧Tk g g1 t ti 1 t∧aq Uy [sV,.bool ti] (aF g) (.ok (nd 8 t [] 0 (ln g)) (aF g1)):=by
 have h0:=Kh (ln g);have ht:bt fy (A4 (ln g))=some 1:=by rcases h0 with h|h|h|h<;>refine aa h ?_<;>rfl
 obtain ⟨g1,o⟩:=cI R (A4 (ln g)) ti 1 ht;have h1:ag [.str 97,.str 98,.str 99,.str V4] ((ln g:Int)%4)=some (.str (A4 (ln g))):=by
  unfold A4;show ag _ ((ln g%4:Nat):Int)=_;rcases d4 (Nat.mod_lt (ln g) (by decide)) with h|h|h|h<;>refine aa h ?_<;>rfl
 exact ⟨_,g1,h0,o,wk [.lt R.tk,.ag h1,.call o.aB]⟩
end
theorem bc {p:Prop}(b:Bool)(t:b=true→p)(f:b=false→p):p:=by cases b with|true=>exact t rfl|false=>exact f rfl
theorem aq.to {f:N}{l:List V}{σ σ1 σ2:St}{v:V}(h:aq f l σ (.ok v σ1))(e:σ2=σ1):aq f l σ (.ok v σ2):=e▸h
structure PK where
 m0:MO
 m1:MO
 m2:MO
 m3:MO
 T:List V
 func:Int
structure PQ where
 rows:List V
 deep:Int
 ai:Bool
 il:Int
 cy:Int
 bz:List V
noncomputable def LQ:List (V×V):=[(.str Wl,.aO VP []),(.str S0,.aO Vv []),(.str Un,.aO U3 []),(.str Ui,.aO U3 []),(.str Tj,.aO UW []),(.str VZ,.aO VQ []),(.str TM,.aO U4 []),(.str TJ,.aO Ua []),(.str V3,.aO UG []),(.str VW,.aO UM []),(.str UZ,.aO UM []),(.str V9,.aO UY []),(.str VG,.aO Vw []),(.str 119182698048547,.aO UX [])]
noncomputable def aP (K:PK)(n:Nat)(q:PQ):St:=[K.m0,K.m1,K.m2,K.m3,
 .ins VX [(Vs,.obj 5),(VH,.str 0)],.gg q.rows,
 .ins VD [(126917985136500,.list K.T),(TP,.int (n:Int)),(495655676260,.obj 4),(495874892144,.obj 7),(126943990278502,.obj 8),(495740084596,.obj 9),(495623108980,.obj 10),(Vf,.int q.deep),(29113321536775536,.au [.str 0,.int 0,.int 0]),(V1,.bool q.ai),(27987473202114153,.int K.func),(31647721741839977,.int q.il),(Wf,.int q.cy),(VR,.obj 11),(28268922358689646,.bool false),(32195222481167730,.bool false),(V8,.int 0),(126935165726563,.list []),(126862284910435,.obj 12),(Wg,.obj 13),(126943822114931,.list []),(431198986611,.list [])],
 .fN [(.int 2,.aO SD []),(.int 1,.aO SD []),(.int 10,.aO SD []),(.int 3,.obj 14),(.int 4,.aO TH [])],.fN [],.fN [],.fN [],.gg q.bz,.fN [],.fN [],.ins Vp [(495606460279,.obj 15)],.fN LQ]
noncomputable abbrev P:V:= .obj 6
noncomputable def bW (v:V):V:=match bf (.v v) [] [] with
 |some l=> .aO UO (l++[.str 0])
 |none=>v
noncomputable def LC (v:V):V:=match v with
 | .bool b=> .int (if b=true then 1 else 0)
 |v=>v
noncomputable def cR (v:V):V:=match bf (.v v) [] [] with
 |some l=> .au ((l.take 1)++(l.drop 1).map LC)
 |none=>v
noncomputable def pq (g:G)(d:Int)(ai:Bool):PQ:=⟨g.told.map bW,d,ai,g.b.cq,g.b.switch,g.b.ak.map cR⟩
noncomputable def GW (v:V):Bool:=decide (((oZ v Uo []).bind bT).getD 0=5∧((oZ v Tf []).bind fK).getD 0=59)
noncomputable def kK (K:PK)(n:Nat):Bool:=((ag K.T (n:Int)).map GW).getD false
theorem xY: ∃f:PK→Bool→Nat→Nat,∀K b n,f K b n=if (b&&kK K n)=true then n+1 else n:=⟨_,λZ Z Z=>rfl⟩
noncomputable def OH:PK→Bool→Nat→Nat:=Classical.choose xY
noncomputable def pos (K:PK)(g:G):Nat:=OH K (g.pend||g.loose) (ln g)
theorem kH (K:PK)(g:G):pos K g=if ((g.pend||g.loose)&&kK K (ln g))=true then ln g+1 else ln g:=Classical.choose_spec xY K _ _
noncomputable def PS (K:PK)(d:Int)(ai:Bool)(g:G):St:=aP K (pos K g) (pq g d ai)
structure W (K:PK)(g:G):Prop where
 lt:K.T.length<16000000
 fn:K.func=g.c.func
 ex: ∃r,K.T=g.toks++(r++[wH (ln g+r.length)])∧(g.dead=true→r=[])
noncomputable def Cl (g:G):Prop:=(g.pend||g.loose)=false
section
variable {g:G}{a b k n i:Nat}{u:N}{l ai:Bool}{q:PQ}
theorem aV.w (x:aV a b g g')(w:W K g'):W K g:=by
 obtain ⟨r,h,h2⟩:=w.ex;obtain ⟨p,hp⟩:=x.tk;refine ⟨w.lt,w.fn.trans (WJ GC.func x.c),p++r,?_,λhd=> ?_⟩
 ·refine aa h (aa hp (aa (Wn ..) (aa (Wn ..) ?_)));rw [ln,ln];exact aa hp (aa Wo (aa Wo (aa (Nat.add_assoc ..) rfl)))
 ·obtain ⟨h3,h4,_⟩:=x.dd hd;exact aa (h2 h3) (aa (Wr ..) (List.append_cancel_left ((hp.symm.trans h4).trans (Wr _).symm)))
theorem eR (h:Cl g):pos K g=ln g:=(kH K g).trans<|WG (by exact aa (show (g.pend||g.loose)=false from h) bK)
theorem rz (h:kK K (ln g)=false):pos K g=ln g:=(kH K g).trans<|WG (by exact aa h (aa (Bool.and_false ..) bK))
theorem ya (hd:g.dead=false):Cl (g.tq k u l):=by exact aa (dh hd) rfl
structure Lk (K:PK)(g g1:G)(k:Nat)(u:N)(l:Bool):Prop where
 bk:ag K.T (pos K g:Int)=some (jt k u (ln g) l)
 GP:ag K.T (ln g:Int)=some (jt k u (ln g) l)
 ps: ∀d ai,PS K d ai g1=aP K (pos K g+1) (pq g d ai)
 p1:pos K g1=pos K g+1
 pp:pos K g=ln g
inductive QX (K:PK)(g g1:G)(t:N)(ti:Bool)(k:Nat)(u:N):Prop
 |mk (l:Bool) (q:Lk K g g1 k u l) (h1:ti=true→g.pend=false→l=false) (h2:g.pend=true→lg t=false→l=true)
theorem Tk.cl (o:Tk g g1 t ti k u)(hd:g.dead=false):Cl g1:=by
 obtain ⟨l,e,_⟩:=o.st;exact aa e (ya hd)
theorem pV (h:ag K.T (n:Int)=some (jt k u i l)):kK K n=decide ((k:Int)=5∧u=59):=by
 have e:GW (jt k u i l)=decide ((k:Int)=5∧u=59):=by kernel_rfl
 unfold kK;exact aa h e
theorem nR (hd:g.dead=false)(w:W K (g.tq k u l))(hs:(k==5&&u==59)=false∨Cl g):Lk K g (g.tq k u l) k u l:=by
 obtain ⟨r,h,_⟩:=w.ex;have e:=dh (k:=k) (u:=u) (l:=l) hd;have h1:ag K.T (ln g:Int)=some (jt k u (ln g) l):=de (by refine aa h (aa e ?_);simp) w.lt;have h2:pos K g=ln g:=hs.elim (λh3=>rz ((pV h1).trans (Wz λ⟨a,b⟩=>by
  obtain rfl:=Int.ofNat.inj a;subst b;exact jN h3))) eR
 have h3:pos K (g.tq k u l)=pos K g+1:=by
  exact aa (eR (ya hd)) (aa h2 (aa e (Wo ..)))
 refine ⟨by refine aa h2 ?_;exact h1,h1,λd ai=> ?_,h3,h2⟩;unfold PS;exact aa h3 (aa e rfl)
theorem Tk.lk (o:Tk g g1 t ti k u)(hd:g.dead=false)(w:W K g1)(hs:(k==5&&u==59)=false∨Cl g:=by exact .inl rfl):QX K g g1 t ti k u:=by
 obtain ⟨l,e,h1,h2⟩:=o.st;subst e;exact ⟨l,nR hd w hs,h1,h2⟩
theorem Lk.aE (o:Lk K g g1 k u l)(d:Int)(ai:Bool)(hk:k≠0:=by decide):aq Um [P] (PS K d ai g) (.ok (jt k u (ln g) l) (PS K d ai g1)):=
 (wk [.ag o.bk,.av (WJ not (Wz λe:(k:Int)=0=>hk (Int.ofNat.inj e)))]).to (o.ps d ai)
theorem Lk.cT (o:Lk K g g1 k u l)(d:Int)(ai:Bool)(hk:k≠0:=by decide):aq Vu [P,.int (k:Int),.str u] (PS K d ai g) (.ok (.bool true) (PS K d ai g1)):=
 wk [.ag o.bk,.av (b:=decide ((k:Int)=k)) (c:=true) (WA rfl),.av (b:=decide (u=u)) (c:=true) (WA rfl),.call (o.aE d ai hk)]
end
noncomputable def lR (F:List (Nat×N))(k:Nat)(u:N):Bool:=F.all λp=> !(Nat.beq p.1 k&&(Nat.beq p.2 1||Nat.beq p.2 u))
noncomputable def IF (F:List (Nat×N))(k:Nat)(t:N):Bool:=F.any λp=>Nat.beq p.1 k&&(Nat.beq p.2 1||Nat.beq p.2 t)
inductive Nt (K:PK)(n:Nat)(F:List (Nat×N)):Prop
 |mk (k:Nat) (u:N) (a e:V) (l:Bool) (h:ag K.T (n:Int)=some (gp k u a e l)) (h2:lR F k u=true)
section
variable {g:G}{a b k n i k0:Nat}{u:N}{l ai:Bool}{q:PQ}{F':List (Nat×N)}{v w:V}
theorem EC (h:lR F k u=true)(hm:IF F k0 t=true): ¬(k=k0∧u=t):=λ⟨e1,e2⟩=>by
 subst e1 e2;obtain ⟨p,hp,e⟩:=List.any_eq_true.mp hm;have:=Wu h p hp;rw [e] at this;exact bK this
theorem Pb (h:lR F k u=true)(k0:Nat)(t:N)(hm:IF F k0 t=true)(σ:St):aq Vn [gp k u v w l,.int (k0:Int),.str t] σ (.ok (.bool false) σ):=by
 by_cases e:k=k0
 ·exact wk [.av (b:=decide ((k:Int)=k0)) (c:=true) (WA (WJ _ e)),.av (b:=decide (u=t)) (c:=false) (Wz λe2=>EC h hm ⟨e,e2⟩)]
 ·exact wk [.av (b:=decide ((k:Int)=k0)) (c:=false) (Wz λe2=>e (Int.ofNat.inj e2))]
noncomputable def Qp:List (N×Nat):=[(Sv,5),(Ss,5),(Tr,2),(S9,2),(Ts,1)]
theorem Nt.no (h:Nt K n F)(f t:N){k0:Nat}(hf:bt Qp f=some k0:=by rfl)(hm:IF F k0 t=true:=by rfl):aq f [P,.str t] (aP K n q) (.ok (.bool false) (aP K n q)):=by
 obtain ⟨k,u,a,e,l,h1,h2⟩:=h;have c:=Pb (v:=a) (w:=e) (l:=l) h2 k0 t hm (aP K n q);have hm:=aZ hf;rcases Wv hm with e|hm
 ·obtain ⟨rfl,rfl⟩:=lj e;exact wk [.ag h1,.call c]
 rcases Wv hm with e|hm
 ·obtain ⟨rfl,rfl⟩:=lj e;exact wk [.ag h1,.call c]
 rcases Wv hm with e|hm
 ·obtain ⟨rfl,rfl⟩:=lj e;exact wk [.ag h1,.call c]
 rcases Wv hm with e|hm
 ·obtain ⟨rfl,rfl⟩:=lj e;exact wk [.ag h1,.call c]
 ·obtain ⟨rfl,rfl⟩:=lj (Wx hm);exact wk [.ag h1,.call c]
theorem Nt.pn (h:Nt K (pos K g) F)(f t:N)(d:Int)(ai:Bool){k0:Nat}(hf:bt Qp f=some k0:=by rfl)(hm:IF F k0 t=true:=by rfl):aq f [P,.str t] (PS K d ai g) (.ok (.bool false) (PS K d ai g)):=h.no f t hf hm
theorem Nt.le (h:Nt K n F)(hm:F'.all (λp=>F.any λq=>Nat.beq q.1 p.1&&(Nat.beq q.2 1||(Nat.beq q.2 p.2&& !Nat.beq p.2 1)))=true:=by rfl):Nt K n F':=by
 obtain ⟨k,u,a,e,l,h1,h2⟩:=h;refine ⟨k,u,a,e,l,h1,List.all_eq_true.mpr λp hp=> ?_⟩;cases e2:(Nat.beq p.1 k&&(Nat.beq p.2 1||Nat.beq p.2 u)) with
 |false=>rfl
 |true=>
  obtain ⟨h3,h4⟩:=Ws e2;have h5:=Wu hm p hp;obtain ⟨r,hr,h6⟩:=List.any_eq_true.mp h5;obtain ⟨h7,h8⟩:=Ws h6;have h9:=Wu h2 r hr;rw [WI h3] at h7;rw [h7] at h9;rcases Wt h8 with h|h
  ·rw [h] at h9;exact bK h9
  ·obtain ⟨ha,hb⟩:=Ws h;rcases Wt h4 with h4|h4
   ·rw [h4] at hb;exact bK hb
   ·rw [WI ha,h4,Bool.or_true] at h9;exact bK h9
theorem Lk.nt (o:Lk K g g1 k u l)(h:lR F k u=true:=by rfl):Nt K (pos K g) F:=⟨_,_,_,_,_,o.bk,h⟩
end
noncomputable def tV (p:V→Prop):List V→Prop
 |[]=>True
 |x::r=>p x∧tV p r
theorem tV.of {p:V→Prop}: ∀{l:List V},tV p l→ ∀x∈l,p x
 |_::_,h,x,m=>by
  cases m with
  |head=>exact h.1
  |tail _ m=>exact tV.of h.2 x m
noncomputable def kQ:V:= .aO Ve [.int 60,.str 0,.list [],.int 0,.int 0,.int 0]
inductive aT:Nat→V→Prop
 |none {h}:aT h .none
 |node {h k a kids fl i}:(∀x∈kids,aT h x)→kids.length≤8→aT (h+1) (nd k a kids fl i)
 |vo {h}:aT (h+1) kQ
theorem aT.nd {h k a kids fl i}(t:tV (aT h) kids)(l:Nat.ble kids.length 8=true:=by rfl):aT (h+1) (Mine.nd k a kids fl i):= .node t.of (Nat.le_of_ble_eq_true l)
theorem aT.le {v:V}{h:Nat}(t:aT h v): ∀{h'},h≤h'→aT h' v:=by
 induction t with
 |none=>exact λZ=> .none
 |node t l ih=>
  intro h' hh;cases h' with
  |zero=>exact WK hh (Nat.not_succ_le_zero _)
  |succ h'=>exact .node (λx hx=>ih x hx (Nat.le_of_succ_le_succ hh)) l
 |vo=>
  intro h' hh;cases h' with
  |zero=>exact WK hh (Nat.not_succ_le_zero _)
  |succ h'=>exact .vo
noncomputable def hE (r:V)(S:List V)(ex:ao):ao:=(112,.val P)::(1953460082,.val r)::(461228831859,.own S)::ex
noncomputable def hT (l:Int)(v:V):V:= .au [v,.int l]
noncomputable def hC:Expr:=eD (eS S5 1)
noncomputable def hB:List Stmt:=dK (eS S5 1)
noncomputable def hK:Stmt:=fC hB 3
noncomputable def O2 (σ:St):Sx:=bj S5 [] σ
noncomputable def Pw (σ:St)(r:V)(S S1:List V):Prop:= ∀o,d9 (O2 σ) hC hB (hE r S []) σ o→d9 (O2 σ) hC hB (hE r S1 []) σ o
noncomputable def Px (σ:St)(r:V)(h:Nat)(v:V):Prop:= ∀(l:Int) (S:List V),l+h≤161→S.length+8*(h+1)+1<16000000→Pw σ r S (S++[hT l v])
section
variable {o:SO}{r v:V}{S kids:List V}{l:Int}
theorem uX (hl:S.length+1<16000000)(v:V):(S++[v]).getLast? =some v∧(S++[v]).dropLast=S∧(S++[v]).length<16000000:=by simp [hl]
theorem AF {k:Nat}{a:N}{fl i:Nat}(hS:S.length+kids.length<16000000)(n j:Nat)(hj:j+n=kids.length):
  eN (O2 σ) (bf (.v (.list kids))) 6580587 (dK hK) n j (hE r (S++(kids.take j).map (hT (l+1))) [(Tw,.val (nd k a kids fl i)),(Wm,.val (.int l))]) σ (.next (hE r (S++kids.map (hT (l+1))) [(Tw,.val (nd k a kids fl i)),(Wm,.val (.int l))]) σ):=by
 induction n generalizing j with
 |zero=>
  have hj:j=kids.length:=hj;subst hj;exact aa List.take_length (.done rfl rfl)
 |succ n ih=>
  have hlt:j<kids.length:=by exact lS hj
  have h2:=ih (j+1) (lE hj);have e1:S++(kids.take (j+1)).map (hT (l+1))=S++(kids.take j).map (hT (l+1))++[hT (l+1) kids[j]]:=by
   exact aa List.take_add_one (aa (List.getElem?_eq_getElem hlt) (aa List.map_append (fF (Wn ..) rfl)))
  rw [e1] at h2;have hn:(S++(kids.take j).map (hT (l+1))).length<16000000:=by refine aa Wo (aa (Wq ..) (aa List.length_take ?_));lia
  exact h2.b9 (fs:=[.lt hn]) rfl (List.getElem?_eq_getElem hlt) [(6580587,.val kids[j])]
theorem Fc {h:Nat}(ks:List V)(hks: ∀x∈ks,Px σ r h x)(hl:l+1+h≤161)(hS:S.length+ks.length+8*(h+1)+1<16000000):Pw σ r S (S++ks.reverse.map (hT (l+1))):=by
 induction ks with
 |nil=>exact λo h=>by exact aa List.reverse_nil (aa List.map_nil (aa (Wr ..) h))
 |cons x ks ih2=>
  rw [List.length_cons] at hS;have e1:=hks x (.head _) (l+1) (S++ks.reverse.map (hT (l+1))) hl (by exact aa Wo (aa (Wq ..) (aa List.length_reverse (lB hS))));have e2:=ih2 (λy hy=>hks y (.tail _ hy)) (lB hS);exact aa List.reverse_cons (aa List.map_append (fF (Wn ..) (λo q=>e1 o (e2 o q))))
theorem Fd {h:Nat}(t:aT h v):Px σ r h v:=by
 induction t with
 |none=>
  intro l S hl hS o h;exact h.ew (fs:=[.lh (uX (S:=S) (lB hS) (hT l .none))]) [(Tw,.val .none),(Wm,.val (.int l))]
 |vo=>
  intro l S hl hS o h;exact h.b9 (fs:=[.lh (uX (S:=S) (by lia) (hT l kQ)),.av (b:=false) rfl,.av (show decide ((160:Int)<l)=false from Wz (by lia))]) [(Tw,.val kQ),(Wm,.val (.int l))]
 | @node h k a kids fl i t hk ih=>
  intro l S hl hS;have hl':decide ((160:Int)<l)=false:=Wz (by lia);have go:=AF (σ:=σ) (r:=r) (S:=S) (l:=l) (kids:=kids) (k:=k) (a:=a) (fl:=fl) (i:=i) (lD hk hS) kids.length 0 (Nat.zero_add _);rw [List.take_zero,List.map_nil,Wr] at go;have e2:=eN.iw (f:=S5) (st:=hK) (fs0:=[]) (fs1:=[]) (k0:=[]) go (λT=>by kernel_rfl);have m:=Fc (σ:=σ) (r:=r) (S:=S) (l:=l) kids.reverse (λx hx=>ih x (List.mem_reverse.mp hx)) (by lia) (by exact aa List.length_reverse (lD hk hS));rw [List.reverse_reverse] at m;exact λo q=>(m o q).b9 (fs:=[.lh (uX (S:=S) (lB hS) (hT l (nd k a kids fl i))),.av (b:=false) rfl,.av hl',.eJ e2]) [(Tw,.val (nd k a kids fl i)),(Wm,.val (.int l))]
theorem i6 {h:Nat}(t:aT h v)(hh:h≤150):aq S5 [P,v] σ (.ok .none σ):=by
 have e:=Fd (σ:=σ) (r:=v) t 1 [] (by lia) (by show 0+_+1<_;lia);have e2:=d9.iw (f:=S5) (st:=eS S5 1) (e (.next (hE v [] []) σ) (.brk (fs:=[]) []));exact wk [.eJ e2]
end
structure Dp (m:Nat)(d:Int):Prop where
 lo:0≤d
 hi:d+m≤40
inductive fM (K:PK)(g:G):St→Prop
 |mk {n:Nat} {q d0 nm a ws k u e l} (r:q.rows=g.told.map bW) (t:g.told=d0++[.au [.int nm,.int a,.au ws]]) (h:ag K.T (n:Int)=some (gp k u (.int a) e l)):fM K g (aP K n q)
structure oE (K:PK)(f:N)(l:List V)(d:Int)(ai:Bool)(g g':G)(v:V):Prop where
 ok:g'.dead=false→aq f l (PS K d ai g) (.ok v (PS K d ai g'))
 ex:g'.dead=true→ ∃σ,aq f l (PS K d ai g) (.ba σ)∧fM K g' σ
section
variable {g:G}{m' n n' h:Nat}{q q':PQ}{ai:Bool}{v:V}{l:List V}{k:Int}{f:N}
theorem Dp.le (D:Dp m d)(h:m'≤m):Dp m' d:=⟨D.lo,by have:=D.hi;lia⟩
theorem Dp.up (D:Dp (m+1) d):Dp m (d+1):=⟨by have:=D.lo;exact zB this,by have:=D.hi;exact zB this⟩
theorem Dp.lt (D:Dp (m+1) d):d<40:=by have:=D.hi;exact zB this
theorem Dp.t1 (D:Dp (m+1) d):decide ((40:Int)<d+1)=false:=Wz (by have:=D.hi;lia)
theorem ni (h0:0≤q.deep)(h1:q.deep<40):vN Sr (P::l) (aP K n q):=
 ⟨λZ=>⟨q.deep,by kernel_rfl,h0,h1⟩,λh=>WK h (by decide),λh=>WK h (by decide)⟩
theorem rC:aP K n q=aP K n {q with deep:=q.deep+1 - 1}:=by exact aa (Int.add_sub_cancel ..) rfl
theorem tm (D:Dp (m+1) q.deep)(hp:aq SG [.aO SD [],P] (aP K n {q with deep:=q.deep+1}) (.ok v (aP K n' {q' with deep:=q'.deep+1})))(t:aT h v)(hh:h≤150)(hk:k∈[(1:Int),2,10]):aq Sr [P,.int k] (aP K n q) (.ok v (aP K n' q')):=by
 refine aq.to ?_ rC;refine bc (decide (q'.deep+1=1)) (λh2=> ?_) λh2=> ?_
 ·have ht:=i6 (σ:=aP K n' {q' with deep:=q'.deep+1}) t hh;have e:[(1:Int),2,10].map (λk=>lhs (dq (lv 40) Sr [P,.int k] (aP K n q) [.av (b:=false) rfl,.av D.t1,.av (b:=false) rfl,.call hp,.av h2,.call ht]))=[(1:Int),2,10].map (λk=>rhs (.ok v (aP K n' {q' with deep:=q'.deep+1 - 1})) (dq (lv 40) Sr [P,.int k] (aP K n q) [.av (b:=false) rfl,.av D.t1,.av (b:=false) rfl,.call hp,.av h2,.call ht])):=by kernel_rfl
  exact iV _ (ni D.lo D.lt) (List.map_inj_left.mp e k hk)
 ·have e:[(1:Int),2,10].map (λk=>lhs (dq (lv 40) Sr [P,.int k] (aP K n q) [.av (b:=false) rfl,.av D.t1,.av (b:=false) rfl,.call hp,.av h2]))=[(1:Int),2,10].map (λk=>rhs (.ok v (aP K n' {q' with deep:=q'.deep+1 - 1})) (dq (lv 40) Sr [P,.int k] (aP K n q) [.av (b:=false) rfl,.av D.t1,.av (b:=false) rfl,.call hp,.av h2])):=by kernel_rfl
  exact iV _ (ni D.lo D.lt) (List.map_inj_left.mp e k hk)
theorem nM (D:Dp (m+1) q.deep)(hp:aq Su [P,.obj 15] (aP K n {q with deep:=q.deep+1,ai:=true}) (.ok v (aP K n' {q' with deep:=q'.deep+1,ai:=ai})))(t:aT h v)(hh:h≤150):aq Sr [P,.int 3] (aP K n q) (.ok v (aP K n' {q' with ai:=q.ai})):=by
 refine aq.to ?_ rC;refine bc (decide (q'.deep+1=1)) (λh2=> ?_) λh2=> ?_
 ·exact iV [.av (b:=false) rfl,.av D.t1,.av (b:=true) rfl,.call hp,.av h2,.call (i6 (σ:=aP K n' {q' with deep:=q'.deep+1,ai:=q.ai}) t hh)] (ni D.lo D.lt)
 ·exact iV [.av (b:=false) rfl,.av D.t1,.av (b:=true) rfl,.call hp,.av h2] (ni D.lo D.lt)
theorem th (D:Dp (m+1) q.deep)(hp:aq Ta [.aO TH [],P] (aP K n {q with deep:=q.deep+1,ai:=true}) (.ok v (aP K n' {q' with deep:=q'.deep+1,ai:=ai})))(t:aT h v)(hh:h≤150):aq Sr [P,.int 4] (aP K n q) (.ok v (aP K n' {q' with ai:=q.ai})):=by
 refine aq.to ?_ rC;refine bc (decide (q'.deep+1=1)) (λh2=> ?_) λh2=> ?_
 ·exact iV [.av (b:=false) rfl,.av D.t1,.av (b:=true) rfl,.call hp,.av h2,.call (i6 (σ:=aP K n' {q' with deep:=q'.deep+1,ai:=q.ai}) t hh)] (ni D.lo D.lt)
 ·exact iV [.av (b:=false) rfl,.av D.t1,.av (b:=true) rfl,.call hp,.av h2] (ni D.lo D.lt)
theorem iN (D:Dp (m+1) q.deep)(h:aq Su [P,.obj 15] (aP K n {q with deep:=q.deep+1,ai:=true}) (.ba σ)):aq Sr [P,.int 3] (aP K n q) (.ba σ):=
 iV [.av (b:=false) rfl,.av D.t1,.av (b:=true) rfl,.call h] (ni D.lo D.lt)
theorem tj (D:Dp (m+1) q.deep)(h:aq Ta [.aO TH [],P] (aP K n {q with deep:=q.deep+1,ai:=true}) (.ba σ)):aq Sr [P,.int 4] (aP K n q) (.ba σ):=
 iV [.av (b:=false) rfl,.av D.t1,.av (b:=true) rfl,.call h] (ni D.lo D.lt)
theorem e8 (D:Dp (m+1) d)(hp:aq SG [.aO SD [],P] (PS K (d+1) ai g) (.ok v (PS K (d+1) ai g')))(t:aT h v)(hh:h≤150)(hk:k∈[(1:Int),2,10]):aq Sr [P,.int k] (PS K d ai g) (.ok v (PS K d ai g')):=
 tm (q:=pq g d ai) (q':=pq g' d ai) D hp t hh hk
theorem tg (D:Dp (m+1) d)(hp:oE K Su [P,.obj 15] (d+1) true g g' v)(t:aT h v)(hh:h≤150):oE K Sr [P,.int 3] d ai g g' v:=
 ⟨λhd=>nM (q:=pq g d ai) (q':=pq g' d ai) D (hp.ok hd) t hh,λhd=>by obtain ⟨σ,hx,he⟩:=hp.ex hd;exact ⟨σ,iN (q:=pq g d ai) D hx,he⟩⟩
theorem Ky (D:Dp (m+1) d)(hp:oE K Ta [.aO TH [],P] (d+1) true g g' v)(t:aT h v)(hh:h≤150):oE K Sr [P,.int 4] d ai g g' v:=
 ⟨λhd=>th (q:=pq g d ai) (q':=pq g' d ai) D (hp.ok hd) t hh,λhd=>by obtain ⟨σ,hx,he⟩:=hp.ex hd;exact ⟨σ,tj (q:=pq g d ai) D hx,he⟩⟩
end
noncomputable def vL (x:V):Bool:= !i7 x
inductive Pt:Nat→V→Prop
 |name {h a i} (n:a≠S0):Pt (h+1) (nd 8 a [] 0 i)
 |bind {h a x y fl i} (p:Pt h x) (q:aT h y):Pt (h+1) (nd 36 a [x,y] fl i)
 |Nf {h k kids i} (hk:k=34∨k=35) (t: ∀x∈kids,vL x=true→Pt h x) (u: ∀x∈kids,aT h x) (l:kids.length≤3):Pt (h+1) (nd k 0 kids 0 i)
noncomputable def lx (x:V):Prop:= ∃a i,x=nd 8 a [] 0 i∧a≠S0
noncomputable def nE (r:V)(O S:List V)(ex:ao):ao:=(31088027509219696,.val r)::(7632239,.own O)::(461228831859,.own S)::ex
noncomputable def nL:Stmt:=eS SE 2
noncomputable def nW:Stmt:=fC (match fC (match fC (match fC (dK nL) 2 with| .If _ _ b _=>b|_=>[]) 0 with| .If _ _ b _=>b|_=>[]) 0 with| .If _ b _ _=>b|_=>[]) 1
noncomputable def O4 (σ:St):Sx:=bj SE [] σ
noncomputable def PD (σ:St)(r:V)(O S O1 S1:List V):Prop:= ∀o,d9 (O4 σ) (eD nL) (dK nL) (nE r O S []) σ o→d9 (O4 σ) (eD nL) (dK nL) (nE r O1 S1 []) σ o
noncomputable def H4 (σ:St)(r:V)(h:Nat)(v:V):Prop:= ∀(O S:List V),S.length+4*h+4<16000000→O.length+4^h<16000000→
 ∃ns,(∀x∈ns,lx x)∧ns.length≤4^h∧PD σ r (O++ns) S O (S++[v])
section
variable {r v:V}{S kids:List V}{k i:Nat}
theorem Pt.aI {h:Nat}(p:Pt h v):aT h v:=by
 induction p with
 |name=>exact .nd trivial
 |bind p q ih=>exact .nd ⟨ih,q,trivial⟩
 |Nf k t u l ih=>exact .node u (Nat.le_trans l (by decide))
theorem Ol (hk:kids.length≤3)(j:Nat)(hj:j≤kids.length)(S:List V)(hS:S.length+j<16000000):d9 (O4 σ) (eD nW) (dK nW) (nE r O S [(Tw,.val (nd k 0 kids 0 i)),(TP,.val (.int ((j:Int) - 1)))]) σ (.next (nE r O (S++((kids.take j).filter vL).reverse) [(Tw,.val (nd k 0 kids 0 i))]) σ):=by
 induction j generalizing S with
 |zero=>
  exact aa (show S++((kids.take 0).filter vL).reverse=S from Wr _) (.brk (fs:=[.av (show decide ((0:Int)≤(0:Nat) - 1)=false from rfl)]) [(TP,.val (.int (-1)))])
 |succ j ih=>
  have e0:((j+1:Nat):Int) - 1=j:=by simp+arith
  have h1:decide ((0:Int)≤j)=true:=WA (Int.natCast_nonneg _);have h2:ag kids (j:Int)=some kids[j]:=de (List.getElem?_eq_getElem hj) (WD hk (by decide));have h4:S.length<16000000:=by exact WD (Nat.le_add_right _ _) hS
  have e1:((kids.take (j+1)).filter vL).reverse=((if vL kids[j]=true then [kids[j]] else []):List V)++((kids.take j).filter vL).reverse:=by
   refine aa List.take_add_one (aa (List.getElem?_eq_getElem hj) (aa (List.filter_append ..) (aa List.reverse_append ?_)));refine WJ (·++_) ?_;show (List.filter vL [kids[j]]).reverse=_;refine aa List.filter_cons ?_;split<;>rfl
  refine aa e0 (aa e1 ?_);refine bc (vL kids[j]) (λh3=> ?_) λh3=> ?_
  ·exact aa (WE h3) (fF (Wn ..) ((ih (Nat.le_of_lt hj) (S++[kids[j]]) (by rw [Wo];show _+1+_<_;exact lB hS)).b9 (fs:=[.av h1,.ag h2,.av h3,.ag h2,.lt h4]) []))
  ·refine aa (WG (by rw [h3];exact bK)) ?_;rw [List.nil_append];exact (ih (Nat.le_of_lt hj) S (Nat.lt_of_succ_lt hS)).b9 (fs:=[.av h1,.ag h2,.av h3]) []
theorem H4.le {h h':Nat}(p:H4 σ r h v)(hh:h≤h'):H4 σ r h' v:=λO S hS hO=>
 have e:=Nat.pow_le_pow_right (n:=4) (by decide) hh
 let ⟨ns,h2,h3,h4⟩:=p O S (by lia) (by lia)
 ⟨ns,h2,Nat.le_trans h3 e,h4⟩
theorem FT {h:Nat}(ks:List V):(∀x∈ks,H4 σ r h x)→ks.length≤3→ ∀(O S:List V),S.length+ks.length+4*h+4<16000000→O.length+ks.length*4^h<16000000→
  ∃ns,(∀x∈ns,lx x)∧ns.length≤ks.length*4^h∧PD σ r (O++ns) S O (S++ks.reverse):=by
 induction ks with
 |nil=>exact λZ Z O S Z Z=>⟨[],nofun,Nat.zero_le _,λo h=>by refine aa List.reverse_nil (aa (Wr ..) ?_);rw [Wr] at h;exact h⟩
 |cons x ks ih=>
  intro hks hl O S hS hO;rw [List.length_cons] at hl hS hO;rw [Nat.add_mul,Nat.one_mul] at hO;obtain ⟨n1,hn1,hl1,e1⟩:=hks x (.head _) O (S++ks.reverse) (by exact aa Wo (aa List.length_reverse (lB hS))) (lB hO);obtain ⟨n2,hn2,hl2,e2⟩:=ih (λy hy=>hks y (.tail _ hy)) (Nat.le_of_lt hl) (O++n1) S (lB hS) (by exact aa Wo (lD hO hl1));refine ⟨n1++n2,λy hy=>(List.mem_append.mp hy).elim (hn1 y) (hn2 y),by refine aa Wo (aa List.length_cons (aa (Nat.add_mul ..) (aa (Nat.one_mul ..) ?_)));lia,λo q=> ?_⟩;refine aa List.reverse_cons (fF (Wn ..) ?_);rw [←Wn] at q;exact e1 o (e2 o q)
theorem FU {h:Nat}(t:Pt h v):H4 σ r h v:=by
 induction t with
 | @name h a i n=>
  intro O S hS hO;have hl:O.length<16000000:=by exact WD (Nat.le_add_right _ _) hO
  exact ⟨[nd 8 a [] 0 i],λx hx=>⟨a,i,Wx hx,n⟩,Nat.one_le_pow _ _ (by decide),λo q=>q.b9 (fs:=[.lh (uX (S:=S) (lB hS) (nd 8 a [] 0 i)),.lt hl]) [(Tw,.val (nd 8 a [] 0 i))]⟩
 | @bind h a x y fl i p q ih=>
  intro O S hS hO;have hl:S.length<16000000:=by exact lB hS
  obtain ⟨ns,h4,h5,h6⟩:=ih.le (Nat.le_succ h) O S hS hO;exact ⟨ns,h4,h5,λo q=>(h6 o q).b9 (fs:=[.lh (uX (S:=S) (lB hS) (nd 36 a [x,y] fl i)),.lt hl]) [(Tw,.val (nd 36 a [x,y] fl i))]⟩
 | @Nf h k kids i hk t u l ih=>
  intro O S hS hO;have e4:4^(h+1)=4*4^h:=by exact aa (Nat.pow_succ ..) (aa (Nat.mul_comm ..) rfl)
  have hf:(kids.filter vL).length≤3:=Nat.le_trans (List.length_filter_le _ _) l;have hm:(kids.filter vL).length*4^h≤3*4^h:=Nat.mul_le_mul_right _ hf;have g:=Ol (σ:=σ) (r:=r) (O:=O) (i:=i) (k:=k) l kids.length (Nat.le_refl _) S (lD l hS);rw [List.take_length] at g;have e:=d9.iw (f:=SE) g;have hl:kids.length<16000000:=by exact WD l (by decide)
  have h0:cF .Sub (kids.length:Int) 1=some ((kids.length:Int) - 1):=rfl;obtain ⟨ns,h4,h5,h6⟩:=FT (kids.filter vL) (λx hx=>by obtain ⟨h1,h2⟩:=List.mem_filter.mp hx;exact ih x h1 h2) hf O S (lD hS hf) (by lia);refine ⟨ns,h4,by lia,λo q=> ?_⟩;have q:=h6 o q;have hp:=uX (S:=S) (lB hS) (nd k 0 kids 0 i);rcases hk with hk|hk
  ·subst hk;exact q.b9 (fs:=[.lh hp,.lt hl,.op h0,.eJ e]) [(Tw,.val (nd 34 0 kids 0 i))]
  ·subst hk;exact q.b9 (fs:=[.lh hp,.lt hl,.op h0,.eJ e]) [(Tw,.val (nd 35 0 kids 0 i))]
theorem xF {h:Nat}(t:Pt h v)(hh:h≤8)(σ:St): ∃O,(∀x∈O,lx x)∧O.length<100000∧aq SE [v] σ (.ok (.list O) σ):=by
 have e:=Nat.pow_le_pow_right (n:=4) (by decide) hh;obtain ⟨ns,hn,hl,q⟩:=FU (σ:=σ) (r:=v) t [] [] (by show 0+_+4<_;lia) (by show 0+_<_;exact lB e);have e2:=d9.iw (f:=SE) (q (.next (nE v ns [] []) σ) (.brk (fs:=[]) []));exact ⟨ns,hn,WD (Nat.le_trans hl e) (by decide),wk [.eJ e2]⟩
end
noncomputable def lM:List (Nat×N):=[(1,97),(1,98),(1,99),(1,V4),(5,91),(5,123)]
noncomputable def Fp:List (Nat×N):=[(1,97),(5,91),(2,Wl),(3,55),(4,7938168)]
noncomputable def N9:List (Nat×N):=lM++(5,V0)::Fp
inductive QQ (K:PK)(g:G)(ti:Bool)(k:Nat)(u:N):Prop
 |mk (l:Bool) (h:ag K.T (pos K g:Int)=some (jt k u (ln g) l)) (hr:ag K.T (ln g:Int)=some (jt k u (ln g) l)) (hp:pos K g=ln g) (h1:ti=true→g.pend=false→l=false) (h2:g.pend=true→l=true)
structure ir (g g':G)(ti:Bool)(k:Nat)(u:N):Prop where
 lk: ∀K,g.dead=false→W K g'→QQ K g ti k u
inductive MJ (g g':G)(ti:Bool)(L:List (Nat×N)):Prop
 |mk (k:Nat) (u:N) (f:ir g g' ti k u) (h:(k,u)∈L)
inductive PH (g g':G)(ti:Bool)(v:V):Prop
 |mk (k:Nat) (a:N) (kids:List V) (k':Nat) (u:N) (e:v=nd k a kids 0 (ln g)) (f:ir g g' ti k' u) (h:(k',u)∈lM) (hk:k=8∨k=34∨k=35)
structure vT (c:Nat)(ti:Bool)(g g':G)(v:V):Prop where
 aB:aq SU [sV,.int (c:Int),.bool ti] (aF g) (.ok v (aF g'))
 af:aV 0 1 g g'
 dd:g'.dead=g.dead
 cl:g.dead=false→Cl g'
 sh:PH g g' ti v
 nm:c=0→ ∃a,v=nd 8 a [] 0 (ln g)
 pt:Pt (2*c+1) v
 rd: ∀K d ai,g.dead=false→W K g'→Dp (2*c+3) d→ ∀k∈[(1:Int),2,10],aq Sr [P,.int k] (PS K d ai g) (.ok v (PS K d ai g'))
inductive MW (c:Nat)(ti:Bool)(g:G):Prop
 |mk (v:V) (g':G) (r:vT c ti g g' v)
noncomputable def jV (c:Nat):Prop:= ∀ti g,aj (6*c+2) g→MW c ti g
noncomputable def Ny (ar:Bool):N:=if ar=true then 93 else 125
noncomputable def Qy (ar:Bool):N:=if ar=true then Uc else Ud
noncomputable def Ro (ar:Bool):N:=if ar=true then Vt else Vj
structure MS (ar:Bool)(c:Nat)(g g':G)(v:V):Prop where
 aB:aq (Ro ar) [sV,.int (c:Int)] (aF g) (.ok v (aF g'))
 af:aV 0 11 g g'
 dd:g'.dead=g.dead
 cl:g.dead=false→Cl g'
 sh: ∃a x y fl,v=nd 36 a [x,y] fl (ln g)∧(fl=0∨fl=8192)
 pt:Pt (2*c+2) v
 fst:MJ g g' false N9
 rd: ∀K d,g.dead=false→W K g'→Nt K (pos K g') [(5,61),(5,58)]→Dp (2*c+4) d→aq (Qy ar) [P] (PS K d true g) (.ok v (PS K d true g'))
inductive Ef (ar:Bool)(c:Nat)(g:G):Prop
 |mk (v:V) (g':G) (r:MS ar c g g' v)
section
variable {g g2:G}{c n k a b:Nat}{ai l:Bool}{u:N}{v:V}{L:List (Nat×N)}
theorem xe (h:(k,u)∈L)(hm:L.all (λp=>lR F p.1 p.2)=true:=by rfl):lR F k u=true:=Wu hm _ h
theorem ir.nt (f:ir g g' ti k u)(hd:g.dead=false)(w:W K g')(h:(k,u)∈L)(hm:L.all (λp=>lR F p.1 p.2)=true:=by rfl):Nt K (pos K g) F:=
 by obtain ⟨_,q,_,_,_,_⟩:=f.lk K hd w;exact ⟨_,_,_,_,_,q,xe h hm⟩
theorem ir.to (f:ir g g1 ti k u)(s:aV a b g1 g'):ir g g' ti k u:=⟨λK hd w=>f.lk K hd (s.w w)⟩
theorem ir.nx (f:ir g.nx g' ti k u):ir g g' ti k u:=⟨λK hd w=>by obtain ⟨l,h,hr,hp,h1,h2⟩:=f.lk K hd w;exact ⟨l,h,hr,hp,h1,h2⟩⟩
theorem Tk.fst (o:Tk g g1 t ti k u)(s:aV a b g1 g')(hs:(k==5&&u==59)=false:=by rfl)(hx:lg t=false:=by rfl):ir g g' ti k u:=⟨λK hd w=>by obtain ⟨l,q,h1,h2⟩:=o.lk hd (s.w w) (.inl hs);exact ⟨l,q.bk,q.GP,q.pp,h1,λh=>h2 h hx⟩⟩
theorem vR.lt (h:vR t):t≠S0:=bne_iff_ne.mp (h.all (p:=λt=>t !=S0) rfl)
theorem vR.ex (h:vR t):lg t=false:=Bool.not_eq_true' _▸h.all (p:=λt=> !lg t) rfl
theorem vR.me (h:vR t):(1,t)∈lM:=List.contains_iff_mem.mp (h.all (p:=λt=>lM.contains (1,t)) rfl)
structure vO (w:Bool)(c:Nat)(g g':G)(v:V):Prop where
 aB:aq U5 [sV,.bool w,.int (c:Int)] (aF g) (.ok v (aF g'))
 af:aV 0 2 g g'
 dd:g'.dead=g.dead
 cl:g.dead=false→Cl g→Cl g'
 tr:aT (2*c+1) v
 no:w=false→v= .none∧g'=g
 bR:w=true→ ∃g1,Tk g g1 61 false 5 61∧vT c false g1 g' v
 rd: ∀K d ai,g.dead=false→W K g'→(w=false→Nt K (pos K g') [(5,61)])→Dp (2*c+3) d→aq Vy [P] (PS K d ai g) (.ok v (PS K d ai g'))
inductive MN (w:Bool)(c:Nat)(g:G):Prop
 |mk (v:V) (g':G) (r:vO w c g g' v)
theorem dm (PP:jV c)(w:Bool)(R:aj (6*c+3) g):MN w c g:=by
 cases w with
 |false=>exact ⟨.none,g,wk [],aV.refl.le,rfl,λZ h=>h,.none,λZ=>⟨rfl,rfl⟩,bK,λK d ai hd w h D=>wk [.call ((h rfl).pn Ss 61 d ai)]⟩
 |true=>
  obtain ⟨g1,o⟩:=cI R 61 false 5;obtain ⟨v,g',r⟩:=PP false g1 (R.sg o.af);refine ⟨v,g',wk [.call o.aB,.call r.aB],o.af.trans r.af,r.dd.trans o.dd,λhd Z=>r.cl (o.dd.trans hd),r.pt.aI,jN,λZ=>⟨g1,o,r⟩,λK d ai hd w h D=> ?_⟩;obtain ⟨l,q,_⟩:=o.lk hd (r.af.w w);exact wk [.call (q.cT d ai),.call (r.rd K d ai (o.dd.trans hd) w D 2 (.tail _ (.head _)))]
theorem NX (PP:jV c)(R:aj (6*c+4) g):Ef true c g:=by
 obtain ⟨r,hr⟩:=ee R 4;have R1:=R.sg hr.af;by_cases h1:r=1
 ·subst h1;obtain ⟨g1,o⟩:=cI R1 V0 false 5;have s1:=hr.af.trans o.af;obtain ⟨v,g',p⟩:=PP false g1 (R.sg s1).jy;obtain ⟨k,a,kids,k',u,e,_⟩:=p.sh;refine ⟨nd 36 0 [v,.none] 8192 (ln g),g',wk [.call hr.aB,.call o.aB,.call p.aB],(s1.trans p.af).le,p.dd.trans o.dd,λhd=>p.cl (o.dd.trans hd),⟨_,_,_,_,rfl,.inr rfl⟩,.bind p.pt .none,⟨_,_,(o.fst p.af).nx,.tail _ (.tail _ (.tail _ (.tail _ (.tail _ (.tail _ (.head _))))))⟩,λK d hd w Z D=> ?_⟩
  ·obtain ⟨l,q,_⟩:=o.lk hd (p.af.w w);exact wk [.ag q.bk,.call (q.cT d true),.call (p.rd K d true (o.dd.trans hd) w (D.le (Nat.le_succ _)) 10 (.tail _ (.tail _ (.head _))))]
 ·obtain ⟨v,g1,p⟩:=PP false g.nx R1.jy;obtain ⟨k,a,kids,k',u,e,f,hf,_⟩:=p.sh;subst e;have s1:=hr.af.trans p.af;obtain ⟨x,g',i⟩:=dm PP (decide ((r:Int)=2)) (R.sg s1);refine ⟨nd 36 0 [nd k a kids 0 (ln g),x] 0 (ln g),g',wk [.call hr.aB,.av (show decide ((r:Int)=1)=false from Wz λe=>h1 (Int.ofNat.inj e)),.call p.aB,.call i.aB],((s1.trans i.af).dW),i.dd.trans p.dd,λhd=>i.cl (p.dd.trans hd) (p.cl hd),⟨_,_,_,_,rfl,.inl rfl⟩,.bind p.pt i.tr,⟨_,_,(f.to i.af).nx,WC _ hf⟩,λK d hd w h D=> ?_⟩;have w1:=i.af.w w;obtain ⟨l,q,_⟩:=f.lk K hd w1;have n:=f.nt (F:=[(5,V0)]) hd w1 hf;exact wk [.ag q,.call (n.pn Ss V0 d true),.call (p.rd K d true hd w1 (D.le (Nat.le_succ _)) 10 (.tail _ (.tail _ (.head _)))),.call (i.rd K d true (p.dd.trans hd) w (λZ=>h.le) (D.le (Nat.le_succ _)))]
structure MR (g g':G)(x:N):Prop where
 aB:aq Vq [sV] (aF g) (.ok (.au [.str x,pv (ln g)]) (aF g'))
 af:aV 0 3 g g'
 dd:g'.dead=g.dead
 fst:MJ g g' false Fp
 rd: ∀K d,g.dead=false→W K g'→aq Tz [P] (PS K d true g) (.ok (.str x) (PS K d true g'))
inductive HZ (g:G):Prop
 |mk (x:N) (g':G) (r:MR g g' x)
theorem vJ (hT:K.T.length<16000000)(q:PQ)(h:ag K.T ((n+m:Nat):Int)=some v):aq TF [P,.int (m:Int)] (aP K n q) (.ok v (aP K n q)):=by
 have h1:decide ((K.T.length:Int)≤(n:Int)+m)=false:=Wz λh2=>by
  unfold ag at h;rw [WE (Int.natCast_nonneg _)] at h;refine ey h λh3 h4=> ?_;have:=(List.getElem?_eq_some_iff.mp h4).1;lia
 exact wk [.lt hT,.av h1,.ag h]
theorem jI {x:N}(R:aj n g)(hk:(k,u)∈Fp)(h: ∃g1,Tk g g1 t false k u)(hs:(k==5&&u==59)=false)(hx:lg t=false)(hg: ∀g1,Tk g g1 t false k u→aq Vq [sV] (aF g) (.ok (.au [.str u,pv (ln g)]) (aF g1)))
  (hr: ∀K d g1 l,Lk K g g1 k u l→aq Tz [P] (PS K d true g) (.ok (.str u) (PS K d true g1))):HZ g:=by
 obtain ⟨g1,o⟩:=h;refine ⟨u,g1,hg g1 o,o.af.le,o.dd,⟨k,u,o.fst .refl hs hx,hk⟩,λK d hd w=> ?_⟩;obtain ⟨l,q,_⟩:=o.lk hd w (.inl hs);exact hr K d g1 l q
theorem iu (R:aj (n+1) g):HZ g:=by
 have pk: ∀(i:Nat) (v:V),ln g%5=i→ag [.str 97,.str Wl,.str Wb,.str 55,.str 91] (i:Int)=some v→ag [.str 97,.str Wl,.str Wb,.str 55,.str 91] ((ln g:Int)%5)=some v:=λi v h h2=>by subst h;exact h2
 rcases d5 (Nat.mod_lt (ln g) (by decide)) with h|h|h|h|h
 ·exact jI (x:=0) R (.head _) (cI R 97 false 1) rfl rfl (λg1 o=>wk [.lt R.tk,.ag (pk 0 _ h rfl),.call o.aB]) λK d g1 l q=>wk [.ag q.bk,.call (q.aE d true)]
 ·exact jI (x:=0) R (.tail _ (.tail _ (.head _))) (cI R Wl false 2) rfl rfl (λg1 o=>wk [.lt R.tk,.ag (pk 1 _ h rfl),.call o.aB]) λK d g1 l q=>wk [.ag q.bk,.call (q.aE d true)]
 ·exact jI (x:=0) (t:=Wb) (u:=7938168) R (.tail _ (.tail _ (.tail _ (.tail _ (.head _))))) (Mp R false rfl) rfl rfl (λg1 o=>wk [.lt R.tk,.ag (pk 2 _ h rfl),.call o.aB]) λK d g1 l q=>wk [.ag q.bk,.call (q.aE d true)]
 ·exact jI (x:=0) R (.tail _ (.tail _ (.tail _ (.head _)))) (cI R 55 false 3) rfl rfl (λg1 o=>wk [.lt R.tk,.ag (pk 3 _ h rfl),.call o.aB]) λK d g1 l q=>wk [.ag q.bk,.call (q.aE d true)]
 ·obtain ⟨g1,o1⟩:=cI R 91 false 5;obtain ⟨g2,o2⟩:=Mp (R.sg o1.af) (t:=27431) (k:=4) false rfl;have s2:=o1.af.trans o2.af;obtain ⟨g3,o3⟩:=cI (R.sg s2) 93 false 5;refine ⟨107,g3,wk [.lt R.tk,.ag (pk 4 (.str 91) h rfl),.call o1.aB,.call o2.aB,.call o3.aB],s2.trans o3.af,(o3.dd.trans o2.dd).trans o1.dd,⟨5,91,o1.fst (o2.af.trans o3.af),.tail _ (.head _)⟩,λK d hd w=> ?_⟩;have hd1:=o1.dd.trans hd;have w2:=o3.af.w w;obtain ⟨l1,q1,_⟩:=o1.lk hd (o2.af.w w2);obtain ⟨l2,q2,_⟩:=o2.lk hd1 w2;obtain ⟨l3,q3,_⟩:=o3.lk (o2.dd.trans hd1) w;have a1:=vJ (m:=1) w.lt (pq g d true) (q1.p1▸q2.bk);have a2:=vJ (m:=2) w.lt (pq g d true) (show ag K.T ((pos K g+1+1:Nat):Int)=_ from q1.p1▸q2.p1▸q3.bk);exact wk [.ag q1.bk,.ag q1.bk,.call a1,.call a2,.call (q1.aE d true),.call (q2.aE d true),.call (q3.aE d true)]
theorem Jg (PP:jV c)(R:aj (6*c+4) g):Ef false c g:=by
 obtain ⟨r,hr⟩:=ee R 6;have R1:=R.sg hr.af;by_cases h0:r=0
 ·subst h0;obtain ⟨g1,o⟩:=cI R1 V0 false 5;have s1:=hr.af.trans o.af;obtain ⟨t,g2,ht,o2,e2⟩:=uP (R.sg s1) false;refine ⟨nd 36 0 [nd 8 t [] 0 (ln g1),.none] 8192 (ln g),g2,wk [.call hr.aB,.call o.aB,.call e2],(s1.trans o2.af).le,o2.dd.trans o.dd,λhd=>o2.cl (o.dd.trans hd),⟨_,_,_,_,rfl,.inr rfl⟩,.bind (.name ?_) .none,⟨_,_,(o.fst o2.af).nx,.tail _ (.tail _ (.tail _ (.tail _ (.tail _ (.tail _ (.head _))))))⟩,λK d hd w Z D=> ?_⟩
  ·exact ht.lt
  ·obtain ⟨l,q,_⟩:=o.lk hd (o2.af.w w);obtain ⟨l2,q2,_⟩:=o2.lk (o.dd.trans hd) w;exact wk [.ag q.bk,.call (q.cT d true),.ag q2.bk,.ag q2.bk,.call (q2.aE d true)]
 have t0:decide ((r:Int)=0)=false:=Wz λe=>h0 (Int.ofNat.inj e);by_cases h3:r<3
 ·have t3:decide ((r:Int)<3)=true:=WA (Int.ofNat_lt.mpr h3);obtain ⟨t,g1,ht,o,e2⟩:=uP R1 false;have s1:=hr.af.trans o.af;obtain ⟨x,g',i⟩:=dm PP (decide ((r:Int)=2)) (R.sg s1);have hm:=ht.me;have f:ir g.nx g1 false 1 t:=o.fst .refl rfl ht.ex;refine ⟨nd 36 t [nd 8 t [] 0 (ln g),x] 0 (ln g),g',wk [.call hr.aB,.av t0,.av t3,.call e2,.call i.aB],(s1.trans i.af).dW,i.dd.trans o.dd,λhd=>i.cl (o.dd.trans hd) (o.cl hd),⟨_,_,_,_,rfl,.inl rfl⟩,.bind (.name ?_) i.tr,⟨_,_,(f.to i.af).nx,WC _ hm⟩,λK d hd w h D=> ?_⟩
  ·exact ht.lt
  ·have w1:=i.af.w w;obtain ⟨l,q,_⟩:=o.lk hd w1;have n:=f.nt (F:=[(5,V0)]) hd w1 hm;have n2:Nt K (pos K g1) [(5,58)]:=bc (decide ((r:Int)=2)) (λe=>by obtain ⟨_,o2,r2⟩:=i.bR e;exact (o2.fst r2.af).nt (L:=[(5,61)]) (o.dd.trans hd) w (.head _)) λe=>by exact fF ((i.no e).2) h.le
   exact wk [.ag q.bk,.call (n.pn Ss V0 d true),.ag q.bk,.call (q.aE d true),.call (n2.pn Sv 58 d true),.call (i.rd K d true (o.dd.trans hd) w (λZ=>h.le) (D.le (Nat.le_succ _)))]
 ·have t3:decide ((r:Int)<3)=false:=Wz (by exact_mod_cast h3);obtain ⟨x,g1,y⟩:=iu R1;have s1:=hr.af.trans y.af;obtain ⟨g2,o⟩:=cI (R.sg s1) 58 false 5;have s2:=s1.trans o.af;obtain ⟨v,g3,p⟩:=PP false g2 (R.sg s2).jy;obtain ⟨k,a,kids,k',u,e,_⟩:=p.sh;subst e;have s3:=s2.trans p.af;obtain ⟨z,g',i⟩:=dm PP (decide ((r:Int)=5)) (R.sg s3);obtain ⟨k2,u2,f,hf⟩:=y.fst;refine ⟨nd 36 x [nd k a kids 0 (ln g2),z] 0 (ln g),g',wk [.call hr.aB,.av t0,.av t3,.call y.aB,.call o.aB,.call p.aB,.call i.aB],(s3.trans i.af).dW,((i.dd.trans p.dd).trans o.dd).trans y.dd,λhd=>i.cl (p.dd.trans (o.dd.trans (y.dd.trans hd))) (p.cl (o.dd.trans (y.dd.trans hd))),⟨_,_,_,_,rfl,.inl rfl⟩,.bind p.pt i.tr,⟨_,_,(f.to ((o.af.trans p.af).trans i.af)).nx,WB _ (.tail _ hf)⟩,λK d hd w h D=> ?_⟩;have hd1:=y.dd.trans hd;have hd2:=o.dd.trans hd1;have w3:=i.af.w w;have w2:=p.af.w w3;have w1:=o.af.w w2;obtain ⟨l,q,_⟩:=o.lk hd1 w2;obtain ⟨l2,q2,_⟩:=f.lk K hd w1;have n:=f.nt (F:=[(5,V0)]) hd w1 hf;refine bc (!decide ((k2:Int)=1)) (λe=> ?_) λe=> ?_
  ·exact wk [.ag q2,.call (n.pn Ss V0 d true),.call (y.rd K d hd w1),.av e,.call (q.cT d true),.call (p.rd K d true hd2 w3 (D.le (Nat.le_succ _)) 10 (.tail _ (.tail _ (.head _)))),.call (i.rd K d true (p.dd.trans hd2) w (λZ=>h.le) (D.le (Nat.le_succ _)))]
  ·exact wk [.ag q2,.call (n.pn Ss V0 d true),.call (y.rd K d hd w1),.av e,.ag q.bk,.call (q.cT d true),.call (p.rd K d true hd2 w3 (D.le (Nat.le_succ _)) 10 (.tail _ (.tail _ (.head _)))),.call (i.rd K d true (p.dd.trans hd2) w (λZ=>h.le) (D.le (Nat.le_succ _)))]
end
noncomputable def Hz (c:Nat)(ti:Bool)(hw:Nat)(a:V)(ks:List V)(cn:Nat)(ex:ao):ao:=(115,.val sV)::(Vf,.val (.int ((c+1:Nat):Int)))::(499967814004,.val (.bool ti))::(7827304,.val (.int (hw:Int)))::(TP,.val a)::(Wk,.own ks)::(V6,.val (.int (cn:Int)))::ex
noncomputable def gL:Stmt:=eS SU 5
noncomputable def QD (c:Nat):Sx:=qG SU (.none,.none) (.int ((c+1:Nat):Int))
inductive zi (i cn j fl:Nat)(g:G):G→Prop
 |no (h:cn≤i+1):zi i cn j fl g g
 |bR {g2} (o:Tk g g2 44 false 5 44):zi i cn j fl g (if fl=8192 then g2.dP 1014 j else g2)
noncomputable def PM (ar:Bool):N:=if ar=true then Ti else Tc
noncomputable def Ox (a:V)(al:Bool)(ks:List V)(ex:ao):ao:=(112,.val P)::(TP,.val a)::(V1,.val (.bool al))::(495606196578,.own ks)::ex
noncomputable def PL (ar:Bool):Stmt:=eS (PM ar) 4
noncomputable def Si (ar:Bool)(d:Int):Sx:=qG (PM ar) (.int d,.none) .none
noncomputable def Hq (ar:Bool)(d:Int)(a:V)(al:Bool)(ks:List V)(σ:St)(o:SO):Prop:=d9 (Si ar d) (eD (PL ar)) (dK (PL ar)) (Ox a al ks []) σ o
section
variable {g g2:G}{c n k i j fl:Nat}{ai l:Bool}{u:N}{v a x:V}{ks:List V}{ex:ao}
theorem ck:aV 0 2000 g (g.dP m j):=kW
theorem eT:(g.dP m j).dead=g.dead:=Ck
theorem Hg (h:Cl g):Cl (g.dP m j):=by unfold G.dP G.ez;split<;>exact h
theorem zM (hd:g.dead=false){c:Int}{ws:List V}:PS K d ai (g.ez c (pv j) ws)=aP K (pos K g) {pq g d ai with rows:=(pq g d ai).rows++[.aO UO [.int c,pv j,.au ws,.str 0]]}:=by
 refine aa (gJ hd) ?_;unfold PS pq;exact aa List.map_append rfl
theorem Jc (hd:g.dead=false)(h:g.told.length<16000000)(c:Int)(j:Nat)(ws:List V)(d:Int)(ai:Bool):aq U6 [.obj 4,.int c,pv j,.au ws] (PS K d ai g) (.ok .none (PS K d ai (g.ez c (pv j) ws))):=
 (wk [.lt (show (g.told.map bW).length<16000000 by exact aa (Wq ..) h)]).to (zM hd)
theorem zi.dd (h:zi i cn j fl g g3):g3.dead=g.dead:=by
 cases h with
 |no=>rfl
 |bR o=>split;exact eT.trans o.dd;exact o.dd
theorem zi.af (h:zi i cn j fl g g3):aV 0 2001 g g3:=by
 cases h with
 |no=>exact aV.refl.le
 |bR o=>split;exact (o.af.trans ck).le;exact o.af.le
theorem zi.cl (h:zi i cn j fl g g3)(hd:g.dead=false)(q:Cl g):Cl g3:=by
 cases h with
 |no=>exact q
 |bR o=>split;exact Hg (o.cl hd);exact o.cl hd
theorem I5 {y:V}{b:N}(R:aj (n+1) g)(hf:fl=0∨fl=8192): ∃g3,eO SU (HQ gL 3) (Hz c ti hw a ks cn [(Wh,.val (.int (i:Int))),(6580587,.val (nd 36 b [x,y] fl j))]) (aF g) (.next (Hz c ti hw a ks cn [(Wh,.val (.int (i:Int))),(6580587,.val (nd 36 b [x,y] fl j))]) (aF g3))∧zi i cn j fl g g3:=by
 obtain ⟨g2,o⟩:=cI R 44 false 5;have h:=ez (R.sg o.af) 1014 j [];obtain ⟨b5,h5⟩:=ue R 5;refine bc (decide ((i:Int)<(cn:Int) - 1)) (λh1=> ?_) λh1=> ?_
 ·refine ⟨_,?_,.bR o⟩;rcases hf with e|e<;>subst e
  ·exact cD [.av h1,.call o.aB]
  ·exact cD [.av h1,.call o.aB,.call h]
 ·cases b5 with
  |true=>
   refine ⟨_,?_,.bR o⟩;rcases hf with e|e<;>subst e
   ·exact cD [.av h1,.call h5,.call o.aB]
   ·exact cD [.av h1,.call h5,.call o.aB,.call h]
  |false=>exact ⟨_,cD [.av h1,.call h5],.no (by have:=of_decide_eq_false h1;lia)⟩
end
section
variable {g g2:G}{c n k i j fl:Nat}{ai l:Bool}{u:N}{v a x y:V}{ks:List V}{o:SO}{b:N}
theorem pI (h:ks.length<1000):ag (ks++[v]) (-1)=some v:=by
 unfold ag;refine aa (WG (by decide)) (aa (WE ⟨by rw [Wo];show - -1≤((_+1:Nat):Int);simp+arith,by decide⟩) ?_);refine aa (show (((ks++[v]).length:Int)+(-1:Int)).toNat=ks.length by rw [Wo];show (((_+1:Nat):Int)+ -1).toNat=_;simp+arith) ?_;exact aa (List.getElem?_append_right (Nat.le_refl _)) (aa (Nat.sub_self ..) rfl)
theorem Gr (h:Hq true d a al (ks++[.none]) (PS K d true g1) o)(hk:ks.length<16000000)(q:Lk K g g1 5 44 l):Hq true d a al ks (PS K d true g) o:=
 h.ew (fs:=[.ag q.bk,.call (q.cT d true),.lt hk]) []
theorem Kv (hv:v=nd 36 b [x,y] fl j)(hf:fl=0∨fl=8192)(hd:g1.dead=false)(w:W K g3)(ht:g1.told.length<16000000)(C:zi i cn j fl g1 g3)(hk:ks.length<1000)(n:Nt K (pos K g) [(5,44),(5,93),(5,125)])
  (hr:Nt K (pos K g1) [(5,61),(5,58)]→aq (Qy ar) [P] (PS K d true g) (.ok v (PS K d true g1))) (he:cn≤i+1→g3=g1→Nt K (pos K g1) [(5,44),(5,61),(5,58)]):
   (g3=g1∧cn≤i+1∧Hq ar d a al ks (PS K d true g) (.next (Ox a al (ks++[v]) []) (PS K d true g1)))∨ ∀o,Hq ar d a al (ks++[v]) (PS K d true g3) o→Hq ar d a al ks (PS K d true g) o:=by
 subst hv;have hk1:ks.length<16000000:=by exact Nat.lt_trans hk (by decide)
 have hl:=pI (v:=nd 36 b [x,y] fl j) hk;cases C with
 |no h=>
  have n1:=he h rfl;have hr:=hr n1.le;cases ar with
  |true=>exact .inl ⟨rfl,h,.brk (fs:=[.call (n.pn Sv 93 d true),.call (n.pn Ss 44 d true),.call hr,.lt hk1,.call (n1.pn Ss 44 d true)]) [(1684957538,.val (nd 36 b [x,y] fl j))] (by kernel_rfl)⟩
  |false=>exact .inl ⟨rfl,h,.brk (fs:=[.call (n.pn Sv 125 d true),.call hr,.lt hk1,.call (n1.pn Ss 44 d true)]) [] (by kernel_rfl)⟩
 | @bR g2 q=>
  have w2:W K g2:=by
   revert w;split
   ·exact ck.w
   ·exact id
  obtain ⟨l,q2,_⟩:=q.lk hd w2;have hd2:=q.dd.trans hd;have hr:=hr q2.nt;have ht2:g2.told.length<16000000:=by obtain ⟨l,e,_⟩:=q.st;exact aa e (aa (dh hd) ht)
  have D:=Jc (K:=K) hd2 ht2 1014 j [] d true;rcases hf with e|e<;>subst e
  ·cases ar with
   |true=>exact .inr λo h=>h.b9 (fs:=[.call (n.pn Sv 93 d true),.call (n.pn Ss 44 d true),.call hr,.lt hk1,.call (q2.cT d true)]) [(1684957538,.val (nd 36 b [x,y] 0 j))] (by kernel_rfl)
   |false=>exact .inr λo h=>h.b9 (fs:=[.call (n.pn Sv 125 d true),.call hr,.lt hk1,.call (q2.cT d true),.ag hl]) [] (by kernel_rfl)
  ·cases ar with
   |true=>exact .inr λo h=>h.b9 (fs:=[.call (n.pn Sv 93 d true),.call (n.pn Ss 44 d true),.call hr,.lt hk1,.call (q2.cT d true),.call D]) [(1684957538,.val (nd 36 b [x,y] 8192 j))] (by kernel_rfl)
   |false=>exact .inr λo h=>h.b9 (fs:=[.call (n.pn Sv 125 d true),.call hr,.lt hk1,.call (q2.cT d true),.ag hl,.call D]) [] (by kernel_rfl)
noncomputable def CD (c:Nat)(x:V):Prop:=(vL x=true→Pt (2*c+2) x)∧aT (2*c+2) x
structure QU (n:Nat)(ar:Bool)(c:Nat)(g g':G)(ks ks':List V):Prop where
 af:aV 0 (2012*n) g g'
 dd:g'.dead=g.dead
 cl:g.dead=false→Cl g→Cl g'
 len:ks'.length=ks.length+n
 z:n=0→g'=g∧ks'=ks
 kids:(∀x∈ks,CD c x)→ ∀x∈ks',CD c x
 rd: ∀K d a al,g.dead=false→W K g'→Dp (2*c+4) d→(∃gc l,Lk K g' gc 5 (Ny ar) l)→Hq ar d a al ks (PS K d true g) (.next (Ox a al ks' []) (PS K d true g'))
theorem kA {p:V→Prop}(h: ∀x∈ks,p x)(hv:p v): ∀x∈ks++[v],p x:=λx hx=>(List.mem_append.mp hx).elim (h x) λh=>Wx h▸hv
inductive H2 (n:Nat)(ar:Bool)(c:Nat)(ti:Bool)(hw:Nat)(a:V)(cn i:Nat)(g:G)(ks:List V):Prop
 |mk (ks':List V) (g':G) (h:eN (QD c) (λZ Z=>some (aX (cn:Int))) Wh (dK gL) n i (Hz c ti hw a ks cn []) (aF g) (.next (Hz c ti hw a ks' cn []) (aF g'))) (r:QU n ar c g g' ks ks')
theorem kids (PP:jV c)(hc:c<50)(hw6:decide ((hw:Int)<6)=ar)(hcn:cn≤3)(n:Nat): ∀i g ks,i+n=cn→ks.length=i→aj (6*c+4+n) g→H2 n ar c ti hw a cn i g ks:=by
 induction n with
 |zero=>
  intro i g ks hi hl R;exact ⟨ks,g,.done rfl (by unfold aX;exact aa (Wq ..) (aa List.length_range hi.symm)),aV.refl,rfl,λZ h=>h,rfl,λZ=>⟨rfl,rfl⟩,λh=>h,λK d a al hd w D ⟨gc,l,q⟩=>by
   clear hw6;cases ar<;>exact d9.brk (fs:=[.ag q.bk]) []⟩
 |succ n ih=>
  intro i g ks hi hl R;have hv:(aX (cn:Int))[i]? =some (.int (i:Int)):=by
   unfold aX;exact aa (List.getElem?_map) (aa (List.getElem?_range (by show i<cn;exact lS hi)) rfl)
  have hk:ks.length<16000000:=by lia
  have hk3:ks.length<1000:=by lia
  have hd1:cF .Sub ((c+1:Nat):Int) 1=some (c:Int):=WJ some (by simp+arith);obtain ⟨b4,h4⟩:=ue R 4;by_cases hole:ar=true∧b4=true
  ·obtain ⟨e1,e2⟩:=hole;subst e1 e2;obtain ⟨g1,o⟩:=cI R 44 false 5;obtain ⟨ks',g',hF,r⟩:=ih (i+1) g1 (ks++[.none]) (lE hi) (by exact aa Wo (aa hl rfl)) (R.sg o.af);refine ⟨ks',g',hF.ew (fs:=[.av hw6,.call h4,.lt hk,.call o.aB]) rfl hv [(Wh,.val (.int (i:Int)))],(o.af.trans r.af).dW,r.dd.trans o.dd,λhd Z=>r.cl (o.dd.trans hd) (o.cl hd),by refine aa r.len (aa Wo ?_);show _+1+_=_;simp+arith,nofun,λh=>r.kids (kA h ⟨bK,.none⟩),λK d a al hd w D q=> ?_⟩;obtain ⟨l,q1,_⟩:=o.lk hd (r.af.w w);exact Gr (r.rd K d a al (o.dd.trans hd) w D q) hk q1
  ·obtain ⟨v,g1,p⟩:Ef ar c g:=by
    cases ar with
    |true=>exact NX PP (R.aw)
    |false=>exact Jg PP (R.aw)
   obtain ⟨b,x,y,fl,e,hf⟩:=p.sh;subst e;obtain ⟨g2,hS,hC⟩:=I5 (c:=c) (ti:=ti) (hw:=hw) (a:=a) (ks:=ks++[nd 36 b [x,y] fl (ln g)]) (cn:=cn) (i:=i) (x:=x) (y:=y) (b:=b) (j:=ln g) ((R.aw (by simp+arith:6*c+n+1+1≤_)).sg p.af) hf;have s2:=p.af.trans hC.af;obtain ⟨ks',g',hF,r⟩:=ih (i+1) g2 (ks++[nd 36 b [x,y] fl (ln g)]) (lE hi) (by exact aa Wo (aa hl rfl)) (R.sg s2);refine ⟨ks',g',?_,(s2.trans r.af).dW,(r.dd.trans hC.dd).trans p.dd,λhd Z=>r.cl ((hC.dd.trans p.dd).trans hd) (hC.cl (p.dd.trans hd) (p.cl hd)),by refine aa r.len (aa Wo ?_);show _+1+_=_;simp+arith,nofun,λh=>r.kids (kA h ⟨λZ=>p.pt,p.pt.aI⟩),λK d a al hd w D q=> ?_⟩
   ·cases ar with
    |true=>
     have e:b4=false:=Bool.eq_false_iff.mpr λe=>hole ⟨rfl,e⟩;subst e;exact hF.b9 (fs:=[.av hw6,.call h4,.av (b:=false) rfl,.av (b:=false) rfl,.av hw6,.op hd1,.call p.aB,.lt hk,.ifs hS]) rfl hv [(Wh,.val (.int (i:Int))),(6580587,.val (nd 36 b [x,y] fl (ln g)))]
    |false=>exact hF.b9 (fs:=[.av hw6,.av (b:=false) rfl,.av hw6,.op hd1,.call p.aB,.lt hk,.ifs hS]) rfl hv [(Wh,.val (.int (i:Int))),(6580587,.val (nd 36 b [x,y] fl (ln g)))]
   ·have w2:=r.af.w w;have hd1:=p.dd.trans hd;obtain ⟨k,u,f,hf2⟩:=p.fst;have h2:=Kv (al:=al) (a:=a) rfl hf hd1 w2 ((R.aw (Nat.succ_pos _:1≤_)).sg p.af).td hC hk3 (f.nt hd (hC.af.w w2) hf2) (λn=>p.rd K d hd (hC.af.w w2) n D) λh e=>by
     obtain ⟨gc,l,q⟩:=q;rw [(r.z (by lia)).1,e] at q;exact q.nt (by cases ar<;>rfl)
    rcases h2 with ⟨e,h3,h4⟩|h2
    ·obtain ⟨e1,e2⟩:=r.z (by lia);exact aa e1 (aa e2 (aa e h4))
    ·exact h2 _ (r.rd K d a al (hC.dd.trans hd1) w D q)
end
section
variable {g g2:G}{c n k i j fl:Nat}{ai l:Bool}{u:N}{v a x y:V}
theorem kC (q:Lk K g g1 1 t l)(d:Int)(ai:Bool):aq SG [.aO SD [],P] (PS K d ai g) (.ok (nd 8 t [] 0 (ln g)) (PS K d ai g1)):=wk [.ag q.bk,.ag q.bk,.ag q.bk,.ag q.bk,.call (q.aE d ai)]
theorem Jy (h:c<50)(f:N)(hf:(f==SU||f==Sy)=true)(v:List V)(σ:St)(hw:LN f v= .int (c:Int)):vN f v σ:=by
 have hn:(f==Sr||f==SA)=false:=by
  rcases Wt hf with h|h<;>obtain rfl:=beq_iff_eq.mp h<;>rfl
 obtain ⟨h1,h2⟩:=Bool.or_eq_false_iff.mp hn;exact ⟨λe=>WK e (beq_eq_false_iff_ne.mp h1),λZ=>⟨c,hw,by exact Int.natCast_nonneg _,by lia⟩,λe=>WK e (beq_eq_false_iff_ne.mp h2)⟩
theorem kG (r:Nat):r=0∧zx r=0∨r≠0∧zx r=3050:=by cases r with|zero=>exact .inl ⟨rfl,rfl⟩|succ r=>exact .inr ⟨nofun,rfl⟩
theorem E9 (h:cn<4)(T:(ao→St→Option (List V))→N→Nat→ao→St→List aD→TS):i5 (lv 40) (QD c) T (oo gL) (eD gL) (Hz c ti hw a [] cn []) (aF g) []=(T (λZ Z=>some (aX (cn:Int))) Wh cn (Hz c ti hw a [] cn []) (aF g) []).pre []:=by
 rcases d4 h with h|h|h|h<;>subst h<;>kernel_rfl
theorem Gv:jV 0:=λti g R=>by
 obtain ⟨t,g1,ht,o,e⟩:=uP R ti;refine ⟨nd 8 t [] 0 (ln g),g1,iV [.call e] (Jy (c:=0) (by decide) _ rfl _ _ (by kernel_rfl)),o.af,o.dd,o.cl,⟨8,t,[],1,t,rfl,o.fst .refl rfl ht.ex,ht.me,.inl rfl⟩,λZ=>⟨t,rfl⟩,.name ht.lt,λK d ai hd w D k hk=> ?_⟩;obtain ⟨l,q,_⟩:=o.lk hd w;exact e8 D (kC q (d+1) ai) (.nd (h:=0) trivial) (by decide) hk
theorem KC (PP:jV c)(hc:c<48):jV (c+1):=λti g R=>by
 have G:=Jy (c:=c+1) (WD hc (by decide)) SU rfl [sV,.int ((c+1:Nat):Int),.bool ti] (aF g) (by kernel_rfl);have h0:decide ((0:Int)<((c+1:Nat):Int))=true:=WA (by simp+arith);obtain ⟨r,hr⟩:=ee R 8;have R1:=R.sg hr.af;by_cases h4:r<4
 ·obtain ⟨t,g1,ht,o,e⟩:=uP R1 ti;refine ⟨nd 8 t [] 0 (ln g),g1,iV [.av h0,.call hr.aB,.av (show decide ((r:Int)<4)=true from WA (Int.ofNat_lt.mpr h4)),.call e] G,(hr.af.trans o.af).dW (Nat.succ_pos _),o.dd,o.cl,⟨8,t,[],1,t,rfl,(o.fst .refl rfl ht.ex).nx,ht.me,.inl rfl⟩,nofun,.name ht.lt,λK d ai hd w D k hk=> ?_⟩;obtain ⟨l,q,_⟩:=o.lk hd w;exact e8 (g:=g) (D.le (Nat.succ_pos _:0+1≤_)) (kC q (d+1) ai) (.nd (h:=0) trivial) (by decide) hk
 ·have t4:decide ((r:Int)<4)=false:=Wz (by exact_mod_cast h4);obtain ⟨ar,h6⟩: ∃ar,decide ((r:Int)<6)=ar:=⟨_,rfl⟩;have opn: ∃g1,Tk g.nx g1 (if ar=true then 91 else 123) ti 5 (if ar=true then 91 else 123):=by
   clear h6;cases ar with
   |true=>exact cI R1 91 ti 5
   |false=>exact cI R1 123 ti 5
  obtain ⟨g1,o⟩:=opn;have s1:=hr.af.trans o.af;obtain ⟨cn,hn⟩:=ee (R.sg s1) 4;have s2:=s1.trans hn.af;obtain ⟨ks,g2,hF,y⟩:=kids (c:=c) (ti:=ti) (hw:=r) (a:=pv (ln g)) PP (Nat.lt_trans hc (by decide)) h6 (Nat.le_of_lt_succ hn.lt) cn 0 g1.nx [] (Nat.zero_add _) rfl ((R.sg s2 (Nat.ble_eq_true_of_le (Nat.succ_pos _))).aw (by have:=hn.lt;exact lB this));have s3:=s2.trans y.af;have hp:=kG cn;have hp2:=kG r;have hlt:=hn.lt;have cls: ∃g',Tk g2 g' (Ny ar) false 5 (Ny ar):=by
   have R2:aj 1 g2:=(R.aw (by simp+arith:2≤_)).sg s3 (Nat.ble_eq_true_of_le (by lia));clear h6 hF y s3;cases ar with
   |true=>exact cI R2 93 false 5
   |false=>exact cI R2 125 false 5
  obtain ⟨g',o2⟩:=cls;have hF:=eN.iw (f:=SU) (st:=gL) (fs0:=[]) (fs1:=[]) (k0:=[]) hF (E9 hn.lt);have ks1:=y.kids nofun;refine ⟨nd (if ar=true then 35 else 34) 0 ks 0 (ln g),g',?_,(s3.trans o2.af).dW (by lia),(o2.dd.trans y.dd).trans o.dd,λhd=>o2.cl (y.dd.trans (o.dd.trans hd)),⟨_,_,_,5,_,rfl,(o.fst ((hn.af.trans y.af).trans o2.af) (by cases ar<;>rfl) (by cases ar<;>rfl)).nx,by cases ar<;>decide,by cases ar<;>decide⟩,nofun,.Nf (by cases ar<;>decide) (λx h=>(ks1 x h).1) (λx h=>(ks1 x h).2) (by refine aa y.len ?_;show 0+cn≤3;lia),λK d ai hd w D k hk=> ?_⟩
  ·cases ar<;>exact iV [.av h0,.call hr.aB,.av t4,.av h6,.call o.aB,.call hn.aB,.eJ hF,.av h6,.call o2.aB,.av h6] G
  ·have w2:=o2.af.w w;have w1:=hn.af.w (y.af.w w2);have hd1:=o.dd.trans hd;obtain ⟨l1,q1,_⟩:=o.lk hd w1 (.inl (by cases ar<;>rfl));obtain ⟨l2,q2,_⟩:=o2.lk (y.dd.trans hd1) w (.inl (by cases ar<;>rfl));have hW:=y.rd K (d+1) (pv (ln g)) ai hd1 w2 (D.up) ⟨g',l2,q2⟩;refine e8 (g:=g) (m:=2*c+4) D ?_ (.node (h:=2*c+2) (λx h=>(ks1 x h).2) (by refine aa y.len ?_;show 0+cn≤8;exact lB hlt)) (by lia) hk;cases ar with
   |true=>
    have hW:=d9.iw (f:=Ti) hW;exact wk [.ag q1.bk,.ag q1.bk,.ag q1.bk,.call (q1.aE (d+1) ai),.eJ hW,.call (q2.cT (d+1) true)]
   |false=>
    have hW:=d9.iw (f:=Tc) hW;exact wk [.ag q1.bk,.ag q1.bk,.call (q1.aE (d+1) ai),.eJ hW,.call (q2.cT (d+1) true)]
theorem Gw:jV 1:=KC Gv (by decide)
theorem Oz:jV 2:=KC Gw (by decide)
end
structure DI where
 iB:Bool
 kn:Bool
 dm:Bool
 nm:Bool
 j:Nat
noncomputable def Ei (b:Bool)(v:V):Prop:=if b=true then∃k a l j,v=nd k a l 0 j else v= .none
inductive rK (D:DI):V→Prop
 |mk {kt:Nat} {ta tk kd i} (h:decide ((kt:Int)=8)=D.nm) (hk:Ei D.kn kd) (hi:Ei D.dm i):rK D (nd 42 0 [nd kt ta tk 0 D.j,kd,i] (if D.iB=true then 2097152 else 0) D.j)
noncomputable def G.cU (b:Bool)(n:Int)(j:Nat)(g:G):G:=if b=true then g.dP n j else g
noncomputable def G.ou (g:G)(D:DI)(late:Bool):G:=if (D.iB&&D.dm)=true then g.dP 1263 D.j else if (D.iB&& !D.kn)=true then g.dP 1264 D.j else g.cU (D.iB&&late) 1255 D.j
noncomputable def G.kB (g:G)(D:DI)(con:Bool):G:=if (!D.dm&& !D.nm)=true then g.dP 1182 D.j else g.cU (!D.dm&&con) 1155 D.j
noncomputable def G.zo (g:G)(con late:Bool):List DI→G
 |[]=>g
 |D::r=>G.zo ((g.kB D con).ou D late) con late r
noncomputable def dR (w:N):Bool:=w==Ui
section
variable {g g2:G}{c n k i j:Nat}{ai l:Bool}{u w:N}{v a x y:V}{D:DI}{vs:List V}
theorem dP (R:aj n g)(c:Int)(j:Nat):aq UA [sV,.int c,pv j,.au []] (aF g) (.ok .none (aF (g.dP c j))):=ez R c j []
theorem mY (K:PK)(hd:g.dead=false)(h:g.told.length<16000000)(c:Int)(j:Nat)(d:Int)(ai:Bool):aq U6 [.obj 4,.int c,pv j,.au []] (PS K d ai g) (.ok .none (PS K d ai (g.dP c j))):=Jc hd h c j [] d ai
theorem nh (R:aj n g)(h:rK D v)(late:Bool):aq Vr [sV,v,.bool late] (aF g) (.ok .none (aF (g.ou D late))):=by
 obtain ⟨b,kn,dm,nm,j⟩:=D;obtain ⟨h,hk,hi⟩:=h;cases b with
 |false=>exact wk []
 |true=>
  cases dm with
  |true=>obtain ⟨k,a,l,q,hi⟩:=hi;subst hi;exact wk [.call (dP R 1263 j)]
  |false=>
   cases hi;cases kn with
   |false=>cases hk;exact wk [.call (dP R 1264 j)]
   |true=>
    obtain ⟨k,a,l,q,hk⟩:=hk;subst hk;cases late<;>exact wk [.call (dP R 1255 j)]
theorem nI (hd:g.dead=false)(ht:g.told.length<16000000)(h:rK D v)(late:Bool)(d:Int)(ai:Bool):aq Vg [P,v,.bool late] (PS K d ai g) (.ok .none (PS K d ai (g.ou D late))):=by
 obtain ⟨b,kn,dm,nm,j⟩:=D;obtain ⟨h,hk,hi⟩:=h;cases b with
 |false=>exact wk []
 |true=>
  cases dm with
  |true=>obtain ⟨k,a,l,q,hi⟩:=hi;subst hi;exact wk [.call (mY K hd ht 1263 j d ai)]
  |false=>
   cases hi;cases kn with
   |false=>cases hk;exact wk [.call (mY K hd ht 1264 j d ai)]
   |true=>
    obtain ⟨k,a,l,q,hk⟩:=hk;subst hk;cases late<;>exact wk [.call (mY K hd ht 1255 j d ai)]
noncomputable def P9 (nv:V)(late:Bool)(v:V):ao:=[(115,.val sV),(Tw,.val nv),(1702125932,.val (.bool late)),(1818453348,.val v)]
noncomputable def Qu (nv:V)(late:Bool)(v:V):ao:=[(112,.val P),(Tw,.val nv),(1702125932,.val (.bool late)),(1818453348,.val v)]
theorem wW (R:aj n g)(h:rK D v):eO Uj (HQ (eS Uj 0) 0) (P9 (nd 41 w vs 0 j) late v) (aF g) (.next (P9 (nd 41 w vs 0 j) late v) (aF (g.kB D (dR w)))):=by
 obtain ⟨b,kn,dm,nm,q⟩:=D;obtain ⟨h,hk,hi⟩:=h;cases dm with
 |true=>obtain ⟨k,a,l,z,hi⟩:=hi;subst hi;exact cD []
 |false=>
  cases hi;cases nm with
  |false=>exact cD [.av (b:=true) rfl,.av (WJ not h),.call (dP R 1182 q)]
  |true=>
   refine bc (dR w) (λe=> ?_) λe=> ?_
   ·obtain rfl:=beq_iff_eq.mp e;exact cD [.av (b:=true) rfl,.av (WJ not h),.call (dP R 1155 q)]
   ·exact aa e (cD [.av (b:=true) rfl,.av (WJ not h),.av (b:=false) rfl,.av (b:=true) rfl,.av (show decide (w=Ui)=false from Wz (beq_eq_false_iff_ne.mp e))])
theorem xW (hd:g.dead=false)(ht:g.told.length<16000000)(h:rK D v)(d:Int)(ai:Bool):eO UB (HQ (eS UB 0) 0) (Qu (nd 41 w vs 0 j) late v) (PS K d ai g) (.next (Qu (nd 41 w vs 0 j) late v) (PS K d ai (g.kB D (dR w)))):=by
 obtain ⟨b,kn,dm,nm,q⟩:=D;obtain ⟨h,hk,hi⟩:=h;cases dm with
 |true=>obtain ⟨k,a,l,z,hi⟩:=hi;subst hi;exact cD []
 |false=>
  cases hi;cases nm with
  |false=>exact cD [.av (b:=false) rfl,.av (b:=true) rfl,.av (WJ not h),.call (mY K hd ht 1182 q d ai)]
  |true=>
   refine bc (dR w) (λe=> ?_) λe=> ?_
   ·obtain rfl:=beq_iff_eq.mp e;exact cD [.av (b:=false) rfl,.av (b:=true) rfl,.av (WJ not h),.call (mY K hd ht 1155 q d ai)]
   ·exact aa e (cD [.av (b:=false) rfl,.av (b:=true) rfl,.av (WJ not h),.av (show decide (w=Ui)=false from Wz (beq_eq_false_iff_ne.mp e))])
end
noncomputable def DI.cM (D:DI)(con:Bool):Nat:=if (!D.dm&& !D.nm)=true then 2000 else if (!D.dm&&con)=true then 2000 else 0
noncomputable def DI.cB (D:DI)(late:Bool):Nat:=if (D.iB&&D.dm)=true then 2000 else if (D.iB&& !D.kn)=true then 2000 else if (D.iB&&late)=true then 2000 else 0
noncomputable def DI.pd (D:DI):Nat:=if (D.iB||D.kn|| !D.dm)=true then 3050 else 0
noncomputable def DI.ok (D:DI):Bool:=(!D.iB||D.nm)&& !(D.dm&&D.kn&&D.iB)
noncomputable def Ab (con late:Bool):List DI→Nat
 |[]=>0
 |D::r=>D.cM con+D.cB late+Ab con late r
inductive Ds:List DI→List V→Prop
 |jy {D v} (h:rK D v):Ds [D] [v]
 |Cr {D v D' v'} (h:rK D v) (h':rK D' v'):Ds [D,D'] [v,v']
section
variable {g g2:G}{c n k i j:Nat}{ai l:Bool}{u w:N}{v a x y:V}{D D':DI}{vs:List V}
theorem xc {b:Bool}:aV 0 (if b=true then 2000 else 0) g (g.cU b m j):=by
 unfold G.cU;cases b with
 |true=>exact ck
 |false=>exact .refl
theorem sS:aV 0 (D.cM con) g (g.kB D con):=by
 unfold G.kB DI.cM;cases (!D.dm&& !D.nm) with
 |true=>exact ck
 |false=>exact xc
theorem mU:aV 0 (D.cB late) g (g.ou D late):=by
 unfold G.ou DI.cB;cases (D.iB&&D.dm) with
 |true=>exact ck
 |false=>cases (D.iB&& !D.kn) with
  |true=>exact ck
  |false=>exact xc
theorem mW (h:D.ok=true):D.cM con+D.cB late≤D.pd+(if con=true then 950 else 0):=by
 have z: ∀b kn dm nm con late,DI.ok ⟨b,kn,dm,nm,0⟩=true→Nat.ble (DI.cM ⟨b,kn,dm,nm,0⟩ con+DI.cB ⟨b,kn,dm,nm,0⟩ late) (DI.pd ⟨b,kn,dm,nm,0⟩+(if con=true then 950 else 0))=true:=by decide+kernel
 exact Nat.le_of_ble_eq_true (z D.iB D.kn D.dm D.nm con late h)
theorem tM {b:Bool}:(g.cU b m j).dead=g.dead:=by unfold G.cU;split;exact eT;rfl
theorem nA:(g.kB D con).dead=g.dead:=by unfold G.kB;split;exact eT;exact tM
theorem wc:(g.ou D late).dead=g.dead:=by
 unfold G.ou;split
 ·exact eT
 ·split;exact eT;exact tM
theorem wu:(g.zo con late Dl).dead=g.dead:=by
 induction Dl generalizing g with
 |nil=>rfl
 |cons D r ih=>exact ih.trans (wc.trans nA)
theorem mV:aV 0 (Ab con late Dl) g (g.zo con late Dl):=by
 induction Dl generalizing g with
 |nil=>exact .refl
 |cons D r ih=>exact (sS.trans mU).trans ih
theorem IQ:Nat.ble (D.cM con) 10000=true:=by unfold DI.cM;split;rfl;split<;>rfl
theorem IP:Nat.ble (D.cB late) 10000=true:=by unfold DI.cB;split;rfl;split;rfl;split<;>rfl
theorem aj.kB (R:aj (n+1) g):aj n (g.kB D con):=R.sg sS IQ
theorem aj.ou (R:aj (n+1) g):aj n (g.ou D late):=R.sg mU IP
theorem Dm (R:aj (n+3) g)(h:Ds Dl vs)(late:Bool):aq Uj [sV,nd 41 w vs 0 j,.bool late] (aF g) (.ok .none (aF (g.zo (dR w) late Dl))):=by
 cases h with
 | @jy D v h=>exact wk [.ifs (wW (vs:=[v]) (w:=w) (j:=j) (late:=late) R h),.call (nh (R.kB (D:=D) (con:=dR w)) h late)]
 | @Cr D v D' v' h h'=>
  have R2:aj (n+1) ((g.kB D (dR w)).ou D late):=R.kB.ou;exact wk [.ifs (wW (vs:=[v,v']) (w:=w) (j:=j) (late:=late) R h),.call (nh (R.kB (D:=D) (con:=dR w)) h late),.ifs (wW (vs:=[v,v']) (w:=w) (j:=j) (late:=late) R2 h'),.call (nh (R2.kB (D:=D') (con:=dR w)) h' late)]
theorem DL (R:aj (n+3) g)(hd:g.dead=false)(h:Ds Dl vs)(late:Bool)(d:Int)(ai:Bool):aq UB [P,nd 41 w vs 0 j,.bool late] (PS K d ai g) (.ok .none (PS K d ai (g.zo (dR w) late Dl))):=by
 cases h with
 | @jy D v h=>exact wk [.ifs (xW (K:=K) (vs:=[v]) (w:=w) (j:=j) (late:=late) hd R.td h d ai),.call (nI (K:=K) (nA.trans hd) (R.kB (D:=D) (con:=dR w)).td h late d ai)]
 | @Cr D v D' v' h h'=>
  have R2:aj (n+1) ((g.kB D (dR w)).ou D late):=R.kB.ou;have d1:(g.kB D (dR w)).dead=false:=nA.trans hd;have d2:((g.kB D (dR w)).ou D late).dead=false:=wc.trans d1;exact wk [.ifs (xW (K:=K) (vs:=[v,v']) (w:=w) (j:=j) (late:=late) hd R.td h d ai),.call (nI (K:=K) d1 R.kB.td h late d ai),.ifs (xW (K:=K) (vs:=[v,v']) (w:=w) (j:=j) (late:=late) d2 R2.td h' d ai),.call (nI (K:=K) (nA.trans d2) (R2.kB (D:=D') (con:=dR w)).td h' late d ai)]
end
structure zj (b:Bool)(g g':G):Prop where
 bR:b=true→Tk g g' 33 true 5 33
structure zk (b:Bool)(g g1 g':G)(t:N):Prop where
 nt:vR t
 bR:b=true→Tk g g1 58 false 5 58∧Tk g1 g' t false 1 t∧aq Uy [sV,.bool false] (aF g1) (.ok (nd 8 t [] 0 (ln g1)) (aF g'))
structure zK (b:Bool)(g g':G):Prop where
 bR:b=true→Tk g g' 33 true 5 33
 no:b=false→g'=g
structure zL (b:Bool)(g g1 g':G)(t:N):Prop where
 nt:vR t
 bR:b=true→Tk g g1 58 false 5 58∧Tk g1 g' t false 1 t∧aq Uy [sV,.bool false] (aF g1) (.ok (nd 8 t [] 0 (ln g1)) (aF g'))
 no:b=false→g'=g
noncomputable def HC (b:Bool)(t:N)(j:Nat):V:=if b=true then nd 8 t [] 0 j else .none
noncomputable def zj.fs {b:Bool}{g g':G}(h:zj b g g'):List aD:=Bool.rec (motive:=λb=>zj b g g'→List aD) (λZ=>[]) (λh=>[.call (h.bR rfl).aB]) b h
noncomputable def zk.fs {b:Bool}{g g1 g':G}{t:N}(h:zk b g g1 g' t):List aD:=Bool.rec (motive:=λb=>zk b g g1 g' t→List aD) (λZ=>[]) (λh=>[.call (h.bR rfl).1.aB,.call (h.bR rfl).2.2]) b h
structure MC (g g':G)(v:V)(D:DI):Prop where
 aB:aq Uz [sV] (aF g) (.ok v (aF g'))
 af:aV D.pd 7 g g'
 dd:g'.dead=g.dead
 cl:g.dead=false→Cl g'
 is:rK D v
 ok:D.ok=true
 bk:D.j=ln g
 aI:aT 7 v
 fst:MJ g g' false lM
 rd: ∀K d ai w,g.dead=false→W K g'→Nt K (pos K g') [(5,33),(5,58),(5,61)]→Dp 8 d→aq S7 [P,.str w] (PS K d ai g) (.ok v (PS K d ai g'))
section
variable {g g2:G}{c n k i j:Nat}{ai l b:Bool}{u w:N}{v x y T:V}
theorem RL (b:Bool)(R:aj n g): ∃g',zj b g g':=by
 cases b with
 |true=>obtain ⟨g1,o⟩:=cI R 33 true 5;exact ⟨g1,⟨λZ=>o⟩⟩
 |false=>exact ⟨g,⟨bK⟩⟩
theorem zj.af (h:zj b g g'):aV 0 1 g (cond b g' g):=by cases b with|true=>exact (h.bR rfl).af|false=>exact aV.refl.le
theorem zj.q (h:zj b g g'):zK b g (cond b g' g):=by cases b with|true=>exact ⟨h.bR,jN⟩|false=>exact ⟨bK,λZ=>rfl⟩
theorem zK.af (h:zK b g g'):aV 0 1 g g':=bc b (λe=>(h.bR e).af) λe=>h.no e▸aV.refl.le
theorem zK.dd (h:zK b g g'):g'.dead=g.dead:=bc b (λe=>(h.bR e).dd) λe=>h.no e▸rfl
theorem zK.cl (h:zK b g g')(hd:g.dead=false)(q:Cl g):Cl g':=bc b (λe=>(h.bR e).cl hd) λe=>h.no e▸q
theorem RM (b:Bool)(R:aj (n+1) g): ∃g1 g' t,zk b g g1 g' t:=by
 cases b with
 |true=>
  obtain ⟨g1,o⟩:=cI R 58 false 5;obtain ⟨t,g',ht,o2,e⟩:=uP (R.sg o.af) false;exact ⟨g1,g',t,ht,λZ=>⟨o,o2,e⟩⟩
 |false=>exact ⟨g,g,97,.inl rfl,bK⟩
theorem zk.af (h:zk b g g1 g' t):aV 0 2 g (cond b g' g):=by cases b with|true=>exact (h.bR rfl).1.af.trans (h.bR rfl).2.1.af|false=>exact aV.refl.le
theorem zk.q (h:zk b g g1 g' t):zL b g g1 (cond b g' g) t:=by cases b with|true=>exact ⟨h.nt,h.bR,jN⟩|false=>exact ⟨h.nt,bK,λZ=>rfl⟩
theorem zL.af (h:zL b g g1 g' t):aV 0 2 g g':=bc b (λe=>by obtain ⟨o,o2,_⟩:=h.bR e;exact o.af.trans o2.af) λe=>h.no e▸aV.refl.le
theorem zL.dd (h:zL b g g1 g' t):g'.dead=g.dead:=bc b (λe=>by obtain ⟨o,o2,_⟩:=h.bR e;exact o2.dd.trans o.dd) λe=>h.no e▸rfl
theorem zL.cl (h:zL b g g1 g' t)(hd:g.dead=false)(q:Cl g):Cl g':=bc b (λe=>by obtain ⟨o,o2,_⟩:=h.bR e;exact o2.cl (o.dd.trans hd)) λe=>h.no e▸q
noncomputable def zy (w:N)(T:V)(ex:ao):ao:=(112,.val P)::(Vd,.val (.str w))::(127978876068212,.val T)::ex
noncomputable def GF (i:Nat):Stmt:=eS S7 i
noncomputable def O0 (d:Int):Sx:=qG S7 (.int d,.none) .none
theorem EN (hO: ∀x∈O,lx x)(n:Nat): ∀i,i+n=O.length→eN (O0 d) (bf (.v (.list O))) We (dK (GF 1)) n i (zy w T []) (PS K d ai g) (.next (zy w T []) (PS K d ai g)):=by
 induction n with
 |zero=>exact λi h=> .done rfl h.symm
 |succ n ih=>
  intro i h;have hi:i<O.length:=by exact lS h
  have hg:=List.getElem?_eq_getElem hi;obtain ⟨a,j,e,ha⟩:=hO _ (List.getElem_mem hi);rw [e] at hg;exact (ih (i+1) (lE h)).b9 (fs:=[.av (show decide (a=S0)=false from Wz ha)]) rfl hg [(We,.val (nd 8 a [] 0 j))]
theorem Dh {h:Nat}(t:Pt h T)(hh:h≤8):eO S7 (GF 1) (zy w T []) (PS K d ai g) (.next (zy w T []) (PS K d ai g)):=by
 refine bc (decide (w=Un)) (λe=> ?_) λe=> ?_
 ·exact eN.iw (f:=S7) (st:=GF 1) (sx:=O0 d) (get:=bf (.v (.au []))) (x:=We) (n:=0) (fs0:=[.av (WJ not e)]) (fs1:=[]) (k0:=[(.av (!decide (w=Un)),.av (!decide (w=Un)))]) (.done rfl rfl) (λT=>by kernel_rfl) ⟨rfl,trivial⟩
 ·obtain ⟨O,h1,h2,h3⟩:=xF t hh (PS K d ai g);exact eN.iw (f:=S7) (st:=GF 1) (sx:=O0 d) (get:=bf (.v (.list O))) (x:=We) (n:=O.length) (fs0:=[.av (WJ not e),.call h3]) (fs1:=[]) (k0:=[(.av (!decide (w=Un)),.av (!decide (w=Un))),(.call SE [T] (PS K d ai g),.call SE [T] (PS K d ai g))]) (EN h1 O.length 0 (Nat.zero_add _)) (λT=>by kernel_rfl) ⟨rfl,rfl,trivial⟩
end
noncomputable def c2 (r:Nat):Nat:=if Nat.ble 5 r=true then 2 else 0
noncomputable def c1 (b:Bool):Nat:=if b=true then 1 else 0
noncomputable def iC (r:Nat):Bool:=Nat.beq r 3||Nat.beq r 4
noncomputable def jJ (r:Nat):Bool:=Nat.beq r 2||(Nat.beq r 3||Nat.beq r 7)
noncomputable def xd (r:Nat)(b:Bool):Bool:=Nat.beq r 0||(Nat.beq r 2||(Nat.beq r 5||(Nat.beq r 7||(Nat.beq r 4&&b))))
section
variable {g g2:G}{c n k i j:Nat}{ai l b:Bool}{u w:N}{v x y z T:V}
theorem KA (r:Nat):jV (c2 r):=by unfold c2;split;exact Oz;exact Gv
theorem DO (b:Bool):jV (c1 b):=by unfold c1;split;exact Gw;exact Gv
theorem rT (r:Nat):c2 r≤2:=by unfold c2;split<;>decide
theorem lU (b:Bool):c1 b≤1:=by unfold c1;split<;>decide
theorem GA (h:zK b g g')(hd:g.dead=false)(q:Cl g)(w:W K g')(hb:b=true→ ∃a,T=nd 8 a [] 0 j)(nt:Nt K (pos K g') [(5,33)]):eO S7 (GF 3) (zy u T [(Vi,.val (.int 0))]) (PS K d ai g) (.next (zy u T [(Vi,.val (.int ((if b=true then 2097152 else 0:Nat):Int)))]) (PS K d ai g')):=by
 cases b with
 |true=>
  obtain ⟨a,e⟩:=hb rfl;subst e;obtain ⟨l,o,hl,_⟩:=(h.bR rfl).lk hd w;obtain rfl:=hl rfl (Bool.or_eq_false_iff.mp q).1;exact cD [.ag o.bk,.ag o.bk,.call (o.aE d ai)]
 |false=>obtain rfl:=h.no rfl;exact cD [.call (nt.pn Sv 33 d ai)]
theorem GD (h:zL b g g1 g' t)(hd:g.dead=false)(w:W K g')(D:Dp 8 d)(nt:Nt K (pos K g') [(5,58)]):eO S7 (GF 5) (zy u T [(Vi,.val x),(Uo,.val .none)]) (PS K d ai g) (.next (zy u T [(Vi,.val x),(Uo,.val (HC b t (ln g1)))]) (PS K d ai g')):=by
 cases b with
 |true=>
  obtain ⟨o,o2,_⟩:=h.bR rfl;obtain ⟨l,q,_⟩:=o.lk hd (o2.af.w w);obtain ⟨l2,q2,_⟩:=o2.lk (o.dd.trans hd) w;exact cD [.call (q.cT d ai),.call (e8 (k:=1) (m:=7) D (kC q2 (d+1) ai) (.nd (h:=0) trivial) (by decide) (.head _))]
 |false=>obtain rfl:=h.no rfl;exact cD [.call (nt.pn Ss 58 d ai)]
theorem KP (h:vO b c g g' v)(hc:c≤2)(hd:g.dead=false)(w:W K g')(D:Dp 8 d)(nt:Nt K (pos K g') [(5,61)]):eO S7 (GF 7) (zy u T [(Vi,.val x),(Uo,.val y),(1953066601,.val .none)]) (PS K d ai g) (.next (zy u T [(Vi,.val x),(Uo,.val y),(1953066601,.val v)]) (PS K d ai g')):=by
 cases b with
 |true=>
  obtain ⟨g1,o,p⟩:=h.bR rfl;obtain ⟨l,q,_⟩:=o.lk hd (p.af.w w);exact cD [.call (q.cT d ai),.call (p.rd K d ai (o.dd.trans hd) w (D.le (by lia)) 2 (.tail _ (.head _)))]
 |false=>
  obtain ⟨e1,e2⟩:=h.no rfl;subst e1 e2;exact cD [.call (nt.pn Ss 61 d ai)]
theorem Nz {b:Bool}(h8:r<8):(!(xd r b&&jJ r&&iC r))=true:=by
 rcases d8 h8 with h|h|h|h|h|h|h|h<;>subst h<;>cases b<;>rfl
noncomputable def dF {b2 b3:Bool}(hr:Dr g 8 r)(p:vT (c2 r) false g.nx g1 T)(hb:zj (iC r) g1 g2)(hk:zk (jJ r) (cond (iC r) g2 g1) g3 g4 t)(h3:aq TL [sV,.int (3:Nat)] (aF (cond (jJ r) g4 (cond (iC r) g2 g1))) (.ok (.bool b3) (aF (cond (jJ r) g4 (cond (iC r) g2 g1)))))
  (h2:aq TL [sV,.int (2:Nat)] (aF (cond (jJ r) g4 (cond (iC r) g2 g1))) (.ok (.bool b2) (aF (cond (jJ r) g4 (cond (iC r) g2 g1))))) (i:vO (xd r b3) (c1 b2) (cond (jJ r) g4 (cond (iC r) g2 g1)) g' x):List aD:=[.call hr.aB,.call p.aB]++(hb.fs++(hk.fs++((if Nat.beq r 4=true then [.call h3] else [])++[.call h2,.call i.aB])))
theorem EO {b2 b3:Bool}{kt:Nat}{ta:N}{tk:List V}(hr:Dr g 8 r)(p:vT (c2 r) false g.nx g1 (nd kt ta tk 0 (ln g.nx)))(hb:zj (iC r) g1 g2)(hk:zk (jJ r) (cond (iC r) g2 g1) g3 g4 t)(h3:aq TL [sV,.int (3:Nat)] (aF (cond (jJ r) g4 (cond (iC r) g2 g1))) (.ok (.bool b3) (aF (cond (jJ r) g4 (cond (iC r) g2 g1)))))
  (h2:aq TL [sV,.int (2:Nat)] (aF (cond (jJ r) g4 (cond (iC r) g2 g1))) (.ok (.bool b2) (aF (cond (jJ r) g4 (cond (iC r) g2 g1))))) (i:vO (xd r b3) (c1 b2) (cond (jJ r) g4 (cond (iC r) g2 g1)) g' x):aq Uz [sV] (aF g) (.ok (nd 42 0 [nd kt ta tk 0 (ln g),HC (jJ r) t (ln g3),x] (if iC r=true then 2097152 else 0) (ln g)) (aF g')):=by
 have h8:=hr.lt;rcases d8 h8 with h|h|h|h|h|h|h|h<;>subst h<;>cases b2<;>exact wk (dF hr p hb hk h3 h2 i)
inductive MB (g g':G):Prop
 |mk {r:Nat} {b3 b2:Bool} {g1 g2 g3 g4:G} {t:N} {kt:Nat} {ta:N} {tk:List V} {x:V} (hr:Dr g 8 r) (p:vT (c2 r) false g.nx g1 (nd kt ta tk 0 (ln g))) (hb:zK (iC r) g1 g2) (hk:zL (jJ r) g2 g3 g4 t) (i:vO (xd r b3) (c1 b2) g4 g' x)
  (G:aq Uz [sV] (aF g) (.ok (nd 42 0 [nd kt ta tk 0 (ln g),HC (jJ r) t (ln g3),x] (if iC r=true then 2097152 else 0) (ln g)) (aF g')))
theorem NA (R:aj 22 g): ∃g',MB g g':=by
 obtain ⟨r,hr⟩:=ee R 8;have R1:aj 21 g.nx:=R.sg hr.af;obtain ⟨T,g1,p⟩:=KA r false g.nx (R1.aw (by have:=rT r;lia));have s1:=hr.af.trans p.af;obtain ⟨gB,hb⟩:=RL (iC r) (R.sg s1);have s2:=s1.trans hb.af;obtain ⟨g3,gK,t,hk⟩:=RM (jJ r) (R.sg s2);have s3:=s2.trans hk.af;obtain ⟨b3,h3⟩:=ue (R.sg s3) 3;obtain ⟨b2,h2⟩:=ue (R.sg s3) 2;obtain ⟨x,g',i⟩:=dm (DO b2) (xd r b3) ((R.sg s3).aw (by have:=lU b2;lia));obtain ⟨kt,ta,tk,k',u,e,f,hf,hkt⟩:=p.sh;subst e;exact ⟨g',.mk hr p hb.q hk.q i (EO hr p hb hk h3 h2 i)⟩
inductive MA (g:G):Prop
 |mk (v:V) (g':G) (D:DI) (r:MC g g' v D)
set_option tactic.hygienic true in
theorem I9 (R:aj 22 g):MA g:=by
 obtain ⟨g',h⟩:=NA R;obtain ⟨hr,p,hb,hk,i,G⟩:=h;rename_i r b3 b2 g1 g2 g3 g4 t kt ta tk x;obtain ⟨_,_,_,k',u,e,f,hf,hkt⟩:=p.sh;have d1:g.dead=false→g1.dead=false:=λh=>p.dd.trans h;have d2:=λh=>hb.dd.trans (d1 h);have d4:=λh=>hk.dd.trans (d2 h);have s2:=hr.af.trans (p.af.trans hb.af);have s3:=s2.trans hk.af;have hbn:iC r=true→ ∃a,nd kt ta tk 0 (ln g)=nd 8 a [] 0 (ln g):=λe=>p.nm (by
  unfold iC at e;rcases Wt e with e|e<;>obtain rfl:=WI e<;>rfl)
 have hpd:DI.pd ⟨iC r,jJ r,xd r b3,decide ((kt:Int)=8),ln g⟩≤zx r:=by
  rcases kG r with ⟨h,_⟩|⟨_,h⟩
  ·subst h;exact Nat.le_refl _
  ·refine aa h ?_;unfold DI.pd;split<;>decide
 refine ⟨_,g',⟨iC r,jJ r,xd r b3,decide ((kt:Int)=8),ln g⟩,G,(s3.trans i.af).dW (lB hpd),((i.dd.trans hk.dd).trans hb.dd).trans p.dd,λh=>i.cl (d4 h) (hk.cl (d2 h) (hb.cl (d1 h) (p.cl h))),.mk (D:=⟨iC r,jJ r,xd r b3,decide ((kt:Int)=8),ln g⟩) rfl ?_ ?_,?_,rfl,?_,⟨k',u,(f.to ((hb.af.trans hk.af).trans i.af)).nx,hf⟩,λK d ai w hd W' n D=> ?_⟩
 ·show Ei (jJ r) _;unfold Ei HC
  split
  ·exact ⟨_,_,_,_,rfl⟩
  ·rfl
 ·show Ei (xd r b3) x;unfold Ei
  split
  ·rename_i h;obtain ⟨_,_,q⟩:=i.bR h;obtain ⟨k,a,l,_,_,e,_⟩:=q.sh;exact ⟨k,a,l,_,e⟩
  ·exact (i.no (Bool.not_eq_true _▸‹_›)).1
 ·show ((!iC r||decide ((kt:Int)=8))&& !(xd r b3&&jJ r&&iC r))=true;refine Bool.and_eq_true_iff.mpr ⟨?_,Nz hr.lt⟩;cases hq:iC r with
  |false=>rfl
  |true=>obtain ⟨a,e⟩:=hbn hq;injection e with _ e;injection e with e _;injection e with e;exact aa e rfl
 ·exact .nd ⟨p.pt.aI.le (by have:=rT r;lia),by unfold HC;split;exact .nd (h:=5) trivial;exact .none,i.tr.le (by have:=lU b2;lia),trivial⟩
 ·have w4:=i.af.w W';have w2:=hk.af.w w4;have n4:Nt K (pos K g4) [(5,33),(5,58)]:=bc (xd r b3) (λe=>by obtain ⟨_,o,q⟩:=i.bR e;exact (o.fst q.af).nt (L:=[(5,61)]) (d4 hd) W' (.head _)) λe=>by exact fF ((i.no e).2) n.le
  have n2:Nt K (pos K g2) [(5,33)]:=bc (jJ r) (λe=>by obtain ⟨o,q,_⟩:=hk.bR e;exact (o.fst q.af).nt (L:=[(5,58)]) (d2 hd) w4 (.head _)) λe=>by exact fF (hk.no e) n4.le
  have F1:=Dh (w:=w) (K:=K) (g:=g1) (ai:=ai) (d:=d) p.pt (by have:=rT r;lia);have F2:=GA (u:=w) (K:=K) (ai:=ai) (d:=d) hb (d1 hd) (p.cl hd) w2 hbn n2;have F3:=GD (u:=w) (T:=nd kt ta tk 0 (ln g)) (x:= .int ((if iC r=true then 2097152 else 0:Nat):Int)) (ai:=ai) hk (d2 hd) w4 D n4.le;have F4:=KP (u:=w) (T:=nd kt ta tk 0 (ln g)) (x:= .int ((if iC r=true then 2097152 else 0:Nat):Int)) (y:=HC (jJ r) t (ln g3)) (ai:=ai) i (Nat.le_trans (lU b2) (by decide)) (d4 hd) W' D n.le;have pr:=p.rd K d ai hd (hb.af.w w2) (D.le (by have:=rT r;lia)) 10 (.tail _ (.tail _ (.head _)));exact wk [.call pr,.eJ F1,.ifs F2,.ifs F3,.ifs F4]
end
noncomputable def Cy:List (Nat×N):=[(1,S0),(2,Ui),(2,Un)]
inductive QR (g g':G)(w:N):Prop
 |mk (k:Nat) (f:ir g g' false k w) (h:(k,w)∈Cy)
structure M9 (g g':G)(w:N)(D:DI)(Dl:List DI)(x:V)(vs:List V):Prop where
 aB:aq Vx [sV] (aF g) (.ok (nd 41 w (x::vs) 0 (ln g)) (aF g'))
 ds:Ds (D::Dl) (x::vs)
 ok:D.ok=true
 tw: ∀v r,vs=v::r→ ∃k a l f j,v=nd k a l f j
 af:aV D.pd 16 g g'
 PT: ∀late,aV (Ab (dR w) late (D::Dl)) 16 g g'
 dd:g'.dead=g.dead
 cl:g.dead=false→Cl g'
 aI:aT 8 (nd 41 w (x::vs) 0 (ln g))
 fst:QR g g' w
 Of: ∀K d ai,g.dead=false→W K g'→w=S0→aq TG [P] (PS K d ai g) (.ok (.bool true) (PS K d ai g))
 nx: ∀K,g.dead=false→W K g'→w=S0→Nt K (ln g+1) [(5,58)]
 rd: ∀K d ai,g.dead=false→W K g'→Nt K (pos K g') [(5,33),(5,58),(5,61),(5,44)]→Dp 8 d→aq Vo [P,.int 0] (PS K d ai g) (.ok (nd 41 w (x::vs) 0 (ln g)) (PS K d ai g'))
section
variable {g g2:G}{c n k i j a b:Nat}{ai l:Bool}{u w:N}{v x y z T:V}{D D':DI}
theorem rK.nd (h:rK D v): ∃k a l f,v=nd k a l f D.j:=by cases h;exact ⟨_,_,_,_,rfl⟩
theorem Hj (h:D.ok=true)(h':D'.ok=true)(late:Bool):D.cM con+D.cB late+(D'.cM con+D'.cB late)≤D.pd+D'.pd+(if con=true then 3050 else 0):=by
 have:=mW (con:=con) (late:=late) h;have:=mW (con:=con) (late:=late) h';cases con<;>(simp only [if_true,if_false,Bool.false_eq_true] at*;lia)
theorem Gi (h:D.ok=true)(late:Bool):D.cM con+D.cB late≤D.pd+(if con=true then 3050 else 0):=by
 have:=mW (con:=con) (late:=late) h;cases con<;>(simp only [if_true,if_false,Bool.false_eq_true] at*;(first|assumption|exact lB this))
theorem nN (h:(k,u)∈lM):k=1∨k=5∧(u=91∨u=123):=by
 have z:=Wu (show lM.all (λp=>p.1==1||(p.1==5&&(p.2==91||p.2==123)))=true from rfl) _ h;exact (Wt z).imp (λe=>beq_iff_eq.mp e) λe=>by obtain ⟨a,b⟩:=Ws e;exact ⟨beq_iff_eq.mp a,(Wt b).imp (λe=>beq_iff_eq.mp e) λe=>beq_iff_eq.mp e⟩
theorem xX {q:PQ}(A:aq TF [P,.int (1:Nat)] (aP K n q) (.ok (jt k u i l) (aP K n q)))(h:(k,u)∈lM):aq TG [P] (aP K n q) (.ok (.bool true) (aP K n q)):=by
 rcases nN h with e|⟨e,e2|e2⟩
 ·subst e;exact wk [.call A]
 ·subst e e2;exact wk [.call A]
 ·subst e e2;exact wk [.call A]
inductive M8 (g:G):Prop
 |mk (w:N) (g':G) (D:DI) (Dl:List DI) (x:V) (vs:List V) (r:M9 g g' w D Dl x vs)
theorem Hm (R:aj 26 g):M8 g:=by
 obtain ⟨r,hr⟩:=ee R 3;have hl:=hr.lt;have hw: ∃k w,(k,w)∈Cy∧ag [.str S0,.str Ui,.str Un] (r:Int)=some (.str w)∧bt fy w=some k∧Nat.beq k 4=false∧(if dR w=true then 3050 else 0)≤zx r∧lg w=false:=by
  rcases d3 hl with h|h|h<;>subst h
  ·exact ⟨1,S0,.head _,rfl,rfl,rfl,by decide,rfl⟩
  ·exact ⟨2,Ui,.tail _ (.head _),rfl,rfl,rfl,by decide,rfl⟩
  ·exact ⟨2,Un,.tail _ (.tail _ (.head _)),rfl,rfl,rfl,by decide,rfl⟩
 obtain ⟨k,w,hm,hn,hk,h4,hp,hx⟩:=hw;obtain ⟨g1,o⟩:=cI (R.sg hr.af) w false k hk h4;have s1:=hr.af.trans o.af;obtain ⟨x,g2,D,p⟩:=I9 ((R.sg s1 (Nat.ble_eq_true_of_le (by lia)):aj 25 g1).aw (by decide));have s2:=s1.trans p.af;have R2:aj 25 g2:=R.sg s2 (Nat.ble_eq_true_of_le (by lia));obtain ⟨b6,h6⟩:=ue R2 6;have hk5:(k==5&&w==59)=false:=by exact aa (show (k==5)=false from Wy (Wu (show Cy.all (λp=>decide ((p.1==5)=false))=true from rfl) _ hm)) rfl
 have hk0:k≠0:=Wy (Wu (show Cy.all (λp=>decide (p.1≠0))=true from rfl) _ hm);have d1:g.dead=false→g1.dead=false:=o.dd.trans;have d2:=λh=>p.dd.trans (d1 h);have op: ∀K d ai,g.dead=false→W K g2→w=S0→aq TG [P] (PS K d ai g) (.ok (.bool true) (PS K d ai g)):=λK d ai hd W2 Z=>by
  obtain ⟨l,q,_⟩:=o.lk hd (p.af.w W2) (.inl hk5);obtain ⟨k2,u2,f2,hf2⟩:=p.fst;obtain ⟨l2,q2,_⟩:=f2.lk K (d1 hd) W2;have A:=vJ (m:=1) W2.lt (pq g d ai) (q.p1▸q2);exact xX A hf2
 have nx: ∀K,g.dead=false→W K g2→w=S0→Nt K (ln g+1) [(5,58)]:=λK hd W2 Z=>by
  obtain ⟨l,q,_⟩:=o.lk hd (p.af.w W2) (.inl hk5);obtain ⟨k2,u2,f2,hf2⟩:=p.fst;have z:=f2.nt (F:=[(5,58)]) (d1 hd) W2 hf2;rw [q.p1,show pos K g.nx=ln g from q.pp] at z;exact z
 cases b6 with
 |false=>
  refine ⟨w,g2,D,[],x,[],wk [.call hr.aB,.ag hn,.call o.aB,.call p.aB,.call h6],.jy p.is,p.ok,nofun,s2.dW (by lia),λlate=> ?_,p.dd.trans o.dd,λh=>p.cl (d1 h),.nd ⟨p.aI,trivial⟩,⟨k,(o.fst p.af hk5 hx).nx,hm⟩,op,nx,λK d ai hd W2 n D=> ?_⟩
  ·exact s2.dW (by have:=Gi (con:=dR w) p.ok late;show _+(_+0)≤_;lia)
  ·obtain ⟨l,q,_⟩:=o.lk hd (p.af.w W2) (.inl hk5);exact wk [.call (q.aE d ai hk0),.call (p.rd K d ai w (d1 hd) W2 n.le D),.call (n.pn Ss 44 d ai)]
 |true=>
  obtain ⟨g3,o2⟩:=cI R2 44 false 5;obtain ⟨y,g4,D',p'⟩:=I9 ((R2.sg o2.af:aj 24 g3).aw (by decide));have s4:=(s2.trans o2.af).trans p'.af;have d3:=λh=>o2.dd.trans (d2 h);have sg:=λw=>(o2.af.trans p'.af).w (K:=w);refine ⟨w,g4,D,[D'],x,[y],wk [.call hr.aB,.ag hn,.call o.aB,.call p.aB,.call h6,.call o2.aB,.call p'.aB],.Cr p.is p'.is,p.ok,λv r e=> ?_,s4.dW (by lia),λlate=> ?_,((p'.dd.trans o2.dd).trans p.dd).trans o.dd,λh=>p'.cl (d3 h),.nd ⟨p.aI,p'.aI,trivial⟩,⟨k,(o.fst (p.af.trans (o2.af.trans p'.af)) hk5 hx).nx,hm⟩,λK d ai hd W4 e=>op K d ai hd (sg K W4) e,λK hd W4 e=>nx K hd (sg K W4) e,λK d ai hd W4 n D=> ?_⟩
  ·injection e with eA;subst eA;obtain ⟨k,a,l,f,e⟩:=p'.is.nd;exact ⟨k,a,l,f,_,e⟩
  ·exact s4.dW (by have:=Hj (con:=dR w) p.ok p'.ok late;show _+(_+(_+0))≤_;lia)
  ·have W2:=sg K W4;obtain ⟨l,q,_⟩:=o.lk hd (p.af.w W2) (.inl hk5);obtain ⟨l2,q2,_⟩:=o2.lk (d2 hd) (p'.af.w W4);exact wk [.call (q.aE d ai hk0),.call (p.rd K d ai w (d1 hd) W2 q2.nt D),.call (q2.cT d ai),.call (p'.rd K d ai w (d3 hd) W4 n.le D),.call (n.pn Ss 44 d ai)]
end
noncomputable def NJ (cl:Bool):List (Nat×N):=(if cl=true then [] else [(2,Wj)])++[(5,33),(5,58),(5,61),(5,44),(2,TB)]
noncomputable def K9:List (Nat×N):=NJ false++[(0,1),(2,Up),(2,UD)]
noncomputable def qc (b:Bool):List (Nat×N):=(if b=true then [(5,125)] else [])++K9
inductive CE (K:PK)(n:Nat):Prop
 |mk (k:Nat) (u:N) (a e:V) (l:Bool) (h:ag K.T (n:Int)=some (gp k u a e l)) (h2:(k==0||(l||(k==5&&(u==59||u==125))))=true)
inductive RT (K:PK)(n:Nat):Prop
 |mk (k:Nat) (u:N) (a e:V) (l:Bool) (h:ag K.T (n:Int)=some (gp k u a e l))
structure fT (cl:Bool)(K:PK)(g:G):Prop where
 nt:Nt K (pos K g) (NJ cl)
 ce:g.pend=true→CE K (ln g)
 rt:RT K (ln g)
structure zm (K:PK)(g:G):Prop where
 nt:Nt K (pos K g) (qc (decide (0<g.b.bD)))
 ce:g.pend=true→CE K (ln g)
 rt:RT K (ln g)
section
variable {g:G}{n k i:Nat}{ai cl l b:Bool}{u:N}{a e v:V}{q:PQ}
theorem zm.Mm (h:zm K g):Nt K (pos K g) K9:=by
 have z:=h.nt;revert z;cases decide (0<g.b.bD) with
 |true=>exact λz=>z.le
 |false=>exact λz=>z.le
theorem zm.lZ (h:zm K g):fT cl K g:=⟨by cases cl with|true=>exact h.Mm.le|false=>exact h.Mm.le,h.ce,h.rt⟩
theorem ir.ce (f:ir g g' ti k u)(hd:g.dead=false)(w:W K g')(hp:g.pend=true):CE K (ln g):=by
 obtain ⟨l,_,h2,_,_,h5⟩:=f.lk K hd w;obtain rfl:=h5 hp;exact ⟨k,u,_,_,true,h2,Bool.or_true _⟩
theorem ir.rt (f:ir g g' ti k u)(hd:g.dead=false)(w:W K g'):RT K (ln g):=by
 obtain ⟨l,_,h2,_⟩:=f.lk K hd w;exact ⟨_,_,_,_,_,h2⟩
theorem ir.fH (f:ir g g' ti k u)(hd:g.dead=false)(w:W K g')(h:lR (qc true) k u=true:=by rfl):zm K g:=by
 obtain ⟨l,h1,_⟩:=f.lk K hd w;have z:Nt K (pos K g) (qc true):=⟨_,_,_,_,_,h1,h⟩;refine ⟨?_,f.ce hd w,f.rt hd w⟩;cases decide (0<g.b.bD) with
 |true=>exact z
 |false=>exact z.le
theorem ir.lZ (f:ir g g' ti k u)(hd:g.dead=false)(w:W K g')(h:lR (NJ cl) k u=true:=by rfl):fT cl K g:=by
 obtain ⟨l,h1,_⟩:=f.lk K hd w;exact ⟨⟨_,_,_,_,_,h1,h⟩,f.ce hd w,f.rt hd w⟩
theorem gj (h:ag K.T (n:Int)=some (gp k u a e l)):kK K n=decide ((k:Int)=5∧u=59):=by
 have z:GW (gp k u a e l)=decide ((k:Int)=5∧u=59):=by kernel_rfl
 unfold kK;exact aa h z
theorem rV (h:CE K n):aq Tp [P] (aP K n q) (.ok (.bool true) (aP K n q)):=by
 obtain ⟨k,u,a,e,l,h,hc⟩:=h;by_cases h0:k=0
 ·subst h0;exact wk [.ag h]
 have n0:decide ((k:Int)=0)=false:=Wz λe=>h0 (Int.ofNat.inj e);rw [beq_eq_false_iff_ne.mpr h0,Bool.false_or] at hc;cases l with
 |true=>exact wk [.ag h,.av n0]
 |false=>
  obtain ⟨h1,h2⟩:=Ws hc;obtain rfl:=beq_iff_eq.mp h1;rcases Wt h2 with h2|h2<;>obtain rfl:=beq_iff_eq.mp h2<;>exact wk [.ag h]
theorem xZ (h:g.pend=true):pos K g=if kK K (ln g)=true then ln g+1 else ln g:=by exact aa (kH ..) (aa h (aa (Bool.true_or ..) (aa (Bool.true_and ..) rfl)))
theorem fT.Se (h:fT cl K g)(hc:g.pend=true):Nt K (ln g) [(5,33),(5,58),(5,61),(5,44)]:=by
 obtain ⟨k,u,a,e,l,h1,_⟩:=h.ce hc;have z:=h.nt;rw [xZ hc,gj h1] at z;by_cases h2:(k:Int)=5∧u=59
 ·obtain ⟨e1,e2⟩:=h2;obtain rfl:=Int.ofNat.inj e1;subst e2;exact ⟨_,_,_,_,_,h1,rfl⟩
 ·rw [WG (by rw [Wz h2];exact bK)] at z;cases cl with
  |true=>exact z.le
  |false=>exact z.le
theorem En.nt (o:En g g')(q:Cl g)(hd:g.dead=false)(w:W K g')(f:fT cl K g'):Nt K (pos K g) [(5,33),(5,58),(5,61),(5,44)]:=by
 refine aa (eR q) ?_;rcases o.st with e|⟨l,e⟩
 ·subst e;exact f.Se rfl
 ·subst e;have z:=nR hd w (.inr q);exact ⟨_,_,_,_,_,z.GP,rfl⟩
theorem En.rd (o:En g g')(q:Cl g)(hd:g.dead=false)(w:W K g')(f:fT cl K g')(d:Int)(ai:Bool):aq SW [P] (PS K d ai g) (.ok .none (PS K d ai g')):=by
 rcases o.st with e|⟨l,e⟩
 ·subst e;have hp:=eR (K:=K) q;obtain ⟨k,u,a,e,l,h1,h2⟩:=f.ce rfl;have h1:ag K.T (ln g:Int)=_:=h1;have z:=gj h1;have p':=xZ (K:=K) (g:={g with pend:=true}) rfl;have p':pos K {g with pend:=true}=if kK K (ln g)=true then ln g+1 else ln g:=p'
  rw [z] at p';by_cases h3:(k:Int)=5∧u=59
  ·rw [WE (WA h3)] at p';obtain ⟨e1,e2⟩:=h3;obtain rfl:=Int.ofNat.inj e1;subst e2;rw [←hp] at h1;exact (wk [.ag h1,.ag h1]:aq SW [P] (PS K d ai g) (.ok .none (aP K (pos K g+1) (pq g d ai)))).to (by unfold PS;exact aa p' (aa hp rfl))
  ·rw [WG (by rw [Wz h3];exact bK)] at p';have n0:Nt K (pos K g) [(5,59)]:=by
    refine ⟨k,u,a,e,l,by refine aa hp ?_;exact h1,?_⟩;cases hz:lR [(5,59)] k u with
    |true=>rfl
    |false=>
     refine WK ?_ h3;unfold lR at hz;have hz:(!(Nat.beq 5 k&&(Nat.beq 59 1||Nat.beq 59 u))&&true)=false:=hz;rw [Bool.and_true,Bool.not_eq_false'] at hz;obtain ⟨y1,y2⟩:=Ws hz;exact ⟨WJ Int.ofNat (WI y1).symm,(WI y2).symm⟩
   have c:=rV (q:=pq g d ai) (f.ce rfl);have c:aq Tp [P] (aP K (ln g) (pq g d ai)) _:=c;rw [←hp] at c;exact (wk [.call (n0.pn Ss 59 d ai),.call c]:aq SW [P] (PS K d ai g) (.ok .none (PS K d ai g))).to (by unfold PS;exact aa p' (aa hp rfl))
 ·subst e;exact wk [.call ((nR hd w (.inr q)).cT d ai)]
end
noncomputable def JT:List Nat:=[43,44,45,46,47,48,49,50,51,52,53,54,55,56,57,58,59,60]
inductive Ia (g g':G):V→Prop
 |no {kk a kids j} (h:kk∈JT):Ia g g' (nd kk a kids 0 j)
 |var {kids j}:Ia g g' (nd 41 Un kids 0 j)
 |ER {w kids j} (h:(!decide (w=Un))=true) (s:aV 2000 10 g g'):Ia g g' (nd 41 w kids 0 j)
 |vo (h:g.dead=false→g'.dead=true):Ia g g' kQ
noncomputable def DG:Nat→Nat
 |0=>10
 |_+1=>60
structure zS (k:Nat)(cl:Bool)(g g':G)(v:V)(b:Nat:=10):Prop where
 af:aV 0 b g g'
 aI:aT (8+3*k) v
 fH: ∀K,g.dead=false→W K g'→zm K g
 rd: ∀K d,g.dead=false→W K g'→(g'.dead=false→fT cl K g')→Dp (5*k+8) d→oE K Su [P,.obj 15] d true g g' v
noncomputable def zw (on:Nat):List V:=if on=0 then [] else if on=1 then [.int 8,.int 9,.int 10,.int 11] else [.int 15,.int 7,.int 12,.int 1,.int 0,.int 15]
noncomputable def Ov:List N:=fy.filterMap λp=>if (Nat.beq p.2 2&& !(Nat.beq p.1 Tj||(Nat.beq p.1 VZ||Nat.beq p.1 TM)))=true then some p.1 else none
noncomputable def Bf (u:N):Bool:=Ov.any (Nat.beq u)
structure El (on:Nat)(K:PK)(g:G):Prop where
 ex:on≠0→ ∃k u a e l,ag K.T (ln g:Int)=some (gp k u a e l)∧(on=1→k=2∧(u=Tj∨u=VZ∨u=TM))∧(on=2→(k=2→Bf u=true)∧(k=1→Nt K (ln g+1) [(5,58)]))
inductive LL (K:PK):Nat→Int→Prop
 |cq {n:Nat} {u a e l} (h:ag K.T (n:Int)=some (gp 2 u a e l)) (hu:u=Tj∨u=VZ∨u=TM):LL K n 1
 |du {n:Nat} {k u a e l} (h:ag K.T (n:Int)=some (gp k u a e l)) (h2:k=2→Bf u=true) (h1:k=1→Nt K (n+1) [(5,58)]):LL K n 0
 |xp {n:Nat} {u a e l a' e' l'} {b:Int} (h:ag K.T (n:Int)=some (gp 1 u a e l)) (h':ag K.T ((n+1:Nat):Int)=some (gp 5 58 a' e' l')) (r:LL K (n+2) b):LL K n b
inductive fU:List V→List V→Prop
 |nil:fU [] []
 |cons {n b c p g} (h:fU p g):fU (.au [.str n,.int b]::p) (.au [.str n,.bool c]::g)
structure M3 (K:PK)(g g':G)(d:Int)(q:PQ):Prop where
 x: ∃σ,aq Su [P,.obj 15] (aP K (pos K g) q) (.ba σ)∧fM K g' σ
inductive zJ (k:Nat)(cl:Bool)(on:Nat)(g g':G):Prop
 |st (h: ∀K,g.dead=false→W K g'→(g'.dead=false→fT cl K g')→El on K g)
 |bL (hd:g.dead=false→g'.dead=true) (h: ∀K q d,g.dead=false→W K g'→q.rows=g.told.map bW→q.deep=d→q.ai=true→fU q.bz g.b.ak→Dp (5*k+8) d→M3 K g g' d q) (ll: ∀K,g.dead=false→W K g'→ ∃b,LL K (ln g) b)
inductive Em (k:Nat)(cl:Bool)(on:Nat)(deep:Int)(g:G):Prop
 |mk (v:V) (g':G) (e:aq Sy [sV,.int deep,.bool cl,.au (zw on)] (aF g) (.ok v (aF g'))) (r:zS k cl g g' v (DG on)) (s:Ia g g' v) (l:zJ k cl on g g')
noncomputable def fm (k:Nat):Prop:= ∀(deep:Int) (cl:Bool) (on:Nat) (g:G),deep+2≤k→ -1≤deep→(on≠0→0≤deep)→on≤2→aj (8*k+30) g→Em k cl on deep g
structure Eo (k:Nat)(cl:Bool)(f:N)(g g':G)(v:V)(b:Nat:=10):Prop where
 af:aV 0 b g g'
 aI:aT (8+3*k) v
 fH: ∀K,g.dead=false→W K g'→zm K g
 rd: ∀K d ai,g.dead=false→W K g'→(g'.dead=false→fT cl K g')→Dp (5*k+9) d→oE K f [P] d ai g g' v
inductive QZ (k:Nat)(cl:Bool)(on:Nat)(deep:Int)(g:G):Prop
 |mk (v:V) (g':G) (e:aq UE [sV,.int deep,.bool cl,.au (zw on)] (aF g) (.ok v (aF g'))) (r:Eo k cl Tn g g' v (DG on)) (l:zJ k cl on g g')
inductive Mr (k:Nat)(cl:Bool)(deep:Int)(g:G):Prop
 |mk (v:V) (g':G) (e:aq UC [sV,.int deep,.bool cl] (aF g) (.ok v (aF g'))) (r:Eo k cl TA g g' v)
section
variable {g g2:G}{n k i j kk a b:Nat}{ai cl l:Bool}{u w:N}{deep:Int}{e v x:V}{q:PQ}{kids:List V}
theorem rv: ∀on:Nat,10≤DG on
 |0=>Nat.le_refl 10
 |_+1=>(by decide:10≤60)
theorem Gh: ∀on:Nat,Nat.ble (DG on) 10000=true
 |0=>rfl
 |_+1=>rfl
theorem Qc (h:kk∈JT)(u:N)(kids:List V)(j:Nat)(σ:St):aq Tt [nd kk u kids 0 j] σ (.ok (.bool false) σ):=by
 have e:JT.map (λkk=>lhs (dq (lv 40) Tt [nd kk u kids 0 j] σ []))=JT.map (λkk=>rhs (.ok (.bool false) σ) (dq (lv 40) Tt [nd kk u kids 0 j] σ [])):=by kernel_rfl
 exact wk _ (List.map_inj_left.mp e kk h)
theorem fT.dP (f:fT cl K (g.dP m j)):fT cl K g:=by
 revert f;unfold G.dP G.ez;split
 ·exact id
 ·exact λf=>⟨f.nt,f.ce,f.rt⟩
theorem sub (SP:fm k)(h1:deep+2≤k)(h0: -1≤deep)(h2:on≠0→0≤deep)(h3:on≤2)(R:aj (8*k+31) g):QZ k cl on deep g:=by
 obtain ⟨v,g1,e,r,s,lb⟩:=SP deep cl on g h1 h0 h2 h3 (R.aw);have R1:aj (8*k+30) g1:=(R.aw (Nat.le_refl _:8*k+30+1≤_)).sg r.af (Gh on);have pr:=λK d ai (hd:g.dead=false) W F (D:Dp (5*k+9) d)=>tg (ai:=ai) D (r.rd K (d+1) hd W F D.up) r.aI (by have:=D.lo;have:=D.hi;lia);cases s with
 | @no kk a kids j h=>
  have t41:decide ((kk:Int)=41)=false:=Wz λe=>by obtain rfl:=Int.ofNat.inj e;exact WK h (by decide)
  refine ⟨_,g1,wk [.call e,.av t41],⟨r.af,r.aI,r.fH,λK d ai hd W F D=>⟨λh1=> ?_,λh1=> ?_⟩⟩,lb⟩
  ·exact wk [.call ((pr K d ai hd W F D).ok h1),.call (Qc h a kids j (PS K d ai g1))]
  ·obtain ⟨σ,x,y⟩:=(pr K d ai hd W F D).ex h1;exact ⟨σ,wk [.call x],y⟩
 |vo h=>
  refine ⟨_,g1,wk [.call e],⟨r.af,r.aI,r.fH,λK d ai hd W F D=>⟨λh1=>WK ((h hd).symm.trans h1) (by decide),λh1=> ?_⟩⟩,lb⟩;obtain ⟨σ,x,y⟩:=(pr K d ai hd W F D).ex h1;exact ⟨σ,wk [.call x],y⟩
 | @var kids j=>
  refine ⟨_,g1,wk [.call e],⟨r.af,r.aI,r.fH,λK d ai hd W F D=>⟨λh1=> ?_,λh1=> ?_⟩⟩,lb⟩
  ·exact wk [.call ((pr K d ai hd W F D).ok h1)]
  ·obtain ⟨σ,x,y⟩:=(pr K d ai hd W F D).ex h1;exact ⟨σ,wk [.call x],y⟩
 | @ER w kids j h s=>
  refine ⟨_,g1.dP 1156 j,wk [.call e,.av (b:=true) rfl,.av h,.av (b:=true) rfl,.call (dP R1 1156 j)],⟨(s.trans ck).dW (by have:=rv on;exact lB this),r.aI,λK hd W=>r.fH K hd (ck.w W),λK d ai hd W F D=>⟨λh1=> ?_,λh1=> ?_⟩⟩,?_⟩
  ·have h2:=eT.symm.trans h1;exact wk [.call ((pr K d ai hd (ck.w W) (λh=>(F h1).dP) D).ok h2),.av (b:=true) rfl,.av h,.call (mY K h2 R1.td 1156 j d ai)]
  ·have h2:=eT.symm.trans h1;obtain ⟨σ,x,y⟩:=(pr K d ai hd (ck.w W) (λh=>(F (eT.trans h)).dP) D).ex h2;exact aa (show g1.dP 1156 j=g1 from gI h2) ⟨σ,wk [.call x],y⟩
  ·cases lb with
   |st h=>exact .st λK hd W F=>h K hd (ck.w W) λh=>(F (eT.trans h)).dP
   |bL hd h ll=>
    refine .bL (λh=>eT.trans (hd h)) (λK q d h1 W h2 h3 h4 h5 h6=> ?_) λK h W=>ll K h (ck.w W);have z:g1.dP 1156 j=g1:=gI (hd h1);rw [z] at W⊢;exact h K q d h1 W h2 h3 h4 h5 h6
noncomputable def G.wB (g:G)(b:GB):G:={g with b:=b}
theorem fM.wB {σ:St}{b:GB}(y:fM K g σ):fM K (g.wB b) σ:=by cases y with|mk r t h=>exact .mk r t h
theorem fM.af {σ:St}{a b:Nat}(y:fM K g σ)(s:aV a b g g')(hd:g.dead=true):fM K g' σ:=by
 obtain ⟨_,_,h⟩:=s.dd hd;cases y with|mk r t e=>exact .mk (h▸r) (h▸t) e
theorem body (SP:fm k)(h1:deep+2≤k)(h0: -1≤deep)(R:aj (8*k+32) g):Mr k cl deep g:=by
 obtain ⟨v,g1,e,r,_⟩:=sub (cl:=cl) (on:=0) (g:=g.wB {g.b with cq:=g.b.cq+1}) SP h1 h0 (λh=>WK rfl h) (by decide) (by
  obtain ⟨r1,r2,r3,r4,r5,r6,r7,r8,r9⟩:=R;exact ⟨r1,by show rM g+_≤_;exact lB r2,by show g.b.ak.length+_≤_;exact lB r3,r4,r5,by show 0≤g.b.cq+1;exact zB r6,r7,r8,r9⟩)
 have eb:g1.wB g.b=g1.wB {g1.b with cq:=g1.b.cq - 1}:=by
  refine aa r.af.bb ?_;show _=g1.wB {g.b with cq:=g.b.cq+1 - 1};exact aa (Int.add_sub_cancel ..) rfl
 refine ⟨v,g1.wB g.b,(wk [.call e]:aq UC [sV,.int deep,.bool cl] (aF g) (.ok v (aF (g1.wB {g1.b with cq:=g1.b.cq - 1})))).to (WJ aF eb),⟨⟨r.af.c,rfl,r.af.tk,r.af.u,r.af.dd,r.af.iv⟩,r.aI,λK hd W=> ?_,λK d ai hd W F D=> ?_⟩⟩
 ·have z:=r.fH K hd ⟨W.lt,W.fn,W.ex⟩;exact ⟨z.nt,z.ce,z.rt⟩
 ·have z:=r.rd K d ai hd ⟨W.lt,W.fn,W.ex⟩ (λh=>let f:=F h;⟨f.nt,f.ce,f.rt⟩) D;refine ⟨λh=> ?_,λh=> ?_⟩
  ·exact (wk [.call (z.ok h)]:aq TA [P] (PS K d ai g) (.ok v (PS K d ai (g1.wB {g1.b with cq:=g1.b.cq - 1})))).to (WJ (PS K d ai) eb)
  ·obtain ⟨σ,x,y⟩:=z.ex h;exact ⟨σ,wk [.call x],y.wB⟩
end
structure Ep (ti:Bool)(g g':G)(v:V):Prop where
 aB:aq Uh [sV,.bool ti] (aF g) (.ok v (aF g'))
 af:aV 0 1 g g'
 dd:g'.dead=g.dead
 cl:g.dead=false→Cl g'
 sh:PH g g' ti v
 aI:aT 7 v
 rd: ∀K d ai,g.dead=false→W K g'→Dp 6 d→aq Sr [P,.int 2] (PS K d ai g) (.ok v (PS K d ai g'))
inductive M7 (ti:Bool)(g:G):Prop
 |mk (v:V) (g':G) (r:Ep ti g g' v)
inductive L0 (b:Nat)(g g':G):V→Prop
 |no {kk a kids j} (h:kk∈JT):L0 b g g' (nd kk a kids 0 j)
 |var {kids j}:L0 b g g' (nd 41 Un kids 0 j)
 |ER {w kids j} (h:(!decide (w=Un))=true) (s:aV 0 1060 g g') (hb:b=3060:=by rfl):L0 b g g' (nd 41 w kids 0 j)
structure zR (k:Nat)(cl:Bool)(b:Nat)(g g':G)(v:V):Prop where
 af:aV 0 b g g'
 aI:aT (8+3*k) v
 sh:L0 b g g' v
 fH: ∀K,g.dead=false→W K g'→zm K g
 rd: ∀K d,g.dead=false→W K g'→(g'.dead=false→fT cl K g')→Dp (5*k+8) d→oE K Su [P,.obj 15] d true g g' v
noncomputable def oG (on:Nat)(cl:Bool)(g g':G):Prop:= ∀K,g.dead=false→W K g'→(g'.dead=false→fT cl K g')→El on K g
inductive fj (k:Nat)(cl:Bool)(on b:Nat)(f:N)(l:List V)(g:G):Prop
 |mk (v:V) (g':G) (e:aq f l (aF g) (.ok v (aF g'))) (r:zR k cl b g g' v) (s:oG on cl g g')
section
variable {g g2:G}{n k i j kk a b:Nat}{ai cl l:Bool}{u w:N}{deep:Int}{e v x:V}{q:PQ}{kids:List V}
theorem gr (R:aj 9 g)(ti:Bool):M7 ti g:=by
 obtain ⟨b,h⟩:=ue R 2;obtain ⟨v,g',p⟩:=DO b ti g (R.aw (by have:=lU b;lia));refine ⟨v,g',?_,p.af,p.dd,p.cl,p.sh,p.pt.aI.le (by have:=lU b;lia),λK d ai hd W D=>p.rd K d ai hd W (D.le (by have:=lU b;lia)) 2 (.tail _ (.head _))⟩;cases b<;>exact wk [.call h,.call p.aB]
theorem oE.of {f:N}{l:List V}(hd:g.dead=false)(h:g'.dead=g.dead)(r:g'.dead=false→aq f l (PS K d ai g) (.ok v (PS K d ai g'))):oE K f l d ai g g' v:=⟨r,λe=>WK ((h.trans hd).symm.trans e) (by decide)⟩
theorem aT.st (t:aT 8 v):aT (8+3*k) v:=t.le (Nat.le_add_right ..)
theorem El.fst (f:ir g g' ti k u)(hd:g.dead=false)(w:W K g')(h1:on=1→k=2∧(u=Tj∨u=VZ∨u=TM))(h2:on=2→(k=2→Bf u=true)∧(k=1→Nt K (ln g+1) [(5,58)])):El on K g:=
 by obtain ⟨_,_,h,_,_,_⟩:=f.lk K hd w;exact ⟨λZ=>⟨_,_,_,_,_,h,h1,h2⟩⟩
theorem uG (R:aj 10 g)(hr:Dr g 5 4)(hon:on≠1):fj k cl on 10 SS [sV,.int 0] g:=by
 obtain ⟨g1,o⟩:=cI (R.sg hr.af) S0 false 1;obtain ⟨g2,o2⟩:=cI ((R.sg (hr.af.trans o.af):aj 9 g1)) 59 false 5;have f:=(o.fst o2.af).nx;have lk:=λK (hd:g.dead=false) (W:W K g2)=>And.intro (o.lk hd (o2.af.w W)) (o2.lk (o.dd.trans hd) W (.inr (o.cl hd)));refine ⟨nd 43 0 [nd 8 S0 [] 0 (ln g)] 0 (ln g),g2,wk [.call hr.aB,.call o.aB,.call o2.aB],⟨((hr.af.trans o.af).trans o2.af).le,.st (.nd (h:=7) ⟨.nd (h:=6) trivial,trivial⟩),.no (by decide),λK hd W=>f.fH hd W,λK d hd W F D=> .of hd (o2.dd.trans o.dd) λh=> ?_⟩,λK hd W F=>El.fst f hd W (λh=>WK h hon) λZ=>⟨λe=>WK e (by decide),λZ=> ?_⟩⟩
 ·obtain ⟨⟨l,q,_⟩,l2,q2,_⟩:=lk K hd W;have A:=vJ (m:=1) W.lt (pq g d true) (q.p1▸q2.bk);have pn:=e8 (k:=2) (g:=g) (ai:=true) (D.le (Nat.succ_pos _:0+1≤_)) (kC q (d+1) true) (.nd (h:=0) trivial) (by decide) (.tail _ (.head _));exact wk [.ag q.bk,.call A,.call A,.ag q.bk,.ag q.bk,.ag q.bk,.ag q.bk,.ag q.bk,.call pn,.call (q2.cT d true)]
 ·obtain ⟨⟨l,q,_⟩,l2,q2,_⟩:=lk K hd W;have z:=q2.nt (F:=[(5,58)]);rw [q.p1,q.pp] at z;exact z
theorem uH (R:aj 10 g){r:Nat}(hr:Dr g 5 r)(h4:r≠4)(hon:on≠1):fj k cl on 10 SS [sV,.int 0] g:=by
 obtain ⟨t,g1,ht,o,en⟩:=uP (R.sg hr.af) false;obtain ⟨g2,e⟩:=wK ((R.sg (hr.af.trans o.af).drop:aj 9 g1));have f:=(o.fst e.af rfl ht.ex).nx;have fH:lR (qc true) 1 t=true:=ht.all (p:=λt=>lR (qc true) 1 t) rfl;have t4:decide ((r:Int)=4)=false:=Wz λe=>h4 (Int.ofNat.inj e);have nt:=λK (hd:g.dead=false) (W:W K g2) (F:g2.dead=false→fT cl K g2)=>e.nt (o.cl hd) (o.dd.trans hd) W (F (e.dd.trans (o.dd.trans hd)));refine ⟨nd 43 0 [nd 8 t [] 0 (ln g)] 0 (ln g),g2,wk [.call hr.aB,.av t4,.call en,.call e.aB],⟨((hr.af.trans o.af).trans e.af).dW,.st (.nd (h:=7) ⟨.nd (h:=6) trivial,trivial⟩),.no (by decide),λK hd W=>f.fH hd W fH,λK d hd W F D=> .of hd (e.dd.trans o.dd) λh=> ?_⟩,λK hd W F=>El.fst f hd W (λh=>WK h hon) λZ=>⟨λe=>WK e (by decide),λZ=> ?_⟩⟩
 ·obtain ⟨l,q,_⟩:=o.lk hd (e.af.w W);obtain ⟨k2,u2,a2,e2,l2,h1,h2⟩:=nt K hd W F;have A:=vJ (m:=1) W.lt (pq g d true) (q.p1▸h1);have T:=Pb (v:=a2) (w:=e2) (l:=l2) h2 5 58 rfl (PS K d true g);have pn:=e8 (k:=2) (g:=g) (ai:=true) (D.le (Nat.succ_pos _:0+1≤_)) (kC q (d+1) true) (.nd (h:=0) trivial) (by decide) (.tail _ (.head _));have E:=e.rd (o.cl hd) (o.dd.trans hd) W (F h) d true;rcases ht with h|h|h|h<;>subst h<;>exact wk [.ag q.bk,.call A,.call T,.ag q.bk,.ag q.bk,.ag q.bk,.ag q.bk,.ag q.bk,.call pn,.call E]
 ·obtain ⟨l,q,_⟩:=o.lk hd (e.af.w W);have z:=nt K hd W F;rw [q.p1,show pos K g.nx=ln g from q.pp] at z;exact z.le
end
section
variable {g g2:G}{n k i j kk a b:Nat}{ai cl l:Bool}{u w:N}{deep:Int}{e v x:V}{q:PQ}{kids:List V}
structure Mv (g g':G):Prop where
 tk:g'.toks=g.toks
 pd:g'.pend=g.pend
 lo:g'.loose=g.loose
 dd:g'.dead=g.dead
 c:g'.c=g.c
 b:g'.b=g.b
theorem Mv.refl:Mv g g:=⟨rfl,rfl,rfl,rfl,rfl,rfl⟩
theorem Mv.trans (x:Mv g g1)(y:Mv g1 g2):Mv g g2:=⟨y.tk.trans x.tk,y.pd.trans x.pd,y.lo.trans x.lo,y.dd.trans x.dd,y.c.trans x.c,y.b.trans x.b⟩
theorem fJ {z:Int}:Mv g (g.dP z j):=by unfold G.dP G.ez;split;exact .refl;exact ⟨rfl,rfl,rfl,rfl,rfl,rfl⟩
theorem eK {b:Bool}{z:Int}:Mv g (g.cU b z j):=by unfold G.cU;split;exact fJ;exact .refl
theorem fY:Mv g (g.zo con late Dl):=by
 induction Dl generalizing g with
 |nil=>exact .refl
 |cons D r ih=>
  refine Mv.trans ?_ ih;refine Mv.trans (g1:=g.kB D con) ?_ ?_
  ·unfold G.kB;split;exact fJ;exact eK
  ·unfold G.ou;split;exact fJ;split;exact fJ;exact eK
theorem Mv.ln (x:Mv g g'):ln g'=Mine.ln g:=WJ List.length x.tk
theorem Mv.pos (x:Mv g g'):pos K g'=Mine.pos K g:=by unfold Mine.pos;exact aa x.pd (aa x.lo (aa x.ln rfl))
theorem Mv.lZ (x:Mv g g')(f:fT cl K g'):fT cl K g:=⟨x.pos▸f.nt,λh=>x.ln▸f.ce (x.pd.trans h),x.ln▸f.rt⟩
theorem Mv.wd (x:Mv g g')(w:W K g'):W K g:=⟨w.lt,w.fn.trans (WJ GC.func x.c),by obtain ⟨r,h,h2⟩:=w.ex;exact ⟨r,by refine fF x.tk (fF x.ln ?_);exact h,λh=>h2 (x.dd.trans h)⟩⟩
theorem JP (R:aj 27 g)(hon:on≠1):fj k cl on 3060 SS [sV,.int 1] g:=by
 obtain ⟨w,g1,D,Dl,x,vs,p⟩:=Hm R.jy;obtain ⟨g2,e⟩:=wK (R.sg (p.af.dW:aV 0 16 g g1));have s2:aV 0 17 g g2:=(p.af.trans e.af).dW;have R2:aj 26 g2:=R.sg s2;obtain ⟨kw,f,hf⟩:=p.fst;have f:=f.to (e.af.trans (mV (con:=dR w) (late:=false) (Dl:=D::Dl)));have dd:(g2.zo (dR w) false (D::Dl)).dead=g.dead:=(wu.trans e.dd).trans p.dd;have sC:aV 0 17 g (g2.zo (dR w) false (D::Dl)):=(((p.PT false).trans e.af).trans mV).dW;have z:=p.ds;refine ⟨nd 41 w (x::vs) 0 (ln g),g2.zo (dR w) false (D::Dl),wk [.call p.aB,.call e.aB,.call (Dm (w:=w) (j:=ln g) R2 z false)],⟨sC.le,.st p.aI,?_,λK hd W=>f.fH hd W (xe hf),λK d hd W F D=> .of hd dd λh=> ?_⟩,λK hd W F=>El.fst f hd W (λh=>WK h hon) λZ=> ?_⟩
 ·refine bc (decide (w=Un)) (λe=> ?_) λe=> ?_
  ·cases Wy e;exact .var
  ·exact .ER (by exact aa e rfl) sC.le
 ·have W2:=fY.wd W;have W1:=e.af.w W2;have F2:=fY.lZ (F h);have d1:=p.dd.trans hd;have nt:=e.nt (p.cl hd) d1 W2 F2;have V:=p.rd K d true hd W1 nt (D.le (by simp+arith));have E:=e.rd (p.cl hd) d1 W2 F2 d true;have C:=DL (K:=K) (w:=w) (j:=ln g) R2 (e.dd.trans d1) z false d true;obtain ⟨l,q,_⟩:=f.lk K hd W;clear f;rcases Wv hf with h|hf
  ·cases h;exact wk [.ag q,.call (p.Of K d true hd W1 rfl),.call V,.call E,.call C]
  rcases Wv hf with h|hf
  ·cases h;exact wk [.ag q,.call V,.call E,.call C]
  ·cases Wx hf;exact wk [.ag q,.call V,.call E,.call C]
 ·rcases Wv hf with h|hf
  ·cases h;exact ⟨λe=>WK e (by decide),λZ=>p.nx K hd (e.af.w (fY.wd W)) rfl⟩
  ·have z:=Wu (show ([(2,Ui),(2,Un)]:List (Nat×N)).all (λp=>decide (p.1≠1∧Bf p.2=true))=true from rfl) _ hf;have z:=Wy z;exact ⟨λZ=>z.2,λh=>WK h z.1⟩
end
section
variable {g g2:G}{n k i j kk a b:Nat}{ai cl l:Bool}{u w:N}{deep:Int}{e v x:V}{q:PQ}{kids:List V}
theorem oW (o:Tk g1 g' 59 false 5 59)(q:g1.dead=false→Cl g1)(e:aq SS [sV,.int 4] (aF g) (.ok (nd 60 0 [] 0 (ln g1)) (aF g')))(s:aV 0 1 g g1)(dd:g1.dead=g.dead)(hp: ∀K d ai,g.dead=false→W K g1→PS K d ai g=PS K d ai g1∧pos K g=pos K g1∧(g.pend=true→CE K (ln g))∧(g1=g∨RT K (ln g)))(hon:on=0):fj k cl on 3060 SS [sV,.int 4] g:=by
 refine ⟨_,g',e,⟨(s.trans o.af).le,.st (.nd (h:=7) trivial),.no (by decide),λK hd W=> ?_,λK d hd W F D=> .of hd (o.dd.trans dd) λh=> ?_⟩,λK hd W F=> ?_⟩
 ·have hd1:=dd.trans hd;obtain ⟨l,y,_⟩:=o.lk hd1 W (.inr (q hd1));obtain ⟨_,h2,h3,h4⟩:=hp K 0 true hd (o.af.w W);refine ⟨?_,h3,h4.elim (λe=>⟨_,_,_,_,_,e▸y.GP⟩) id⟩;refine aa h2 ?_;cases decide (0<g.b.bD) with
  |true=>exact y.nt
  |false=>exact y.nt
 ·have hd1:=dd.trans hd;obtain ⟨l,y,_⟩:=o.lk hd1 W (.inr (q hd1));exact aa ((hp K d true hd (o.af.w W)).1) (wk [.ag y.bk,.ag y.bk,.call (y.cT d true)])
 ·exact ⟨λh=>WK hon h⟩
noncomputable def DF (n:Nat):List aD:=List.replicate n (.av (b:=false) rfl)
theorem JQ (R:aj 2 g)(hon:on=0):fj k cl on 3060 SS [sV,.int 4] g:=by
 obtain ⟨g1,o⟩:=cI R 59 false 5;obtain ⟨g2,o2⟩:=cI (R.sg o.af) 59 false 5;have ex:(g.pend||g.loose)=true→aq SS [sV,.int 4] (aF g) (.ok (nd 60 0 [] 0 (ln g1)) (aF g2))→fj k cl on 3060 SS [sV,.int 4] g:=λh e=>oW o2 (λh=>o.cl (o.dd.symm.trans h)) e o.af o.dd (λK d ai hd W=>by
  obtain ⟨l,e,_⟩:=o.st;obtain ⟨r,h2,_⟩:=W.ex;have e1:g1.toks=g.toks++[jt 5 59 (ln g) l]:=by exact aa e (aa (dh hd) rfl)
  have h1:ag K.T (ln g:Int)=some (jt 5 59 (ln g) l):=de (by refine aa h2 (aa e1 ?_);simp) W.lt;have p0:pos K g=ln g+1:=by exact aa (kH ..) (aa h (aa (Bool.true_and ..) (aa (pV h1) rfl)))
  have p1:pos K g1=ln g+1:=by exact aa (eR (o.cl hd)) (aa (show ln g1=ln g+1 from (WJ List.length e1).trans (Wo ..)) rfl)
  refine ⟨?_,p0.trans p1.symm,λZ=>⟨_,_,_,_,_,h1,Bool.or_true _⟩,.inr ⟨_,_,_,_,_,h1⟩⟩;unfold PS;exact aa p0 (aa p1 (aa e (aa (dh hd) rfl)))) hon
 cases hp:g.pend with
 |true=>exact ex (by exact aa hp rfl) (wk (DF 5++[.av (b:=true) rfl,.av hp,.call o.aB,.call o2.aB]))
 |false=>
  cases hl:g.loose with
  |true=>exact ex (by exact aa hp (aa hl rfl)) (wk (DF 5++[.av (b:=true) rfl,.av hp,.av hl,.call o.aB,.call o2.aB]))
  |false=>
   have q:Cl g:=by unfold Cl;exact aa hp (aa hl rfl)
   exact oW o (λZ=>q) (wk (DF 5++[.av (b:=true) rfl,.av hp,.av hl,.call o.aB])) aV.refl.le rfl (λK d ai hd W=>⟨rfl,rfl,λh=>WK h (by refine aa hp ?_;decide),.inl rfl⟩) hon
theorem En.ce (o:En g g')(q:Cl g)(hd:g.dead=false)(w:W K g')(f:fT cl K g'):CE K (ln g):=by
 rcases o.st with e|⟨l,e⟩
 ·subst e;exact f.ce rfl
 ·subst e;exact ⟨_,_,_,_,_,(nR hd w (.inr q)).GP,Bool.or_true _▸(by cases l<;>rfl)⟩
theorem A7 {q:PQ}(h:ag K.T (n:Int)=some (jt k u i false))(hf:(k,u)∈lM):aq Tp [P] (aP K n q) (.ok (.bool false) (aP K n q)):=by
 rcases nN hf with e|⟨e,e2|e2⟩
 ·subst e;exact wk [.ag h]
 ·subst e e2;exact wk [.ag h]
 ·subst e e2;exact wk [.ag h]
structure zl (b:Bool)(g g':G)(v:V):Prop where
 bR:b=true→Ep true g g' v
 no:b=false→v= .none∧g'=g
theorem RO (b:Bool)(R:aj 9 g): ∃v g',zl b g g' v:=by
 cases b with
 |true=>obtain ⟨v,g',p⟩:=gr R true;exact ⟨v,g',λZ=>p,jN⟩
 |false=>exact ⟨.none,g,bK,λZ=>⟨rfl,rfl⟩⟩
theorem zl.af {b:Bool}(h:zl b g g' v):aV 0 1 g g':=bc b (λe=>(h.bR e).af) λe=>(h.no e).2▸aV.refl.le
theorem zl.dd {b:Bool}(h:zl b g g' v):g'.dead=g.dead:=bc b (λe=>(h.bR e).dd) λe=>(h.no e).2▸rfl
theorem zl.Dd {b:Bool}(h:zl b g g' v)(hd:g.dead=false)(q:Cl g):Cl g':=bc b (λe=>(h.bR e).cl hd) λe=>(h.no e).2▸q
theorem zl.aI {b:Bool}(h:zl b g g' v):aT 7 v:=bc b (λe=>(h.bR e).aI) λe=>(h.no e).1▸ .none
theorem Mv.Dd (x:Mv g g')(q:Cl g):Cl g':=by unfold Cl;exact aa x.pd (aa x.lo q)
theorem GI {z b:Bool}(o:Lk K g g1 2 V3 l)(hz:decide (K.func=0)=z)(hf:g1.told.length<16000000)(d1:g1.dead=false)(q:Cl g1)(p:zl b (cond z (g1.dP 1108 (ln g)) g1) g2 v)(e:En g2 g3)(W:W K g3)(F:fT cl K g3)(D:Dp 6 d):aq Su [P,.obj 15] (PS K d true g) (.ok (nd 52 0 [v] 0 (ln g)) (PS K d true g3)):=by
 have M:Mv g1 (cond z (g1.dP 1108 (ln g)) g1):=by cases z;exact .refl;exact fJ
 have dt:=M.dd.trans d1;have qt:=M.Dd q;have w2:=e.af.w W;have E:=e.rd (p.Dd dt qt) (p.dd.trans dt) W F d true;have tl:=mY K d1 hf 1108 (ln g) d true;cases b with
 |true=>
  have p:=p.bR rfl;obtain ⟨k1,a1,ks,k',u',_,f,hf⟩:=p.sh;obtain ⟨l2,q2,_,_,hl,_⟩:=f.lk K dt w2;have e2:=hl rfl (Bool.or_eq_false_iff.mp qt).1;subst e2;have N:=A7 (q:=pq (cond z (g1.dP 1108 (ln g)) g1) d true) q2 hf;have V:=p.rd K d true dt w2 D;cases z with
  |true=>exact wk [.ag o.bk,.call (o.aE d true),.av hz,.call tl,.call N,.call V,.call E]
  |false=>exact wk [.ag o.bk,.call (o.aE d true),.av hz,.call N,.call V,.call E]
 |false=>
  obtain ⟨e1,e2⟩:=p.no rfl;subst e1 e2;have C:=e.ce qt dt W F;rw [←eR (K:=K) qt] at C;have N:=rV (q:=pq (cond z (g1.dP 1108 (ln g)) g1) d true) C;cases z with
  |true=>exact wk [.ag o.bk,.call (o.aE d true),.av hz,.call tl,.call N,.call E]
  |false=>exact wk [.ag o.bk,.call (o.aE d true),.av hz,.call N,.call E]
theorem JR (R:aj 12 g)(hon:on=0):fj k cl on 3060 SS [sV,.int 5] g:=by
 obtain ⟨g1,o⟩:=cI R V3 false 2;obtain ⟨z,hz⟩: ∃z,decide (g.c.func=0)=z:=⟨_,rfl⟩;have R1:aj 11 g1:=R.sg o.af;have tl:=dP R1 1108 (ln g);have M:Mv g1 (cond z (g1.dP 1108 (ln g)) g1):=by cases z;exact .refl;exact fJ
 have sT:aV 0 2000 g1 (cond z (g1.dP 1108 (ln g)) g1):=by cases z;exact aV.refl.le;exact ck
 have R2:=R1.sg sT;obtain ⟨b3,h3⟩:=ue R2 3;obtain ⟨v,g2,p⟩:=RO b3 (R2.jy);have s2:=(o.af.trans sT).trans p.af;obtain ⟨g3,e⟩:=wK (R.sg s2);have dd:=((e.dd.trans p.dd).trans M.dd).trans o.dd;have hz1:decide (g1.c.func=0)=z:=by exact aa o.af.c hz
 refine ⟨nd 52 0 [v] 0 (ln g),g3,?_,⟨(s2.trans e.af).le,.st (.nd ⟨p.aI,trivial⟩),.no (by decide),λK hd W=>(o.fst (sT.trans (p.af.trans e.af))).fH hd W,λK d hd W F D=> .of hd dd λh=> ?_⟩,λK hd W F=>⟨λh=>WK hon h⟩⟩
 ·cases b3 with
  |true=>
   have V:=(p.bR rfl).aB;cases z with
   |true=>exact wk (DF 6++[.call o.aB,.av (b:=true) rfl,.av hz1,.call tl,.call h3,.call V,.call e.aB])
   |false=>exact wk (DF 6++[.call o.aB,.av (b:=true) rfl,.av hz1,.call h3,.call V,.call e.aB])
  |false=>
   obtain ⟨e1,e2⟩:=p.no rfl;subst e1 e2;cases z with
   |true=>exact wk (DF 6++[.call o.aB,.av (b:=true) rfl,.av hz1,.call tl,.call h3,.call e.aB])
   |false=>exact wk (DF 6++[.call o.aB,.av (b:=true) rfl,.av hz1,.call h3,.call e.aB])
 ·obtain ⟨l,q,_⟩:=o.lk hd (sT.w (p.af.w (e.af.w W)));exact GI q (by exact aa W.fn (aa ((s2.trans e.af).c) hz)) R1.td (o.dd.trans hd) (o.cl hd) p e W (F h) (D.le (by simp+arith))
theorem JS (R:aj 11 g)(hon:on=0):fj k cl on 3060 SS [sV,.int 6] g:=by
 obtain ⟨g1,o⟩:=cI R V9 false 2;obtain ⟨v,g2,p⟩:=gr ((R.sg o.af:aj 10 g1).jy) true;have s2:=o.af.trans p.af;obtain ⟨g3,e⟩:=wK (R.sg s2);have dd:=(e.dd.trans p.dd).trans o.dd;refine ⟨nd 56 0 [v] 0 (ln g),g3,wk (DF 6++[.call o.aB,.av (b:=false) rfl,.av (b:=false) rfl,.call p.aB,.call e.aB]),⟨(s2.trans e.af).le,.st (.nd ⟨p.aI,trivial⟩),.no (by decide),λK hd W=>(o.fst (p.af.trans e.af)).fH hd W,λK d hd W F D=> .of hd dd λh=> ?_⟩,λK hd W F=>⟨λh=>WK hon h⟩⟩;have d1:=o.dd.trans hd;have d2:=p.dd.trans d1;have w2:=e.af.w W;obtain ⟨l,q,_⟩:=o.lk hd (p.af.w w2);obtain ⟨k1,a1,ks,k',u',_,f,hf⟩:=p.sh;obtain ⟨l2,q2,_,_,hl,_⟩:=f.lk K d1 w2;obtain rfl:=hl rfl (Bool.or_eq_false_iff.mp (o.cl hd)).1;exact wk [.ag q.bk,.call (q.aE d true),.ag q2,.call (p.rd K d true d1 w2 (D.le (by simp+arith))),.call (e.rd (p.cl d1) d2 W (F h) d true)]
end
end Mine
end
noncomputable section
namespace Mine
open PySem PySem.W PySem.Calls PyProof.Rows PySem.SeqAt
section
variable {f x:N}{e:Expr}{g:Comprehension}{sc:Scope}{p:Pos}{ρ ρ':ao}{σ σ':St}{vs l:List V}{fs fs' fs1:List aD}{ks:Ks}{get:ao→St→Option (List V)}{φ:V→ao→St→List aD→TO (Option V)}{F:V→List aD}{G:V→Option V}
theorem CT.of (hc:jl fs=none)(h:qS (lv 40) (bj f ρ σ) e g sc ρ σ fs= .ok vs ρ' σ' fs' ks)(hk:bN ks):CT f e g sc p ρ σ vs ρ' σ':=λC γ s H F=>by
 have z:=C5 (e:=e) (g:=g) (sc:=sc) (p:=p) (fs:=fs) (gT 40) H F;have e1:qT (lv 40) (bj f ρ σ) e g sc p ρ σ fs= .ok vs ρ' σ' fs' ks:=by unfold qT;exact aa hc h
 rw [e1] at z;exact (z hk).1
noncomputable def PA (φ:V→ao→St→List aD→TO (Option V))(ρ:ao)(σ:St)(v:V)(o:Option V):Prop:= ∃F,(∀fs,jl fs=none→jl (F++fs)=none)∧ ∀fs,∃ks,φ v ρ σ (F++fs)= .ok o ρ σ fs ks∧bN ks
theorem FQ (hg:get ρ σ=some l)(h: ∀v∈l,PA φ ρ σ v (G v))(n:Nat): ∀i,i+n=l.length→ ∃F,jl F=none∧ ∃ks,fO get φ n i ρ σ F= .ok ((l.drop i).filterMap G) ρ σ [] ks∧bN ks:=by
 induction n with
 |zero=>
  intro i hi;refine ⟨[],rfl,[],?_,trivial⟩;show tO (get ρ σ) _=_;refine aa hg (aa (List.drop_eq_nil_of_le (Nat.le_of_eq (show l.length=i from hi.symm))) ?_);show tI (decide (l.length=i)) _=_;exact aa (WA (show l.length=i from hi.symm)) rfl
 |succ n ih=>
  intro i hi;have hlt:i<l.length:=by exact lS hi
  obtain ⟨F2,hF,k2,e2,K2⟩:=ih (i+1) (lE hi);obtain ⟨F1,h1,h2⟩:=h l[i] (List.getElem_mem hlt);obtain ⟨k1,e1,K1⟩:=h2 F2;refine ⟨F1++F2,h1 F2 hF,k1++(k2++[]),?_,K1.append (K2.append trivial)⟩;refine aa (List.drop_eq_getElem_cons hlt) ?_;show tO (get ρ σ) _=_;refine aa hg ?_;show tO l[i]? _=_;refine aa (List.getElem?_eq_getElem hlt) ?_;show TO.bind (φ l[i] ρ σ _) _=_;refine aa e1 ?_;show TO.pre k1 (TO.bind (fO get φ n (i+1) ρ σ _) _)=_;refine aa e2 (aa List.filterMap_cons ?_);cases G l[i]<;>rfl
theorem CT.map {k0:Ks}{v0:V}(hl:l.length<16000000)(hv:bf (.v v0) ρ σ=some l)(hc: ∀fs,jl fs=none→jl (fs1++fs)=none)
  (h0: ∀fs,qS (lv 40) (bj f ρ σ) e g sc ρ σ (fs1++fs)=(tI (decide (l.length<16000000)) ((fO (bf (.v v0)) φ l.length 0 ρ σ fs).at ρ)).pre k0) (K0:bN k0)
  (h: ∀v∈l,PA φ ρ σ v (G v)):CT f e g sc p ρ σ (l.filterMap G) ρ σ:=by
 obtain ⟨F,hF,ks,e,K⟩:=FQ (get:=bf (.v v0)) hv h l.length 0 (Nat.zero_add _);rw [List.drop_zero] at e;refine CT.of (fs:=fs1++F) (fs':=[]) (ks:=k0++ks) (hc F hF) ?_ (K0.append K);exact aa (h0 ..) (aa (WA hl) (aa e rfl))
theorem eO.sub {st:Stmt}{ρ2 ex:ao}(h:eO f st ρ σ (.next (ρ2++ex) σ'))(hx:ex.all gS=true:=by rfl):eO f st ρ σ (.next ρ2 σ'):=λC γ s H F=>
 wpAny_mono (h C γ s H F) (λZ Z z=>z.sub (.inr ⟨_,_,_,rfl,⟨ex,rfl,hx⟩,rfl⟩)) λZ Z z=>z.sub (.inr ⟨_,_,_,rfl,⟨ex,rfl,hx⟩,rfl⟩)
end
section
variable {K:PK}{g g1 g2 g3 g':G}{n k m i j kk a b on r:Nat}{ti ai cl l con late:Bool}{u t w:N}{d deep:Int}{e v x row:V}{q:PQ}{L:List V}
noncomputable def jc (v:V):N:=(((((bf (.v v) [] []).getD [])[0]?).getD .none|>fK)).getD 0
noncomputable def Qj (u:N):ao:=[(112,.val P),(1701667182,.val (.str u))]
noncomputable def tY (x:V):Prop:= ∃n b,x= .au [.str n,.int b]
noncomputable def dU (u:N)(L:List V):Option V:=L.find? λx=>jc x==u
theorem GN (hL: ∀x∈q.bz,tY x)(n':Nat): ∀i,i+n'=q.bz.length→eN (bj Tv [] (aP K n q)) (bf (.v (.obj 11))) 7827314 (dK (eS Tv 0)) n' i (Qj u) (aP K n q) (match dU u (q.bz.drop i) with|some r=> .ret r (aP K n q)|none=> .next (Qj u) (aP K n q)):=by
 induction n' with
 |zero=>
  intro i hi;exact aa (List.drop_eq_nil_of_le (Nat.le_of_eq (show q.bz.length=i from hi.symm))) (.done (l:=q.bz) rfl hi.symm)
 |succ n' ih=>
  intro i hi;have hlt:i<q.bz.length:=by exact lS hi
  have hg:=List.getElem?_eq_getElem hlt;obtain ⟨a,b,e⟩:=hL _ (List.getElem_mem hlt);refine aa (List.drop_eq_getElem_cons hlt) ?_;have z:=ih (i+1) (by lia);rw [e] at hg⊢;by_cases h:a=u
  ·subst h;rw [show dU a (V.au [.str a,.int b]::q.bz.drop (i+1))=some (.au [.str a,.int b]) from List.find?_cons_of_pos (beq_self_eq_true a)];exact eN.last (o1:= .ret (.au [.str a,.int b]) (aP K n q)) (fs:=[.av (show decide (a=a)=true from WA rfl)]) (l:=q.bz) rfl hg
  ·rw [show dU u (V.au [.str a,.int b]::q.bz.drop (i+1))=dU u (q.bz.drop (i+1)) from List.find?_cons_of_neg (by show¬(a==u)=true;exact aa (beq_eq_false_iff_ne.mpr h) bK)];exact z.b9 (fs:=[.av (show decide (a=u)=false from Wz h)]) (l:=q.bz) rfl hg [(7827314,.val (.au [.str a,.int b]))]
theorem FF (hL: ∀x∈q.bz,tY x)(u:N):aq Tv [P,.str u] (aP K n q) (.ok ((dU u q.bz).getD .none) (aP K n q)):=by
 have z:=eN.iw (f:=Tv) (st:=eS Tv 0) (fs0:=[]) (fs1:=[]) (k0:=[]) (GN (K:=K) (n:=n) (u:=u) hL q.bz.length 0 (Nat.zero_add _)) (λT=>by kernel_rfl);rw [List.drop_zero] at z;cases h:dU u q.bz with
 |some r=>rw [h] at z;exact wk [.eJ z]
 |none=>rw [h] at z;exact wk [.eJ z]
end
end Mine
end
noncomputable section
namespace Mine
open PySem
variable {K:PK}{d deep:Int}{on b i k m kk r num a a0:Nat}{ti late l ai br nm sn:Bool}{row F c:V}{q:PQ}{u lb:N}{g3:G}{L A ks:List V}{Dl:List DI}{D:DI}
noncomputable def vY:Stmt→Expr
 | .Assign _ v _=>v
 |_=> .List [] default
noncomputable def qC:Expr→Expr
 | .ListComp e _ _ _=>e
 |e=>e
noncomputable def qD:Expr→Comprehension
 | .ListComp _ gs _ _=>(match gs with
  |g::_=>g
  |[]=>⟨.List [] default,.List [] default,[],0⟩)
 |_=>⟨.List [] default,.List [] default,[],0⟩
noncomputable def qE:Expr→Scope
 | .ListComp _ _ s _=>s
 |_=>default
noncomputable def zr:Expr→Pos
 | .ListComp _ _ _ p=>p
 |_=>default
noncomputable def jW (w:N)(a:V)(r:Nat)(ex:ao):ao:=(115,.val sV)::(Vd,.val (.str w))::(TP,.val a)::(7827304,.val (.int (r:Int)))::ex
noncomputable def gV (L:List V):List V:=L.filterMap λv=>some (.str (jc v))
noncomputable def ju (u:N)(L:List V):Nat:=L.countP λv=>jc v==u
noncomputable def Hr (L:List V)(v:V):Bool:=decide ((ju (jc v) L:Int)=1)
noncomputable def Fj:Expr:=vY (eS SY 2)
noncomputable def Fl:Expr:=vY (eS SY 3)
section
variable {g g1 g2 g':G}{n j:Nat}{cl con:Bool}{t w:N}{e v x:V}
theorem Om:(gV L).length=L.length:=by
 unfold gV;induction L with
 |nil=>rfl
 |cons x r ih=>exact aa List.filterMap_cons (WJ (·+1) ih)
theorem z6 (u:N):fZ (.str u) (gV L)=some (ju u L):=by
 induction L with
 |nil=>rfl
 |cons x r ih=>
  have e1:gV (x::r)= .str (jc x)::gV r:=List.filterMap_cons ..;refine aa e1 ?_;show (match jB 8 (.str (jc x)) (.str u) with|some b=>(fZ (.str u) (gV r)).map λn=>n+if b=true then 1 else 0|none=>none)=_;refine aa (show jB 8 (.str (jc x)) (.str u)=some (decide (jc x=u)) by kernel_rfl) ?_;show (fZ (.str u) (gV r)).map _=_;refine aa ih ?_;unfold ju;refine aa List.countP_cons ?_;refine WJ some (WJ _ ?_);by_cases h:jc x=u
  ·exact aa (WA h) (aa (beq_iff_eq.mpr h) rfl)
  ·exact aa (Wz h) (aa (beq_eq_false_iff_ne.mpr h) rfl)
theorem rY:(gV L).all (bS 8)=true:=by
 unfold gV;induction L with
 |nil=>rfl
 |cons x r ih=>exact aa List.filterMap_cons ih
theorem uo (h:L.length<16000000)(u:N):ft (.str u) (gV L)=some (ju u L):=by
 unfold ft;exact aa (WE (by rw [rY,Om,WA h];rfl)) (z6 u)
theorem sj: ∀{L:List V},row∈L→ju (jc row) L=1→dU (jc row) L=some row
 |x::r,hm,hc=>by
  unfold ju at hc;rw [List.countP_cons] at hc;by_cases h:jc x=jc row
  ·refine aa (show dU (jc row) (x::r)=some x from List.find?_cons_of_pos (beq_iff_eq.mpr h)) ?_;rcases Wv hm with e|e
   ·exact aa e rfl
   ·have:0<r.countP λv=>jc v==jc row:=List.countP_pos_iff.mpr ⟨row,e,beq_self_eq_true _⟩;rw [WE (beq_iff_eq.mpr h)] at hc;lia
  ·refine aa (show dU (jc row) (x::r)=dU (jc row) r from List.find?_cons_of_neg (by rw [beq_eq_false_iff_ne.mpr h];exact bK)) ?_;rw [WG (by rw [beq_eq_false_iff_ne.mpr h];exact bK)] at hc;rcases Wv hm with e|e
   ·exact WK (WJ jc e.symm) h
   ·exact sj e hc
theorem wz (hL: ∀x∈g.b.ak,ix x)(hl:g.b.ak.length<16000000):CT SY (qC Fj) (qD Fj) (qE Fj) (zr Fj) (jW w v r []) (aF g) (gV g.b.ak) (jW w v r []) (aF g):=
 CT.map (v0:= .obj 2) (fs1:=[]) (k0:=[]) (φ:=bQ (lv 40) (bj SY (jW w v r []) (aF g)) (qE Fj) 7827314 (qD Fj).ifs (qC Fj)) hl rfl (λZ h=>h) (λfs=>by kernel_rfl) trivial λx hx=>by
  obtain ⟨n,b,e,_⟩:=hL x hx;subst e;exact ⟨[.ag (l:=[.str n,.bool b]) (i:=0) (v:= .str n) rfl],λZ Z=>rfl,λfs=>⟨[(.ag [.str n,.bool b] 0,.ag [.str n,.bool b] 0)],by kernel_rfl,rfl,trivial⟩⟩
theorem Ac (hL: ∀x∈g.b.ak,ix x)(hl:g.b.ak.length<16000000):CT SY (qC Fl) (qD Fl) (qE Fl) (zr Fl) (jW w v r [(495622906222,.val (.list (gV g.b.ak)))]) (aF g) (g.b.ak.filterMap λx=>if Hr g.b.ak x=true then some x else none) (jW w v r [(495622906222,.val (.list (gV g.b.ak)))]) (aF g):=
 CT.map (v0:= .obj 2) (fs1:=[]) (k0:=[]) (φ:=bQ (lv 40) (bj SY (jW w v r [(495622906222,.val (.list (gV g.b.ak)))]) (aF g)) (qE Fl) 7827314 (qD Fl).ifs (qC Fl)) hl rfl (λZ h=>h) (λfs=>by kernel_rfl) trivial λx hx=>by
  obtain ⟨n,b,e,_⟩:=hL x hx;subst e;have hc:=uo hl n;have e1:(.au [.str n,.bool b]:V)= .au [.str n,.bool b]:=rfl;refine bc (Hr g.b.ak (.au [.str n,.bool b])) (λh=> ?_) λh=> ?_
  ·refine aa (WE h) ?_;have h:decide ((ju n g.b.ak:Int)=1)=true:=h;exact ⟨[.ag (l:=[.str n,.bool b]) (i:=0) (v:= .str n) rfl,.ew hc,.av h],λZ Z=>rfl,λfs=>⟨[(.ag [.str n,.bool b] 0,.ag [.str n,.bool b] 0),(.ew (.str n) (gV g.b.ak),.ew (.str n) (gV g.b.ak)),(.av (decide ((ju n g.b.ak:Int)=1)),.av (decide ((ju n g.b.ak:Int)=1)))],by kernel_rfl,rfl,rfl,rfl,trivial⟩⟩
  ·refine aa (WG (by rw [h];exact bK)) ?_;have h:decide ((ju n g.b.ak:Int)=1)=false:=h;exact ⟨[.ag (l:=[.str n,.bool b]) (i:=0) (v:= .str n) rfl,.ew hc,.av h],λZ Z=>rfl,λfs=>⟨[(.ag [.str n,.bool b] 0,.ag [.str n,.bool b] 0),(.ew (.str n) (gV g.b.ak),.ew (.str n) (gV g.b.ak)),(.av (decide ((ju n g.b.ak:Int)=1)),.av (decide ((ju n g.b.ak:Int)=1)))],by kernel_rfl,rfl,rfl,rfl,trivial⟩⟩
end
noncomputable def jE (br:Bool)(v:V)(r:Nat)(L A:List V)(lb:N)(num:Nat):ao:=jW (cond br VW UZ) v r [(495622906222,.val (.list (gV L))),(1936550241,.val (.list A)),(465557414252,.val (.str lb)),(SM,.val (.int (num:Int)))]
noncomputable def IY (br:Bool):N:=cond br UU Ue
noncomputable def G.kU (g:G)(num j:Nat):G:=if num=0 then g else g.dP num j
noncomputable def PX:Stmt→Stmt
 | .If _ _ e _=>fC e 0
 |s=>s
noncomputable def jS:Stmt:=eS SY 6
noncomputable def Eb (br:Bool)(g:G)(lb:N)(num:Nat):Prop:= ∀K d ai (g':G),g'.b=g.b→g'.dead=false→g'.told.length<16000000→ ∀j,aq (IY br) [P,.str lb,pv j] (PS K d ai g') (.ok .none (PS K d ai (g'.kU num j)))
inductive MP (br:Bool)(v:V)(r:Nat)(A:List V)(g:G):Prop
 |mk (lb:N) (num:Nat) (s:eO SY jS (jE br v r g.b.ak A 0 0) (aF g) (.next (jE br v r g.b.ak A lb num) (aF g))) (l:lb=0∨bt fy lb=some 1∧(lb==0)=false) (c:Eb br g lb num)
section
variable {g g1 g2 g':G}{n j:Nat}{cl:Bool}{t w:N}{e v x:V}
theorem mG (hL: ∀x∈L,ix x): ∀x∈L.map cR,tY x:=λx hx=>by
 obtain ⟨y,hy,e⟩:=List.mem_map.mp hx;obtain ⟨n,b,e2,_⟩:=hL y hy;subst e e2;exact ⟨n,_,rfl⟩
theorem sk {L:List V}{x:V}(h:(jc x==u)=true):dU u (x::L)=some x:=List.find?_cons_of_pos h
theorem si {L:List V}{x:V}(h:(jc x==u)=false):dU u (x::L)=dU u L:=List.find?_cons_of_neg (by exact aa h bK)
theorem ng (hL: ∀x∈L,ix x)(u:N):dU u (L.map cR)=(dU u L).map cR:=by
 induction L with
 |nil=>rfl
 |cons y r ih=>
  obtain ⟨n,b,e2,_⟩:=hL y (.head _);subst e2;have ih:=ih λx hx=>hL x (.tail _ hx);refine aa List.map_cons ?_;refine bc (n==u) (λh=> ?_) λh=> ?_
  ·exact aa (sk (x:= .au [.str n,.bool b]) h) (sk (x:=cR (.au [.str n,.bool b])) h)
  ·exact aa (si (x:= .au [.str n,.bool b]) h) (fF ih (si (x:=cR (.au [.str n,.bool b])) h))
theorem DN (hL: ∀x∈g.b.ak,ix x)(hb:g'.b=g.b)(u:N)(d:Int)(ai:Bool):aq Tv [P,.str u] (PS K d ai g') (.ok (((dU u g.b.ak).map cR).getD .none) (PS K d ai g')):=by
 have e:(pq g' d ai).bz=g.b.ak.map cR:=WJ (λb=>b.ak.map cR) hb;have z:=FF (K:=K) (n:=pos K g') (q:=pq g' d ai) (by exact aa e (mG hL)) u;rw [e,ng hL] at z;exact z
theorem Ge (hl:0≤g.b.cq)(hs:0≤g.b.switch): ∃num,eO SY (PX (PX jS)) (jE br v r g.b.ak A 0 0) (aF g) (.next (jE br v r g.b.ak A 0 num) (aF g))∧Eb br g 0 num:=by
 cases br with
 |true=>
  refine bc (decide (g.b.cq+g.b.switch=0)) (λh=> ?_) λh=> ?_
  ·have z:=Wy h;refine ⟨1105,cD [.av (b:=true) rfl,.av h],λK d ai g' hb hd ht j=> ?_⟩;exact wk [.av (b:=true) rfl,.av (show decide (g'.b.cq=0)=true by exact aa hb (WA (by lia))),.av (show decide (g'.b.switch=0)=true by exact aa hb (WA (by lia))),.call (mY K hd ht 1105 j d ai)]
  ·have z:=of_decide_eq_false h;refine ⟨0,cD [.av (b:=true) rfl,.av h],λK d ai g' hb hd ht j=> ?_⟩;refine bc (decide (g'.b.cq=0)) (λh1=> ?_) λh1=> ?_
   ·exact wk [.av (b:=true) rfl,.av h1,.av (show decide (g'.b.switch=0)=false by have:=Wy h1;rw [hb] at this⊢;exact Wz (by lia))]
   ·exact wk [.av (b:=true) rfl,.av h1]
 |false=>
  refine bc (decide (g.b.cq=0)) (λh=> ?_) λh=> ?_
  ·refine ⟨1104,cD [.av (b:=false) rfl,.av (b:=false) rfl,.av (b:=true) rfl,.av h],λK d ai g' hb hd ht j=> ?_⟩;exact wk [.av (b:=true) rfl,.av (show decide (g'.b.cq=0)=true by exact aa hb h),.call (mY K hd ht 1104 j d ai)]
  ·refine ⟨0,cD [.av (b:=false) rfl,.av (b:=false) rfl,.av (b:=true) rfl,.av h],λK d ai g' hb hd ht j=> ?_⟩;exact wk [.av (b:=true) rfl,.av (show decide (g'.b.cq=0)=false by exact aa hb h)]
theorem Jm (hL: ∀x∈L,ix x):dU 122 L=none:=by
 refine List.find?_eq_none.mpr λx hx=> ?_;obtain ⟨n,b,e,h⟩:=hL x hx;subst e;have z: ∀n:N,(n==122)=false→ ¬(jc (.au [.str n,.bool b])==122)=true:=λn h=>by show¬(n==122)=true;exact aa h bK
 rcases h with h|h|h<;>subst h<;>exact z _ rfl
theorem CB (R:aj m g){n:N}{b:Bool}(hr:V.au [.str n,.bool b]∈g.b.ak)(ha:Hr g.b.ak (.au [.str n,.bool b])=true)(hn:n=120∨n=121∨n=S0):Eb br g n (cond (br||b) 0 1115):=λK d ai g' hb hd ht j=>by
 have n0:decide (n=0)=false:=by rcases hn with h|h|h<;>subst h<;>rfl
 have z:=DN (K:=K) R.iM hb n d ai;have h1:dU n g.b.ak=_:=sj hr (Int.ofNat.inj (Wy ha));rw [h1] at z;cases br with
 |true=>exact wk [.av n0,.call z]
 |false=>
  cases b with
  |true=>exact wk [.av n0,.call z]
  |false=>exact wk [.av n0,.call z,.call (mY K hd ht 1115 j d ai)]
theorem IX (R:aj m g)(hA:A=g.b.ak.filterMap λx=>if Hr g.b.ak x=true then some x else none):MP br v r A g:=by
 by_cases h1:r=1
 ·subst h1;refine ⟨122,cond br 1116 1115,by cases br<;>exact cD [],.inr ⟨rfl,rfl⟩,λK d ai g' hb hd ht j=> ?_⟩;have z:=DN (K:=K) R.iM hb 122 d ai;rw [Jm R.iM] at z;cases br with
  |true=>exact wk [.call z,.call (mY K hd ht 1116 j d ai)]
  |false=>exact wk [.call z,.call (mY K hd ht 1115 j d ai)]
 have t1:decide ((r:Int)=1)=false:=Wz λe=>h1 (Int.ofNat.inj e);obtain ⟨num,s,c⟩:=Ge (br:=br) (v:=v) (r:=r) (A:=A) R.cq R.switch;by_cases h0:r=0
 ·subst h0;exact ⟨0,num,cD [.av t1,.av (b:=false) rfl,.av (b:=false) rfl,.ifs s],.inl rfl,c⟩
 have t2:decide ((1:Int)<r)=true:=WA (by lia);cases A with
 |nil=>exact ⟨0,num,cD [.av t1,.av t2,.av (b:=false) rfl,.av (b:=false) rfl,.ifs s],.inl rfl,c⟩
 |cons a A'=>
  have hl:(a::A').length<16000000:=by exact aa hA (WD (List.length_filterMap_le _ _) R.lb)
  have hm:cF .Mod (r:Int) ((a::A').length:Int)=some ((r%(a::A').length:Nat):Int):=by
   show (if 0<((a::A').length:Int) then some _ else none)=_;exact aa (WE (Int.natCast_pos.mpr (show 0<(a::A').length from Nat.succ_pos _))) rfl
  have hi:r%(a::A').length<(a::A').length:=Nat.mod_lt r (Nat.succ_pos A'.length);have hn:ag (a::A') ((r%(a::A').length:Nat):Int)=some (a::A')[r%(a::A').length]:=de (List.getElem?_eq_getElem hi) hl;have t3:decide ((0:Int)<((a::A').length:Int))=true:=WA (Int.natCast_pos.mpr (show 0<(a::A').length from Nat.succ_pos _));have hx:=List.getElem_mem hi;revert hx hn;generalize (a::A')[r%(a::A').length]=row;intro hn hx;rw [hA] at hx;obtain ⟨x,hx1,hx2⟩:=List.mem_filterMap.mp hx;have hx2:Hr g.b.ak x=true∧x=row:=by
   by_cases q:Hr g.b.ak x=true
   ·rw [WE q] at hx2;exact ⟨q,cH hx2⟩
   ·rw [WG q] at hx2;exact ig hx2
  obtain ⟨ha,e⟩:=hx2;subst e;obtain ⟨n,b,e,hn3⟩:=R.iM x hx1;subst e;refine ⟨n,cond (br||b) 0 1115,eO.sub (ex:=[(1886351212,.val (.bool b))]) ?_,.inr (by rcases hn3 with h|h|h<;>subst h<;>exact ⟨rfl,rfl⟩),CB R hx1 ha hn3⟩;cases br<;>cases b<;>exact cD [.av t1,.av t2,.lt hl,.av t3,.av (b:=true) rfl,.lt hl,.op hm,.ag hn]
end
noncomputable def HB (br:Bool):N:=cond br VW UZ
structure CI (lb:N)(g g':G):Prop where
 bR:(lb==0)=false→Tk g g' lb true 1 lb
 no:(lb==0)=true→g'=g
section
variable {g g1 g2 g':G}{n j:Nat}{cl:Bool}{t w:N}{e v x:V}
theorem qh:aV 0 2000 g (g.kU num j):=by unfold G.kU;split;exact aV.refl.le;exact ck
theorem n9:Mv g (g.kU num j):=by unfold G.kU;split;exact .refl;exact fJ
theorem CI.af (h:CI lb g g'):aV 0 1 g g':=bc (lb==0) (λe=>h.no e▸aV.refl.le) λe=>(h.bR e).af
theorem CI.dd (h:CI lb g g'):g'.dead=g.dead:=bc (lb==0) (λe=>h.no e▸rfl) λe=>(h.bR e).dd
theorem CI.Dd (h:CI lb g g')(hd:g.dead=false)(q:Cl g):Cl g':=bc (lb==0) (λe=>h.no e▸q) λe=>(h.bR e).cl hd
theorem RN (R:aj n g)(l:lb=0∨bt fy lb=some 1∧(lb==0)=false): ∃g',CI lb g g':=by
 rcases l with e|⟨h,e⟩
 ·subst e;exact ⟨g,jN,λZ=>rfl⟩
 ·obtain ⟨g',o⟩:=cI R lb true 1 h;exact ⟨g',λZ=>o,λh=>WK (h.symm.trans e) (by decide)⟩
theorem AD (o:Lk K g g1 2 (HB br) l)(d1:g1.dead=false)(q:Cl g1)(p:CI lb g1 g2)(e:En g2 g3)(W:W K g3)(F:fT cl K g3)(d:Int)(C:aq (IY br) [P,.str lb,pv (ln g)] (PS K d true g3) (.ok .none (PS K d true (g3.kU num (ln g))))):aq Su [P,.obj 15] (PS K d true g) (.ok (nd (cond br 53 54) lb [] 0 (ln g)) (PS K d true (g3.kU num (ln g)))):=by
 have d2:=p.dd.trans d1;have E:=e.rd (p.Dd d1 q) d2 W F d true;refine bc (lb==0) (λh=> ?_) λh=> ?_
 ·obtain rfl:=beq_iff_eq.mp h;obtain rfl:=p.no rfl;have z:=e.ce q d1 W F;rw [←eR (K:=K) q] at z;obtain ⟨k,u,a,b,l2,h1,h2⟩:=z;by_cases hk:k=1
  ·subst hk;have h3:l2=true:=by rw [show ((1==0||(l2||(1==5&&(u==59||u==125)))):Bool)=(l2||false) from rfl,Bool.or_false] at h2;exact h2
   subst h3;cases br<;>exact wk [.ag o.bk,.call (o.aE d true),.ag h1,.ag h1,.call E,.call C]
  ·have t:decide ((k:Int)=1)=false:=Wz λe=>hk (Int.ofNat.inj e);cases br<;>exact wk [.ag o.bk,.call (o.aE d true),.ag h1,.av t,.call E,.call C]
 ·obtain ⟨l2,q2,hl,_⟩:=(p.bR h).lk d1 (e.af.w W);have h3:=hl rfl (Bool.or_eq_false_iff.mp q).1;subst h3;cases br<;>exact wk [.ag o.bk,.call (o.aE d true),.ag q2.bk,.ag q2.bk,.call (q2.aE d true),.call E,.call C]
theorem JL (br:Bool)(R:aj 4 g)(hon:on=0):fj k cl on 3060 SY [sV,.str (HB br)] g:=by
 obtain ⟨g1,o⟩:=cI R (HB br) false 2 (by cases br<;>rfl);have R1:aj 3 g1:=R.sg o.af;obtain ⟨r,hr⟩:=ee R1 5;have R2:aj 2 g1.nx:=R1.sg hr.af;obtain ⟨lb,num,s,l,c⟩:=IX (br:=br) (v:=pv (ln g)) (r:=r) R2 rfl;obtain ⟨g2,p⟩:=RN R2 l;have s2:aV 0 2 g g2:=((o.af.trans hr.af).trans p.af).dW (by lia);obtain ⟨g3,e⟩:=wK (R.sg s2);have s3:=s2.trans e.af;have R3:aj 3 g3:=R.sg s3;have cn:=wz (w:=HB br) (v:=pv (ln g)) (r:=r) R2.iM R2.lb;have ca:=Ac (w:=HB br) (v:=pv (ln g)) (r:=r) R2.iM R2.lb;have tl:=dP R3 num (ln g);have dd:(g3.kU num (ln g)).dead=g.dead:=((n9.dd.trans e.dd).trans p.dd).trans o.dd;refine ⟨nd (cond br 53 54) lb [] 0 (ln g),g3.kU num (ln g),?_,⟨(s3.trans qh).le,.st (.nd (h:=7) trivial),.no (by cases br<;>decide),λK hd W=> ?_,λK d hd W F D=> .of hd dd λh=> ?_⟩,λK hd W F=>⟨λh=>WK hon h⟩⟩
 ·have fin: ∀z:Bool,decide ((0:Int)<num)=z→g3.kU num (ln g)=cond z (g3.dP num (ln g)) g3:=λz h=>by
   unfold G.kU;cases z with
   |true=>exact WG (by have:=Wy h;lia)
   |false=>exact WE (by have:=of_decide_eq_false h;lia)
  have go: ∀z:Bool,decide ((0:Int)<num)=z→aq SY [sV,.str (HB br)] (aF g) (.ok (nd (cond br 53 54) lb [] 0 (ln g)) (aF (cond z (g3.dP num (ln g)) g3))):=λz hz=>by
   refine bc (lb==0) (λh=> ?_) λh=> ?_
   ·obtain rfl:=beq_iff_eq.mp h;obtain rfl:=p.no rfl;cases z with
    |true=>cases br<;>exact wk [.call o.aB,.call hr.aB,.cmp cn,.cmp ca,.ifs s,.av (b:=false) rfl,.call e.aB,.av hz,.call tl]
    |false=>cases br<;>exact wk [.call o.aB,.call hr.aB,.cmp cn,.cmp ca,.ifs s,.av (b:=false) rfl,.call e.aB,.av hz]
   ·have t:(!decide (lb=0))=true:=WJ not (Wz (beq_eq_false_iff_ne.mp h));have y:=(p.bR h).aB;cases z with
    |true=>cases br<;>exact wk [.call o.aB,.call hr.aB,.cmp cn,.cmp ca,.ifs s,.av t,.call y,.call e.aB,.av hz,.call tl]
    |false=>cases br<;>exact wk [.call o.aB,.call hr.aB,.cmp cn,.cmp ca,.ifs s,.av t,.call y,.call e.aB,.av hz]
  exact aa (fin _ rfl) (go _ rfl)
 ·exact (o.fst ((hr.af.trans (p.af.trans e.af)).trans qh) (by cases br<;>rfl) (by cases br<;>rfl)).fH hd W (by cases br<;>rfl)
 ·have W3:=n9.wd W;obtain ⟨l,q,_⟩:=o.lk hd (hr.af.w (p.af.w (e.af.w W3))) (.inl (by cases br<;>rfl));have d1:=o.dd.trans hd;have q1:Cl g1.nx:=o.cl hd;have d3:g3.dead=false:=(e.dd.trans p.dd).trans d1;exact AD (g1:=g1.nx) ⟨q.bk,q.GP,q.ps,q.p1,q.pp⟩ d1 q1 p e W3 (n9.lZ (F h)) d (c K d true g3 (e.af.bb.trans p.af.bb) d3 R3.td (ln g))
end
section
variable {g g1 g2 g':G}{n j:Nat}{cl:Bool}{t w:N}{e v x:V}
theorem plain {kd:Nat}(h7:kd<7)(R:aj 28 g)(h1:on≠1)(h2:on=2→kd<2)(h3:on≤2):fj k cl on (if kd=0 then 10 else 3060) SS [sV,.int (kd:Int)] g:=by
 have on0:2≤kd→on=0:=λh=>by
  by_cases e:on=2
  ·have:=h2 e;lia
  ·lia
 by_cases e0:kd=0
 ·subst e0;have R1:aj 10 g:=R.aw (by decide);obtain ⟨r,hr⟩:=ee R1 5;by_cases h4:r=4
  ·subst h4;exact uG R1 hr h1
  ·exact uH R1 hr h4 h1
 refine aa (WG e0) ?_;by_cases e1:kd=1
 ·subst e1;exact JP (R.aw (by decide)) h1
 by_cases e2:kd=2
 ·subst e2;obtain ⟨v,g',e,r,s⟩:=JL (k:=k) (cl:=cl) true (R.aw (by decide)) (on0 (Nat.le_refl _));exact ⟨v,g',wk [.call e],r,s⟩
 by_cases e3:kd=3
 ·subst e3;obtain ⟨v,g',e,r,s⟩:=JL (k:=k) (cl:=cl) false (R.aw (by decide)) (on0 (by decide));exact ⟨v,g',wk [.call e],r,s⟩
 by_cases e4:kd=4
 ·subst e4;exact JQ (R.aw (by decide)) (on0 (by decide))
 by_cases e5:kd=5
 ·subst e5;exact JR (R.aw (by decide)) (on0 (by decide))
 obtain rfl:=(by lia:kd=6);exact JS (R.aw (by decide)) (on0 (by decide))
structure M6 (g g':G)(v:V):Prop where
 aB:aq Vz [sV] (aF g) (.ok v (aF g'))
 af:aV 0 3 g g'
 dd:g'.dead=g.dead
 cl:g.dead=false→Cl g'
 aI:aT 7 v
 rd: ∀K d ai,g.dead=false→W K g'→Dp 6 d→aq Ug [P] (PS K d ai g) (.ok v (PS K d ai g'))
inductive M5 (g:G):Prop
 |mk (v:V) (g':G) (r:M6 g g' v)
theorem Cm (R:aj 10 g):M5 g:=by
 obtain ⟨g1,o⟩:=cI R 40 false 5;obtain ⟨v,g2,p⟩:=gr (R.sg o.af) false;have s2:=o.af.trans p.af;obtain ⟨g3,o2⟩:=cI (R.sg s2) 41 false 5;refine ⟨v,g3,wk [.call o.aB,.call p.aB,.call o2.aB],s2.trans o2.af,(o2.dd.trans p.dd).trans o.dd,λh=>o2.cl (p.dd.trans (o.dd.trans h)),p.aI,λK d ai hd W D=> ?_⟩;have d1:=o.dd.trans hd;have w2:=o2.af.w W;obtain ⟨l,q,_⟩:=o.lk hd (p.af.w w2);obtain ⟨l2,q2,_⟩:=o2.lk (p.dd.trans d1) W;exact wk [.call (q.cT d ai),.call (p.rd K d ai d1 w2 D),.call (q2.cT d ai)]
end
section
variable {g g1 g2 g4 g5 g':G}{n j:Nat}{cl:Bool}{t w:N}{dp:Int}{e v x:V}
theorem aT.s7 (t:aT 7 v):aT (8+3*k) v:=t.le (by simp+arith)
theorem aT.up (t:aT (8+3*k+1) v):aT (8+3*(k+1)) v:=t.le (by simp+arith)
theorem Dp.dn (D:Dp (5*(k+1)+8) d):Dp (5*k+9) d:=D.le (by simp+arith)
theorem Dp.d6 (D:Dp (5*(k+1)+8) d):Dp 6 d:=D.le (by simp+arith)
theorem oG.CA (f:ir g g' ti 2 u)(hon:on≠2)(hu:u=Tj∨u=VZ∨u=TM):oG on cl g g':=λK hd W F=> .fst f hd W (λZ=>⟨rfl,hu⟩) λh=>WK h hon
theorem Sp (SP:fm k)(h1:dp+2≤k)(h0: -1≤dp)(R:aj (8*k+34) g)(hon:on≠2):fj (k+1) cl on 60 TY [sV,.int dp,.bool cl,.int 0] g:=by
 obtain ⟨g1,o⟩:=cI R Tj false 2;obtain ⟨v,g2,t⟩:=Cm ((R.sg o.af:aj (8*k+33) g1).aw);have s2:=o.af.trans t.af;obtain ⟨w,g3,e,b⟩:=body (cl:=cl) SP h1 h0 ((R.sg s2:aj (8*k+33) g2).aw);have f:=o.fst (t.af.trans b.af);refine ⟨nd 45 0 [v,w] 0 (ln g),g3,wk [.call o.aB,.call t.aB,.call e],⟨(s2.trans b.af).le,.up (.nd ⟨t.aI.s7,b.aI,trivial⟩),.no (by decide),λK hd W=>f.fH hd W,λK d hd W F D=> ?_⟩,.CA f hon (.inl rfl)⟩;have d1:=o.dd.trans hd;have w2:=b.af.w W;obtain ⟨l,q,_⟩:=o.lk hd (t.af.w w2);have T:=t.rd K d true d1 w2 D.d6;have B:=b.rd K d true (t.dd.trans d1) W F D.dn;refine ⟨λh=>wk [.ag q.bk,.call (q.aE d true),.call T,.call (B.ok h)],λh=> ?_⟩;obtain ⟨σ,x,y⟩:=B.ex h;exact ⟨σ,wk [.ag q.bk,.call (q.aE d true),.call T,.call x],y⟩
structure Ej (b:Bool)(g g':G):Prop where
 bR:b=false→Tk g g' 59 false 5 59
 no:b=true→g'={g with loose:=true}
theorem Ej.af {b:Bool}(h:Ej b g g'):aV 0 1 g g':=bc b (λe=>h.no e▸⟨rfl,rfl,⟨[],(Wr _).symm⟩,Nat.le_succ _,λh=>⟨h,rfl,rfl⟩,λh=>h⟩) λe=>(h.bR e).af
theorem Ej.dd {b:Bool}(h:Ej b g g'):g'.dead=g.dead:=bc b (λe=>h.no e▸rfl) λe=>(h.bR e).dd
theorem Ej.rd {b:Bool}(h:Ej b g g')(hd:g.dead=false)(q:Cl g)(W:W K g')(F:fT cl K g')(d:Int)(ai:Bool): ∃z,aq Ss [P,.str 59] (PS K d ai g) (.ok (.bool z) (PS K d ai g')):=by
 cases b with
 |false=>
  obtain ⟨l,y,_⟩:=(h.bR rfl).lk hd W (.inr q);exact ⟨true,wk [.call (y.cT d ai)]⟩
 |true=>
  have e:=h.no rfl;subst e;have hp:=eR (K:=K) q;obtain ⟨k,u,a,e,l,h1⟩:=F.rt;have h1:ag K.T (ln g:Int)=_:=h1;have p':pos K {g with loose:=true}=if kK K (ln g)=true then ln g+1 else ln g:=by
   refine aa (kH ..) ?_;show (if ((g.pend||true)&&kK K (ln g))=true then _ else _)=_;exact aa (Bool.or_true ..) (aa (Bool.true_and ..) rfl)
  rw [gj h1] at p';by_cases h3:(k:Int)=5∧u=59
  ·rw [WE (WA h3)] at p';obtain ⟨e1,e2⟩:=h3;obtain rfl:=Int.ofNat.inj e1;subst e2;rw [←hp] at h1;exact ⟨true,(wk [.ag h1,.ag h1]:aq Ss [P,.str 59] (PS K d ai g) (.ok (.bool true) (aP K (pos K g+1) (pq g d ai)))).to (by unfold PS;exact aa p' (aa hp rfl))⟩
  ·rw [WG (by rw [Wz h3];exact bK)] at p';rw [←hp] at h1;have c:aq Vn [gp k u a e l,.int 5,.str 59] (PS K d ai g) (.ok (.bool false) (PS K d ai g)):=by
    by_cases h5:(k:Int)=5
    ·exact wk [.av (show decide ((k:Int)=5)=true from WA h5),.av (show decide (u=59)=false from Wz λh=>h3 ⟨h5,h⟩)]
    ·exact wk [.av (show decide ((k:Int)=5)=false from Wz h5)]
   exact ⟨false,(wk [.ag h1,.call c]:aq Ss [P,.str 59] (PS K d ai g) (.ok (.bool false) (PS K d ai g))).to (by unfold PS;exact aa p' (aa hp rfl))⟩
theorem Rb (SP:fm k)(h1:dp+2≤k)(h0: -1≤dp)(R:aj (8*k+34) g)(hon:on≠2):fj (k+1) cl on 3060 TY [sV,.int dp,.bool cl,.int 1] g:=by
 obtain ⟨g1,o⟩:=cI R VZ false 2;obtain ⟨v,g2,e,b⟩:=body (cl:=false) SP h1 h0 ((R.sg o.af:aj (8*k+33) g1).aw);have s2:=o.af.trans b.af;obtain ⟨g3,o2⟩:=cI (R.sg s2:aj (8*k+33) g2) Tj false 2;have s3:=s2.trans o2.af;obtain ⟨w,g4,t⟩:=Cm ((R.sg s3:aj (8*k+33) g3).aw);have s4:=s3.trans t.af;have R4:aj (8*k+33) g4:=R.sg s4;obtain ⟨b4,h4⟩:=ue R4 4;have ex: ∃g5,Ej b4 g4 g5:=by
  cases b4 with
  |true=>exact ⟨_,jN,λZ=>rfl⟩
  |false=>obtain ⟨g5,o⟩:=cI R4 59 false 5;exact ⟨g5,λZ=>o,bK⟩
 obtain ⟨g5,p⟩:=ex;have f:=o.fst (b.af.trans (o2.af.trans (t.af.trans p.af)));refine ⟨nd 46 0 [v,w] 0 (ln g),g5,?_,⟨(s4.trans p.af).le,.up (.nd ⟨b.aI,t.aI.s7,trivial⟩),.no (by decide),λK hd W=>f.fH hd W,λK d hd W F D=> ?_⟩,.CA f hon (.inr (.inl rfl))⟩
 ·cases b4 with
  |true=>have e5:=p.no rfl;subst e5;exact wk [.call o.aB,.call e,.call o2.aB,.call t.aB,.call h4]
  |false=>exact wk [.call o.aB,.call e,.call o2.aB,.call t.aB,.call h4,.call (p.bR rfl).aB]
 have d1:=o.dd.trans hd;have w4:=p.af.w W;have w3:=t.af.w w4;have w2:=o2.af.w w3;obtain ⟨l,q,_⟩:=o.lk hd (b.af.w w2);have B:=λF=>b.rd K d true d1 w2 F D.dn;cases hd2:g2.dead with
 |true=>
  obtain ⟨σ,x,y⟩:=(B λh=>WK (hd2.symm.trans h) (by decide)).ex hd2;have hd5:g5.dead=true:=((p.dd.trans t.dd).trans o2.dd).trans hd2;refine ⟨λh=>WK (hd5.symm.trans h) (by decide),λZ=>⟨σ,wk [.ag q.bk,.call (q.aE d true),.call x],y.af (o2.af.trans (t.af.trans p.af)) hd2⟩⟩
 |false=>
  have d3:=o2.dd.trans hd2;have d4:=t.dd.trans d3;refine .of hd (((p.dd.trans t.dd).trans o2.dd).trans (hd2.trans hd.symm)) λh=> ?_;have B:=(B λh=>(o2.fst (t.af.trans p.af)).lZ h W).ok hd2;obtain ⟨l2,q2,_⟩:=o2.lk hd2 w3;have T:=t.rd K d true d3 w4 D.d6;obtain ⟨z,S⟩:=p.rd d4 (t.cl d3) W (F h) d true;exact wk [.ag q.bk,.call (q.aE d true),.call B,.call (q2.cT d true),.call T,.call S]
end
noncomputable def OX (deep:Int)(cl:Bool)(on:Nat)(kd:Nat):ao:=[(115,.val sV),(Vf,.val (.int deep)),(V2,.val (.bool cl)),(2037149295,.val (.au (zw on))),(Uo,.val (.int (kd:Int)))]
noncomputable def iw (i:Nat):Stmt:=eS Sy i
inductive Pz (k:Nat)(cl:Bool)(on:Nat)(dp:Int)(g:G):Prop
 |mk (v:V) (g':G) (e:eO Sy (iw 4) (OX (dp+1) cl on 7) (aF g) (.ret v (aF g'))) (r:zR (k+1) cl 3060 g g' v) (s:oG on cl g g')
section
variable {g g1 g2 g4 g5 g':G}{n j:Nat}{cl:Bool}{t w:N}{dp:Int}{e v x:V}
theorem oG.Kn (f:ir g g' ti 2 u)(hon:on≠1)(hu:Bf u=true):oG on cl g g':=λK hd W F=> .fst f hd W (λh=>WK h hon) λZ=>⟨λZ=>hu,λh=>WK h (by decide)⟩
theorem mn (dp:Int):cF .Sub (dp+1) 1=some dp:=WJ some (Int.add_sub_cancel ..)
theorem NV (SP:fm k)(h1:dp+2≤k)(h0: -1≤dp)(R:aj (8*k+36) g)(hon:on≠1)(ho2:on≤2):Pz k cl on dp g:=by
 obtain ⟨g1,o⟩:=cI R Wl false 2;obtain ⟨v,g2,t⟩:=Cm ((R.sg o.af:aj (8*k+35) g1).aw);have s2:=o.af.trans t.af;have R2:aj (8*k+35) g2:=R.sg s2;obtain ⟨r,hr⟩:=ee R2 2;have iu: ∀(gt:G) (fu:Bool),(gt=g2∨gt=g2.nx)→aV 0 0 g2 gt→(cl=true→fu=true)→(∀(x y:V) (ga gb gc:G),aq UE [sV,.int dp,.bool fu,.au []] (aF gt) (.ok x (aF ga))→(fu=true→aq Tb [sV,.str Wj,.bool false] (aF ga) (.ok (pv (ln ga)) (aF gb))∧aq UE [sV,.int dp,.bool cl,.au []] (aF gb) (.ok y (aF gc)))→(fu=false→y= .none∧gc=ga)→eO Sy (iw 4) (OX (dp+1) cl on 7) (aF g) (.ret (nd 44 0 [v,x,y] 0 (ln g)) (aF gc)))→Pz k cl on dp g:=λgt fu hg st hc walk=>by
  have s3:=s2.trans st;have pq: ∀K d ai,PS K d ai gt=PS K d ai g2:=λK d ai=>by rcases hg with e|e<;>subst e<;>rfl
  have dt:gt.dead=g2.dead:=by rcases hg with e|e<;>subst e<;>rfl
  obtain ⟨x,ga,e,b,_⟩:=sub (on:=0) (cl:=fu) SP h1 h0 (λh=>WK rfl h) (by decide) ((R.sg s3:aj (8*k+35) gt).aw);have s4:=s3.trans b.af;have d0: ∀{z},g.dead=z→gt.dead=z:=λh=>dt.trans (t.dd.trans (o.dd.trans h));cases fu with
  |false=>
   have hcl:cl=false:=by cases cl with|true=>exact nomatch hc rfl|false=>rfl
   have f:=o.fst (t.af.trans (st.trans b.af));refine ⟨_,ga,walk x .none ga ga ga e nofun λZ=>⟨rfl,rfl⟩,⟨s4.le,.up (.nd ⟨t.aI.s7,b.aI,.none,trivial⟩),.no (by decide),λK hd W=>f.fH hd W,λK d hd W F D=> ?_⟩,.Kn f hon rfl⟩;have d1:=o.dd.trans hd;have w2:=st.w (b.af.w W);obtain ⟨l,q,_⟩:=o.lk hd (t.af.w w2);have T:=t.rd K d true d1 w2 D.d6;rw [←pq] at T;have B:=b.rd K d true (d0 hd) W (λh=>hcl▸F h) D.dn;refine ⟨λh=> ?_,λh=> ?_⟩
   ·have n:=(F h).nt;rw [hcl] at n;exact wk [.ag q.bk,.call (q.aE d true),.call T,.call (B.ok h),.call (n.pn S9 Wj d true)]
   ·obtain ⟨σ,y,z⟩:=B.ex h;exact ⟨σ,wk [.ag q.bk,.call (q.aE d true),.call T,.call y],z⟩
  |true=>
   obtain ⟨gb,o2⟩:=cI (R.sg s4:aj (8*k+35) ga) Wj false 2;have s5:=s4.trans o2.af;obtain ⟨y,gc,e2,b2,_⟩:=sub (on:=0) (cl:=cl) SP h1 h0 (λh=>WK rfl h) (by decide) ((R.sg s5:aj (8*k+35) gb).aw);have f:=o.fst (t.af.trans (st.trans (b.af.trans (o2.af.trans b2.af))));refine ⟨_,gc,walk x y ga gb gc e (λZ=>⟨o2.aB,e2⟩) nofun,⟨(s5.trans b2.af).le,.up (.nd ⟨t.aI.s7,b.aI,b2.aI,trivial⟩),.no (by decide),λK hd W=>f.fH hd W,λK d hd W F D=> ?_⟩,.Kn f hon rfl⟩;have d1:=o.dd.trans hd;have wb:=b2.af.w W;have wa:=o2.af.w wb;have w2:=st.w (b.af.w wa);obtain ⟨l,q,_⟩:=o.lk hd (t.af.w w2);have T:=t.rd K d true d1 w2 D.d6;rw [←pq] at T;have B:=λF=>b.rd K d true (d0 hd) wa F D.dn;cases ha:ga.dead with
   |true=>
    obtain ⟨σ,y,z⟩:=(B λh=>WK (ha.symm.trans h) (by decide)).ex ha;have hb:=(o2.af.dd ha).1;have hc:=(b2.af.dd hb).1;exact ⟨λh=>WK (hc.symm.trans h) (by decide),λZ=>⟨σ,wk [.ag q.bk,.call (q.aE d true),.call T,.call y],z.af (o2.af.trans b2.af) ha⟩⟩
   |false=>
    have hb:=o2.dd.trans ha;obtain ⟨l2,q2,_⟩:=o2.lk ha wb;have B:=(B λh=>(o2.fst .refl).lZ ha wb).ok ha;have B2:=b2.rd K d true hb W F D.dn;refine ⟨λh=>wk [.ag q.bk,.call (q.aE d true),.call T,.call B,.call (q2.cT d true),.call (B2.ok h)],λh=> ?_⟩;obtain ⟨σ,y,z⟩:=B2.ex h;exact ⟨σ,wk [.ag q.bk,.call (q.aE d true),.call T,.call B,.call (q2.cT d true),.call y],z⟩
 cases cl with
 |true=>exact iu g2 true (.inl rfl) .refl (λZ=>rfl) λx y ga gb gc h1 h2 Z=>cD [.call o.aB,.call t.aB,.op (mn dp),.call h1,.call (h2 rfl).1,.op (mn dp),.call (h2 rfl).2]
 |false=>
  have hl:=hr.lt;have sn:aV 0 0 g2 g2.nx:=hr.af.dW;by_cases h:r=1
  ·subst h;exact iu g2.nx true (.inr rfl) sn nofun λx y ga gb gc h1 h2 Z=>cD [.call o.aB,.call t.aB,.call hr.aB,.op (mn dp),.call h1,.call (h2 rfl).1,.op (mn dp),.call (h2 rfl).2]
  ·obtain rfl:=(by lia:r=0);refine iu g2.nx false (.inr rfl) sn nofun λx y ga gb gc h1 Z h3=> ?_;obtain ⟨e1,e2⟩:=h3 rfl;subst e1 e2;exact cD [.call o.aB,.call t.aB,.call hr.aB,.op (mn dp),.call h1]
end
inductive qx (k:Nat):G→List V→G→Prop
 |nil {g}:qx k g [] g
 |cons {g v g1 vs g'} (r:zS k false g g1 v) (t:qx k g1 vs g'):qx k g (v::vs) g'
noncomputable def Mj (ks:List V):ao:=[(112,.val P),(Vs,.own ks)]
noncomputable def Mk:Stmt:=eS TZ 2
noncomputable def LZ (d:Int)(ks:List V)(σ:St)(o:SO):Prop:=d9 (qG TZ (.int d,.none) .none) (eD Mk) (dK Mk) (Mj ks) σ o
section
variable {g g1 g2 g4 g5 g':G}{n j:Nat}{cl:Bool}{t w:N}{dp:Int}{e v x:V}{vs:List V}{F:List (Nat×N)}
theorem qx.af (h:qx k g vs g'):aV 0 (10*vs.length) g g':=by
 induction h with
 |nil=>exact .refl
 |cons r _ ih=>exact (r.af.trans ih).dW (by refine aa List.length_cons ?_;simp+arith)
theorem qx.aI (h:qx k g vs g'): ∀x∈vs,aT (8+3*k) x:=by
 induction h with
 |nil=>exact nofun
 |cons r _ ih=>exact λx hx=>(Wv hx).elim (λe=>e▸r.aI) (ih x)
theorem Nt.nz (h:Nt K (pos K g) F)(hm:IF F 0 1=true:=by rfl): ∃v,ag K.T (pos K g:Int)=some v∧ ∃k u a e l,v=gp k u a e l∧(!decide ((k:Int)=0))=true:=by
 obtain ⟨k,u,a,e,l,h1,h2⟩:=h;refine ⟨_,h1,k,u,a,e,l,rfl,?_⟩;rw [Wz λe:(k:Int)=0=> ?_];rfl;obtain rfl:=Int.ofNat.inj e;obtain ⟨p,hp,e⟩:=List.any_eq_true.mp hm;have:=Wu h2 p hp;obtain ⟨e1,e2⟩:=Ws e;rw [e1,Bool.true_and,Bool.not_eq_true'] at this;obtain ⟨e3,e4⟩:=Bool.or_eq_false_iff.mp this;rw [e3] at e2;exact bK e2
theorem Bq (h:qx k g vs g')(hn:0<g.b.bD)(hd:g.dead=false)(W:W K g')(F:g'.dead=false→fT false K g'∧ ∃i l,ag K.T (pos K g':Int)=some (jt 5 125 i l))(D:Dp (5*k+9) d)(ht:8+3*k≤150): ∀ks,ks.length+vs.length<1000→
  (g'.dead=false→LZ d ks (PS K d true g) (.next (Mj (ks++vs)) (PS K d true g')))∧(g'.dead=true→ ∃ks' σ,fM K g' σ∧LZ d ks (PS K d true g) (.ba (Mj ks') σ)):=by
 induction h with
 |nil=>
  refine λks Z=>⟨λh=> ?_,λh=>WK (hd.symm.trans h) (by decide)⟩;obtain ⟨_,i,l,q⟩:=F h;exact aa (Wr ..) (.brk (fs:=[.ag q]) [])
 | @cons g v g1 vs g' r t ih=>
  intro ks hk;rw [List.length_cons] at hk;have w1:=t.af.w W;have S:=r.fH K hd w1;have n:=S.nt;rw [WA hn] at n;obtain ⟨tk,h1,k',u,a,e,l,h2,h3⟩:=n.nz;subst h2;have n1:=n.pn Sv 125 d true;have bD:0<g1.b.bD:=by exact aa r.af.bb hn
  have lZ:g1.dead=false→fT false K g1:=λh=>by
   cases t with
   |nil=>exact (F h).1
   |cons r2 t2=>exact (r2.fH K h (t2.af.w W)).lZ
  have B:=tg (ai:=true) D (r.rd K (d+1) hd w1 lZ D.up) r.aI ht;have hl:ks.length<16000000:=by exact lB hk
  cases h1d:g1.dead with
  |true=>
   obtain ⟨σ,y,z⟩:=B.ex h1d;have hx:=(t.af.dd h1d).1;exact ⟨λh=>WK (hx.symm.trans h) (by decide),λZ=>⟨ks,σ,z.af t.af h1d,.last (fs:=[.call n1,.ag h1,.av h3,.call y]) (o1:= .ba (Mj ks) σ)⟩⟩
  |false=>
   obtain ⟨i1,i2⟩:=ih bD h1d W F (ks++[v]) (by refine aa Wo ?_;show _+1+_<_;lia);have go: ∀o,LZ d (ks++[v]) (PS K d true g1) o→LZ d ks (PS K d true g) o:=λo q=>q.b9 (fs:=[.call n1,.ag h1,.av h3,.av (b:=true) rfl,.call (B.ok h1d),.lt hl]) [];exact ⟨λh=>by have z:=go _ (i1 h);rw [Wn] at z;exact z,λh=>by obtain ⟨ks',σ,y,z⟩:=i2 h;exact ⟨ks',σ,y,go _ z⟩⟩
end
inductive zF (dp:Int):Nat→G→List V→G→Prop
 |z {g}:zF dp 0 g [] g
 |o {g v g1} (e:aq Sy [sV,.int dp,.bool false,.au []] (aF g) (.ok v (aF g1))):zF dp 1 g [v] g1
 |t {g v g1 w g2} (e:aq Sy [sV,.int dp,.bool false,.au []] (aF g) (.ok v (aF g1))) (e2:aq Sy [sV,.int dp,.bool false,.au []] (aF g1) (.ok w (aF g2))):zF dp 2 g [v,w] g2
inductive M0 (k:Nat)(dp:Int)(r:Nat)(g:G):Prop
 |mk (vs:List V) (g':G) (h:zF dp r g vs g') (w:qx k g vs g') (l:vs.length≤2)
structure zC (k:Nat)(dp:Int)(g g':G)(v:V):Prop where
 aB:aq UK [sV,.int dp] (aF g) (.ok v (aF g'))
 af:aV 0 30 g g'
 aI:aT (8+3*k+1) v
 kd: ∃kids,v=nd 59 0 kids 0 (ln g)
 fst:ir g g' false 5 123
 rd: ∀K d ai,g.dead=false→W K g'→Dp (5*k+10) d→oE K Sr [P,.int 4] d ai g g' v
inductive Mq (k:Nat)(dp:Int)(g:G):Prop
 |mk (v:V) (g':G) (r:zC k dp g g' v)
section
variable {g g1 g2 g4 g5 g':G}{n j:Nat}{cl:Bool}{t w:N}{dp:Int}{e v x:V}{vs:List V}{F:List (Nat×N)}
theorem Tk.Jo (o:Tk g g1 125 ti 5 125)(hd:g.dead=false)(w:W K g1):fT cl K g:=by
 obtain ⟨l,q,_⟩:=o.lk hd w;exact ⟨by cases cl<;>exact q.nt,λZ=>⟨_,_,_,_,_,q.GP,by cases l<;>rfl⟩,_,_,_,_,_,q.GP⟩
theorem rows (SP:fm k)(h1:dp+2≤k)(h0: -1≤dp)(hr:r<3)(R:aj (8*k+31) g):M0 k dp r g:=by
 by_cases e0:r=0
 ·subst e0;exact ⟨[],g,.z,.nil,by decide⟩
 obtain ⟨v,g1,e,s,_⟩:=SP dp false 0 g h1 h0 (λh=>WK rfl h) (by decide) R.jy;by_cases e1:r=1
 ·subst e1;exact ⟨[v],g1,.o e,.cons s .nil,Nat.le_succ 1⟩
 obtain ⟨w,g2,e',s',_⟩:=SP dp false 0 g1 h1 h0 (λh=>WK rfl h) (by decide) (R.sg s.af);obtain rfl:=(by lia:r=2);exact ⟨[v,w],g2,.t e e',.cons s (.cons s' .nil),Nat.le_refl 2⟩
theorem aj.RI (R:aj n g){i:Int}(h:0≤i){b:GB}(hb:b={g.b with bD:=i}):aj n (g.wB b):=by
 subst hb;obtain ⟨r1,r2,r3,r4,r5,r6,r7,r8,r9⟩:=R;exact ⟨r1,r2,r3,r4,r5,r6,r7,h,r9⟩
theorem kZ {b c:Nat}{B:GB}(s:aV b c (g.wB B) g1):aV b c g (g1.wB g.b):=⟨s.c,rfl,s.tk,s.u,s.dd,s.iv⟩
theorem oO (SP:fm k)(h1:dp+2≤k)(h0: -1≤dp)(R:aj (8*k+33) g):Mq k dp g:=by
 obtain ⟨g1,o⟩:=cI R 123 false 5;have R1:aj (8*k+32) g1:=R.sg o.af;have hn:0<g1.b.bD+1:=by have:=R1.bD;exact zB this
 obtain ⟨gn,hg⟩: ∃gn,gn=g1.wB {g1.b with bD:=g1.b.bD+1}:=⟨_,rfl⟩;have Rn:aj (8*k+32) gn:=hg▸R1.RI (Int.le_of_lt hn) rfl;obtain ⟨r,hr⟩:=ee Rn 3;obtain ⟨vs,g2,G2,w,hl⟩:=rows SP h1 h0 hr.lt (Rn.sg hr.af);have sg:aV 0 20 gn g2:=(hr.af.trans w.af).dW (by lia);have sB:aV 0 20 g1 (g2.wB g1.b):=kZ (hg▸sg);have eb:g2.wB g1.b=g2.wB {g2.b with bD:=g2.b.bD - 1}:=by
  refine aa sg.bb (aa hg ?_);show _=g2.wB {g1.b with bD:=g1.b.bD+1 - 1};exact aa (Int.add_sub_cancel ..) rfl
 have s2:=o.af.trans sB;obtain ⟨g3,o2⟩:=cI (R.sg s2:aj (8*k+32) _) 125 false 5;have gen2:aq Tb [sV,.str 125,.bool false] (aF (g2.wB {g2.b with bD:=g2.b.bD - 1})) (.ok (pv (ln g2)) (aF g3)):=eb▸o2.aB;have f:=o.fst (sB.trans o2.af);have ht:tV (aT (8+3*k)) vs:=by
  cases w with
  |nil=>trivial
  |cons r t=>cases t with
   |nil=>exact ⟨r.aI,trivial⟩
   |cons r2 t=>cases t with
    |nil=>exact ⟨r.aI,r2.aI,trivial⟩
    |cons _ _=>exact WK hl (by refine aa List.length_cons (aa List.length_cons (aa List.length_cons ?_));simp+arith)
 refine ⟨nd 59 0 vs 0 (ln g),g3,?_,(s2.trans o2.af).le,.node ht.of (Nat.le_trans hl (by decide)),⟨vs,rfl⟩,f,λK d ai hd W D=> ?_⟩
 ·subst hg;cases G2 with
  |z=>exact wk [.call o.aB,.call hr.aB,.call gen2]
  |o e=>exact wk [.call o.aB,.call hr.aB,.call e,.call gen2]
  |t e e2=>exact wk [.call o.aB,.call hr.aB,.call e,.call e2,.call gen2]
 ·have hk:5*k+10≤40:=by have:=D.lo;have:=D.hi;lia
  refine Ky (m:=5*k+9) D ?_ (.node ht.of (Nat.le_trans hl (by decide)):aT (8+3*k+1) _) (lB hk);have D1:=D.up;have d1:=o.dd.trans hd;have w2:=o2.af.w W;obtain ⟨l,q,_⟩:=o.lk hd (sB.w w2);have dn:gn.nx.dead=false:=by exact aa hg d1
  have pe:PS K (d+1) true gn.nx=PS K (d+1) true g1:=by exact aa hg rfl
  obtain ⟨i1,i2⟩:=Bq (d:=d+1) w (by exact aa hg hn) dn (K:=K) ⟨w2.lt,w2.fn,w2.ex⟩ (λh=>by
   obtain ⟨l2,q2,_⟩:=o2.lk (show (g2.wB g1.b).dead=false from h) W;have z:fT false K (g2.wB g1.b):=o2.Jo h W;exact ⟨⟨z.nt,z.ce,z.rt⟩,_,l2,q2.bk⟩) D1 (lB hk) [] (by show 0+_<_;exact lB hl)
  have pe2:PS K (d+1) true g2=PS K (d+1) true (g2.wB g1.b):=by unfold PS pq;exact aa sg.bb (aa hg rfl)
  rw [pe,pe2] at i1;rw [pe] at i2;refine ⟨λh=> ?_,λh=> ?_⟩
  ·have h2:g2.dead=false:=o2.dd.symm.trans h;obtain ⟨l2,q2,_⟩:=o2.lk (show (g2.wB g1.b).dead=false from h2) W;have z:=d9.iw (f:=TZ) (st:=Mk) (i1 h2);exact wk [.ag q.bk,.call (q.cT (d+1) true),.eJ z,.call (q2.cT (d+1) true)]
  ·have h2:g2.dead=true:=o2.dd.symm.trans h;obtain ⟨ks,σ,y,z⟩:=i2 h2;have z:=d9.iw (f:=TZ) (st:=Mk) z;exact ⟨σ,wk [.ag q.bk,.call (q.cT (d+1) true),.eJ z],(y.wB (b:=g1.b)).af o2.af h2⟩
theorem Q5 (SP:fm k)(h1:dp+2≤k)(h0: -1≤dp)(R:aj (8*k+33) g)(hon:on≠1):fj (k+1) cl on 60 UK [sV,.int dp] g:=by
 obtain ⟨v,g',b⟩:=oO SP h1 h0 R;obtain ⟨kids,e⟩:=b.kd;subst e;refine ⟨_,g',b.aB,⟨b.af.le,b.aI.le (by simp+arith),.no (by decide),λK hd W=>b.fst.fH hd W,λK d hd W F D=> ?_⟩,λK hd W F=> .fst b.fst hd W (λh=>WK h hon) λZ=>⟨λh=>WK h (by decide),λh=>WK h (by decide)⟩⟩;obtain ⟨l,q,_⟩:=b.fst.lk K hd W;have B:=b.rd K d true hd W (D.le (by simp+arith));refine ⟨λh=>wk [.ag q,.ag q,.call (B.ok h)],λh=> ?_⟩;obtain ⟨σ,y,z⟩:=B.ex h;exact ⟨σ,wk [.ag q,.ag q,.call y],z⟩
end
noncomputable def QJ (dp:Int)(a w:V)(hw:Nat)(x:V):ao:=[(115,.val sV),(Vf,.val (.int dp)),(TP,.val a),(2036625250,.val w),(7827304,.val (.int (hw:Int))),(1650553447,.val x),(1953718636,.val .none)]
structure HV (k:Nat)(dp:Int)(nm:Bool)(g g':G)(v:V):Prop where
 aB: ∀hw a w,decide (0<hw)=nm→hw<4→hw≠2→eO U1 (eS U1 5) (QJ dp a w hw .none) (aF g) (.next (QJ dp a w hw v) (aF g'))
 af:aV 0 50 g g'
 aI:aT (8+3*k+2) v
 nn:i7 v=false
 fst:ir g g' false 2 UH
 rd: ∀K d,g.dead=false→W K g'→Dp (5*k+10) d→oE K Vh [P] d true g g' v
inductive Mt (k:Nat)(dp:Int)(nm:Bool)(g:G):Prop
 |mk (v:V) (g':G) (r:HV k dp nm g g' v)
section
variable {g g1 g2 g4 g5 g':G}{n j:Nat}{cl:Bool}{t w:N}{dp:Int}{e v x:V}{vs:List V}{F:List (Nat×N)}
theorem EH (SP:fm k)(h1:dp+2≤k)(h0: -1≤dp)(R:aj (8*k+35) g)(nm:Bool):Mt k dp nm g:=by
 obtain ⟨g1,o⟩:=cI R UH false 2;have R1:aj (8*k+34) g1:=R.sg o.af;cases nm with
 |false=>
  obtain ⟨v,g2,b⟩:=oO SP h1 h0 R1.jy;refine ⟨nd 58 0 [.none,v] 0 (ln g),g2,λhw a w h h4 h2=> ?_,(o.af.trans b.af).le,.nd ⟨.none,b.aI,trivial⟩,rfl,o.fst b.af,λK d hd W D=> ?_⟩
  ·obtain rfl:=(by have:=of_decide_eq_false h;lia:hw=0);exact eO.sub (ex:=[(1953460339,.val (pv (ln g))),(1701667182,.val .none)]) (cD [.call o.aB,.call b.aB])
  ·obtain ⟨l,q,_⟩:=o.lk hd (b.af.w W);have d1:=o.dd.trans hd;obtain ⟨l2,q2,_⟩:=b.fst.lk K d1 W;have n:Nt K (pos K g1) [(5,40)]:=⟨_,_,_,_,_,q2,rfl⟩;have B:=b.rd K d true d1 W D;refine ⟨λh=>wk [.call (q.aE d true),.call (n.pn Ss 40 d true),.call (B.ok h)],λh=> ?_⟩;obtain ⟨σ,y,z⟩:=B.ex h;exact ⟨σ,wk [.call (q.aE d true),.call (n.pn Ss 40 d true),.call y],z⟩
 |true=>
  obtain ⟨g2,o2⟩:=cI R1 40 false 5;have s2:=o.af.trans o2.af;obtain ⟨t,g3,ht,o3,en⟩:=uP (R.sg s2:aj (8*k+34) g2) false;have s3:=s2.trans o3.af;obtain ⟨g4,o4⟩:=cI (R.sg s3:aj (8*k+34) g3) 41 false 5;have s4:=s3.trans o4.af;obtain ⟨v,g5,b⟩:=oO SP h1 h0 (R.sg s4:aj (8*k+34) g4).jy;refine ⟨nd 58 0 [nd 8 t [] 0 (ln g2),v] 0 (ln g),g5,λhw a w h h4 h2=> ?_,(s4.trans b.af).le,.nd ⟨.nd (h:=8+3*k) trivial,b.aI,trivial⟩,rfl,o.fst (o2.af.trans (o3.af.trans (o4.af.trans b.af))),λK d hd W D=> ?_⟩
  ·rcases (by have:=Wy h;lia:hw=1∨hw=3) with e|e<;>subst e<;>exact eO.sub (ex:=[(1953460339,.val (pv (ln g))),(1701667182,.val (nd 8 t [] 0 (ln g2)))]) (cD [.call o.aB,.call o2.aB,.call en,.call o4.aB,.call b.aB])
  ·have w4:=b.af.w W;have w3:=o4.af.w w4;have w2:=o3.af.w w3;obtain ⟨l,q,_⟩:=o.lk hd (o2.af.w w2);have d1:=o.dd.trans hd;obtain ⟨l2,q2,_⟩:=o2.lk d1 w2;have d2:=o2.dd.trans d1;obtain ⟨l3,q3,_⟩:=o3.lk d2 w3;have d3:=o3.dd.trans d2;obtain ⟨l4,q4,_⟩:=o4.lk d3 w4;have B:=b.rd K d true (o4.dd.trans d3) W D;refine ⟨λh=>wk [.call (q.aE d true),.call (q2.cT d true),.ag q3.bk,.ag q3.bk,.ag q3.bk,.ag q3.bk,.call (q3.aE d true),.ag q4.bk,.call (q4.cT d true),.call (B.ok h)],λh=> ?_⟩;obtain ⟨σ,y,z⟩:=B.ex h;exact ⟨σ,wk [.call (q.aE d true),.call (q2.cT d true),.ag q3.bk,.ag q3.bk,.ag q3.bk,.ag q3.bk,.call (q3.aE d true),.ag q4.bk,.call (q4.cT d true),.call y],z⟩
end
structure Ho (k:Nat)(dp:Int)(c nm:Bool)(g g':G)(v:V):Prop where
 bR:c=true→HV k dp nm g g' v
 no:c=false→v= .none∧g'=g
structure Hp (k:Nat)(dp:Int)(c:Bool)(g g1 g':G)(v:V):Prop where
 bR:c=true→Tk g g1 TB false 2 TB∧zC k dp g1 g' v
 no:c=false→v= .none∧g'=g
section
variable {g g1 g2 g4 g5 g':G}{n j:Nat}{cl c f:Bool}{t w:N}{dp:Int}{e v x y:V}{vs:List V}{F:List (Nat×N)}
theorem Ho.af (h:Ho k dp c nm g g' v):aV 0 50 g g':=bc c (λe=>(h.bR e).af) λe=>(h.no e).2▸aV.refl.le
theorem Ho.aI (h:Ho k dp c nm g g' v):aT (8+3*k+2) v:=bc c (λe=>(h.bR e).aI) λe=>(h.no e).1▸ .none
theorem Hp.af (h:Hp k dp c g g1 g' v):aV 0 31 g g':=bc c (λe=>by obtain ⟨o,b⟩:=h.bR e;exact (o.af.trans b.af).le) λe=>(h.no e).2▸aV.refl.le
theorem Hp.aI (h:Hp k dp c g g1 g' v):aT (8+3*k+2) v:=bc c (λe=>(h.bR e).2.aI.le (Nat.le_succ _)) λe=>(h.no e).1▸ .none
theorem fM.nx {σ:St}(y:fM K g σ):fM K g.nx σ:=by cases y with|mk r t h=>exact .mk r t h
theorem Hh (hcf:c=true∨f=true)(o:Lk K g g1 2 VG l)(d1:g1.dead=false)(b:zC k dp g1 g2 v)(C:Ho k dp c nm g2.nx g3 x)(E:Hp k dp f g3 g4 g5 y)(W:W K g5)(nf:f=false→g5.dead=false→Nt K (pos K g5) [(2,TB)])(D:Dp (5*k+10) d):oE K Su [P,.obj 15] d true g g5 (nd 57 0 [v,x,y] 0 (ln g)):=by
 have w3:=E.af.w W;have w2:=C.af.w w3;have w2:=(⟨w2.lt,w2.fn,w2.ex⟩:Mine.W K g2);have B:=b.rd K d true d1 w2 D;cases h2:g2.dead with
 |true=>
  obtain ⟨σ,y1,z⟩:=B.ex h2;have h5:=(E.af.dd (C.af.dd h2).1).1;exact ⟨λh=>WK (h5.symm.trans h) (by decide),λZ=>⟨σ,wk [.ag o.bk,.call (o.aE d true),.call y1],z.nx.af (C.af.trans E.af) h2⟩⟩
 |false=>
  have B:=B.ok h2;cases c with
  |true=>
   have C:=C.bR rfl;obtain ⟨l2,q2,_⟩:=C.fst.lk K h2 w3;have X:=C.rd K d h2 w3 D;have nx:=C.nn;cases h3:g3.dead with
   |true=>
    obtain ⟨σ,y1,z⟩:=X.ex h3;have h5:=(E.af.dd h3).1;exact ⟨λh=>WK (h5.symm.trans h) (by decide),λZ=>⟨σ,wk [.ag o.bk,.call (o.aE d true),.call B,.ag q2,.call y1],z.af E.af h3⟩⟩
   |false=>
    have X:=X.ok h3;cases f with
    |false=>
     obtain ⟨e1,e2⟩:=E.no rfl;subst e1 e2;refine ⟨λh=> ?_,λh=>WK (h3.symm.trans h) (by decide)⟩;exact wk [.ag o.bk,.call (o.aE d true),.call B,.ag q2,.call X,.call ((nf rfl h).pn S9 TB d true),.av (b:=false) rfl,.av nx]
    |true=>
     obtain ⟨o2,b2⟩:=E.bR rfl;obtain ⟨l3,q3,_⟩:=o2.lk h3 (b2.af.w W);have B2:=b2.rd K d true (o2.dd.trans h3) W D;refine ⟨λh=>wk [.ag o.bk,.call (o.aE d true),.call B,.ag q2,.call X,.call (q3.cT d true),.call (B2.ok h),.av nx],λh=> ?_⟩;obtain ⟨σ,y1,z⟩:=B2.ex h;exact ⟨σ,wk [.ag o.bk,.call (o.aE d true),.call B,.ag q2,.call X,.call (q3.cT d true),.call y1],z⟩
  |false=>
   have hf:f=true:=hcf.resolve_left bK;subst hf;obtain ⟨e1,e2⟩:=C.no rfl;subst e1 e2;obtain ⟨o2,b2⟩:=E.bR rfl;obtain ⟨l3,q3,_⟩:=o2.lk h2 (b2.af.w W);have B2:=b2.rd K d true (o2.dd.trans h2) W D;obtain ⟨kids,e⟩:=b2.kd;subst e;refine ⟨λh=>wk [.ag o.bk,.call (o.aE d true),.call B,.ag q3.bk,.call (q3.cT d true),.call (B2.ok h)],λh=> ?_⟩;obtain ⟨σ,y1,z⟩:=B2.ex h;exact ⟨σ,wk [.ag o.bk,.call (o.aE d true),.call B,.ag q3.bk,.call (q3.cT d true),.call y1],z⟩
theorem QN.LA (b:zC k dp g g' v):aT (8+3*k+2) v:=b.aI.le (Nat.le_succ _)
theorem Pe (SP:fm k)(h1:dp+2≤k)(h0: -1≤dp)(R:aj (8*k+36) g)(hon:on=0):fj (k+1) cl on 3060 U1 [sV,.int dp] g:=by
 obtain ⟨g1,o⟩:=cI R VG false 2;obtain ⟨v,g2,b⟩:=oO SP h1 h0 ((R.sg o.af:aj (8*k+35) g1).aw);have s2:=o.af.trans b.af;obtain ⟨r,hr⟩:=ee (R.sg s2:aj (8*k+35) g2) 4;have s2n:aV 0 31 g g2.nx:=(s2.trans hr.af).dW;have R2:aj (8*k+35) g2.nx:=R.sg s2n;have exC: ∃x g3,Ho k dp (!Nat.beq r 2) (decide (0<r)) g2.nx g3 x:=by
  cases hc:(!Nat.beq r 2) with
  |true=>obtain ⟨x,g3,c⟩:=EH SP h1 h0 R2 (decide (0<r));exact ⟨x,g3,λZ=>c,jN⟩
  |false=>exact ⟨.none,g2.nx,bK,λZ=>⟨rfl,rfl⟩⟩
 obtain ⟨x,g3,C⟩:=exC;have s3:=s2n.trans C.af;have R3:aj (8*k+35) g3:=R.sg s3;have exF: ∃y g4 g5,Hp k dp (Nat.ble 2 r) g3 g4 g5 y:=by
  cases hc:Nat.ble 2 r with
  |true=>
   obtain ⟨g4,o2⟩:=cI R3 TB false 2;obtain ⟨y,g5,b2⟩:=oO SP h1 h0 ((R3.sg o2.af:aj (8*k+34) g4).jy);exact ⟨y,g4,g5,λZ=>⟨o2,b2⟩,jN⟩
  |false=>exact ⟨.none,g3,g3,bK,λZ=>⟨rfl,rfl⟩⟩
 obtain ⟨y,g4,g5,E⟩:=exF;have f:=o.fst (b.af.trans (hr.af.trans (C.af.trans E.af)));have hl:=hr.lt;refine ⟨nd 57 0 [v,x,y] 0 (ln g),g5,?_,⟨(s3.trans E.af).le,(.nd (kids:=[v,x,y]) ⟨QN.LA b,C.aI,E.aI,trivial⟩:aT (8+3*k+2+1) (nd 57 0 [v,x,y] 0 (ln g))),.no (by decide),λK hd W=>f.fH hd W,λK d hd W F D=> ?_⟩,λK hd W F=>⟨λh=>WK hon h⟩⟩
 ·rcases d4 hl with e|e|e|e<;>subst e
  ·obtain ⟨e1,e2⟩:=E.no rfl;subst e1 e2;exact wk [.call o.aB,.call b.aB,.call hr.aB,.ifs ((C.bR rfl).aB 0 (pv (ln g)) v rfl (by decide) (by decide))]
  ·obtain ⟨e1,e2⟩:=E.no rfl;subst e1 e2;exact wk [.call o.aB,.call b.aB,.call hr.aB,.ifs ((C.bR rfl).aB 1 (pv (ln g)) v rfl (by decide) (by decide))]
  ·obtain ⟨e1,e2⟩:=C.no rfl;subst e1 e2;obtain ⟨o2,b2⟩:=E.bR rfl;exact wk [.call o.aB,.call b.aB,.call hr.aB,.call o2.aB,.call b2.aB]
  ·obtain ⟨o2,b2⟩:=E.bR rfl;exact wk [.call o.aB,.call b.aB,.call hr.aB,.ifs ((C.bR rfl).aB 3 (pv (ln g)) v rfl (by decide) (by decide)),.call o2.aB,.call b2.aB]
 ·obtain ⟨l,q,_⟩:=o.lk hd (b.af.w (hr.af.w (C.af.w (E.af.w W))));exact Hh (c:= !Nat.beq r 2) (f:=Nat.ble 2 r) (by rcases d4 hl with e|e|e|e<;>subst e<;>first|exact .inl rfl|exact .inr rfl) q (o.dd.trans hd) b C E W (λZ h=>(by have z:=(F h).nt;cases cl<;>exact z.le)) (D.le (lS hon))
end
structure vS (b:Bool)(g g':G)(v:V):Prop where
 bR:b=true→Ep false g g' v
 no:b=false→v= .none∧g'=g
noncomputable def P4 (dp:Int)(cl:Bool)(a:V)(hw:Nat)(x:V):ao:=[(115,.val sV),(Vf,.val (.int dp)),(V2,.val (.bool cl)),(TP,.val a),(7827304,.val (.int (hw:Int))),(500153084262,.val x)]
noncomputable def P5 (a x:V):ao:=[(SN,.val (.aO U4 [])),(112,.val P),(TP,.val a),(500153084262,.val x)]
structure MH (g g':G)(hw:Nat)(v:V):Prop where
 aB: ∀dp cl a,eO U0 (eS U0 2) (P4 dp cl a hw .none) (aF g) (.next (P4 dp cl a hw v) (aF g'))
 af:aV 0 17 g g'
 dd:g'.dead=g.dead
 cl:g.dead=false→Cl g→Cl g'
 aI:aT 8 v
 rd: ∀K d ai,g.dead=false→W K g'→(∃i l,ag K.T (pos K g':Int)=some (jt 5 59 i l))→Dp 9 d→ ∃gm,aq Td [P] (PS K d ai g) (.ok v (PS K d ai gm))∧ ∀a,eO Tx (eS Tx 4) (P5 a v) (PS K d ai gm) (.next (P5 a v) (PS K d ai g'))
inductive MG (g:G)(hw:Nat):Prop
 |mk (v:V) (g':G) (r:MH g g' hw v)
section
variable {g g1 g2 g4 g5 g':G}{n j:Nat}{cl c f z:Bool}{t w:N}{dp:Int}{e v x y:V}{vs:List V}{F:List (Nat×N)}
theorem Qt (z:Bool)(R:aj 9 g): ∃v g',vS z g g' v:=by
 cases z with
 |true=>obtain ⟨v,g',p⟩:=gr R false;exact ⟨v,g',λZ=>p,jN⟩
 |false=>exact ⟨.none,g,bK,λZ=>⟨rfl,rfl⟩⟩
theorem vS.af (h:vS z g g' v):aV 0 1 g g':=bc z (λe=>(h.bR e).af) λe=>(h.no e).2▸aV.refl.le
theorem vS.dd (h:vS z g g' v):g'.dead=g.dead:=bc z (λe=>(h.bR e).dd) λe=>(h.no e).2▸rfl
theorem vS.Dd (h:vS z g g' v)(hd:g.dead=false)(q:Cl g):Cl g':=bc z (λe=>(h.bR e).cl hd) λe=>(h.no e).2▸q
theorem vS.aI (h:vS z g g' v):aT 7 v:=bc z (λe=>(h.bR e).aI) λe=>(h.no e).1▸ .none
theorem vS.rd (h:vS z g g' v)(hd:g.dead=false)(W:W K g')(o:ag K.T (pos K g':Int)=some (jt 5 u i l))(hu:u=59∨u=41)(D:Dp 6 d):aq Ux [P,.str u] (PS K d ai g) (.ok v (PS K d ai g')):=by
 refine bc z (λe=> ?_) λe=> ?_
 ·have p:=h.bR e;obtain ⟨k,a,ks,k',u',_,f,hf,_⟩:=p.sh;have n:=f.nt (F:=[(5,59),(5,41)]) hd W hf;have V:=p.rd K d ai hd W D;rcases hu with e|e
  ·subst e;exact wk [.call (n.pn Sv 59 d ai),.call V]
  ·subst e;exact wk [.call (n.pn Sv 41 d ai),.call V]
 ·obtain ⟨e1,e2⟩:=h.no e;subst e1 e2;rcases hu with e|e<;>subst e<;>exact wk [.ag o]
theorem E6 (R:aj 28 g)(h4:r<4):MG g r:=by
 by_cases e0:r=0
 ·subst e0;refine ⟨.none,g,λdp cl a=>cD [],aV.refl.le,rfl,λZ h=>h,.none,λK d ai hd W ⟨i,l,o⟩ D=>⟨g,wk [.ag o],λa=> ?_⟩⟩;exact cD [.ag o,.ag o]
 by_cases e1:r=1
 ·subst e1;obtain ⟨v,g',p⟩:=gr (R.aw (by decide)) false;obtain ⟨k,a0,ks,k',u',e,f,hf,_⟩:=p.sh;subst e;refine ⟨nd 43 0 [nd k a0 ks 0 (ln g)] 0 (ln g),g',λdp cl a=>eO.sub (ex:=[(Tw,.val (nd k a0 ks 0 (ln g)))]) (cD [.call p.aB]),p.af.le,p.dd,λhd Z=>p.cl hd,.nd ⟨p.aI,trivial⟩,λK d ai hd W ⟨i,l,o⟩ D=>⟨g',?_,λa=>cD [.ag o,.ag o]⟩⟩;have V:=p.rd K d false hd W (D.le (by decide));obtain ⟨l2,q,_⟩:=f.lk K hd W;rcases nN hf with e|⟨e,e2|e2⟩
  ·subst e;have hu:decide (u'=S0)=false:=by
    have z:=Wu (show lM.all (λp=>decide (p.2≠S0))=true from rfl) _ hf;exact Wz (Wy z)
   exact wk [.ag q,.ag q,.ag q,.av (b:=true) rfl,.av hu,.ag q,.ag q,.ag q,.av (b:=true) rfl,.av hu,.call V]
  ·subst e e2;exact wk [.ag q,.ag q,.ag q,.ag q,.ag q,.ag q,.call V]
  ·subst e e2;exact wk [.ag q,.ag q,.ag q,.ag q,.ag q,.ag q,.call V]
 ·obtain ⟨w,g1,D,Dl,x,vs,p⟩:=Hm (R.aw (by decide));have s1:aV 0 16 g g1:=p.af.dW;have R1:aj 27 g1:=R.sg s1;have z:=p.ds;have gc:=Dm (w:=w) (j:=ln g) R1 z true;have t1:decide ((r:Int)=1)=false:=Wz λe=>e1 (Int.ofNat.inj e);have t2:decide ((1:Int)<r)=true:=WA (by lia);obtain ⟨kw,f,hf⟩:=p.fst;refine ⟨nd 41 w (x::vs) 0 (ln g),g1.zo (dR w) true (D::Dl),λdp cl a=>cD [.av t1,.av t2,.call p.aB,.call gc],(((p.PT true).trans mV).dW),wu.trans p.dd,λhd Z=>fY.Dd (p.cl hd),p.aI,λK d ai hd W ⟨i,l,o⟩ D9=>⟨g1,?_,λa=> ?_⟩⟩
  ·have w1:=fY.wd W;rw [fY.pos] at o;have nt:Nt K (pos K g1) [(5,33),(5,58),(5,61),(5,44)]:=⟨_,_,_,_,_,o,rfl⟩;have V:=p.rd K d false hd w1 nt (D9.le (by decide));obtain ⟨l2,q,_⟩:=f.lk K hd w1;rcases Wv hf with h|hf
   ·obtain ⟨rfl,rfl⟩:=lj h;exact wk [.ag q,.ag q,.ag q,.call (p.Of K d false hd w1 rfl),.ag q,.ag q,.ag q,.call V]
   rcases Wv hf with h|hf
   ·obtain ⟨rfl,rfl⟩:=lj h;exact wk [.ag q,.ag q,.ag q,.ag q,.call V]
   ·obtain ⟨rfl,rfl⟩:=lj (Wx hf);exact wk [.ag q,.ag q,.ag q,.ag q,.ag q,.call V]
  ·have w1:=fY.wd W;rw [fY.pos] at o;have C:=DL (K:=K) (w:=w) (j:=ln g) R1 (p.dd.trans hd) z true d ai;exact cD [.ag o,.ag o,.call C]
end
section
variable {g g1 g2 g4 g5 g':G}{n j:Nat}{cl:Bool}{t w:N}{dp:Int}{e v x:V}
theorem NK (SP:fm k)(h1:dp+2≤k)(h0: -1≤dp)(R:aj (8*k+34) g)(hon:on≠2):fj (k+1) cl on 3060 TY [sV,.int dp,.bool cl,.int 2] g:=by
 obtain ⟨g1,o⟩:=cI R TM false 2;obtain ⟨g2,o2⟩:=cI (R.sg o.af:aj (8*k+33) g1) 40 false 5;have s2:=o.af.trans o2.af;obtain ⟨r,hr⟩:=ee (R.sg s2:aj (8*k+33) g2) 4;have sn:aV 0 0 g2 g2.nx:=hr.af.dW;have s2n:=s2.trans sn;obtain ⟨x3,g3,p3⟩:=E6 ((R.sg s2n:aj (8*k+33) g2.nx).aw) hr.lt;have s3:=s2n.trans p3.af;obtain ⟨g4,o4⟩:=cI (R.sg s3:aj (8*k+33) g3) 59 false 5;have s4:=s3.trans o4.af;have R4:aj (8*k+33) g4:=R.sg s4;obtain ⟨z5,h5⟩:=ue R4 9;obtain ⟨x5,g5,p5⟩:=Qt z5 (R4.aw);have s5:=s4.trans p5.af;obtain ⟨g6,o6⟩:=cI (R.sg s5:aj (8*k+33) g5) 59 false 5;have s6:=s5.trans o6.af;have R6:aj (8*k+33) g6:=R.sg s6;obtain ⟨z7,h7⟩:=ue R6 10;obtain ⟨x7,g7,p7⟩:=Qt z7 (R6.aw);have s7:=s6.trans p7.af;obtain ⟨g8,o8⟩:=cI (R.sg s7:aj (8*k+33) g7) 41 false 5;have s8:=s7.trans o8.af;obtain ⟨w,g9,e,b⟩:=body (cl:=cl) SP h1 h0 ((R.sg s8:aj (8*k+33) g8).aw);have s28:=sn.trans (p3.af.trans (o4.af.trans (p5.af.trans (o6.af.trans (p7.af.trans o8.af)))));have f:=o.fst (o2.af.trans (s28.trans b.af));have F3:=p3.aB dp cl (pv (ln g));have E:aq U0 [sV,.int dp,.bool cl,pv (ln g)] (aF g2) (.ok (nd 47 0 [x3,x5,x7,w] 0 (ln g)) (aF g9)):=by
  cases z5 with
  |false=>
   obtain ⟨e1,e2⟩:=p5.no rfl;subst e1 e2;cases z7 with
   |false=>
    obtain ⟨e1,e2⟩:=p7.no rfl;subst e1 e2;exact wk [.call hr.aB,.ifs F3,.call o4.aB,.call h5,.call o6.aB,.call h7,.call o8.aB,.call e]
   |true=>exact wk [.call hr.aB,.ifs F3,.call o4.aB,.call h5,.call o6.aB,.call h7,.call (p7.bR rfl).aB,.call o8.aB,.call e]
  |true=>
   have v5:=(p5.bR rfl).aB;cases z7 with
   |false=>
    obtain ⟨e1,e2⟩:=p7.no rfl;subst e1 e2;exact wk [.call hr.aB,.ifs F3,.call o4.aB,.call h5,.call v5,.call o6.aB,.call h7,.call o8.aB,.call e]
   |true=>exact wk [.call hr.aB,.ifs F3,.call o4.aB,.call h5,.call v5,.call o6.aB,.call h7,.call (p7.bR rfl).aB,.call o8.aB,.call e]
 refine ⟨nd 47 0 [x3,x5,x7,w] 0 (ln g),g9,wk [.call o.aB,.call o2.aB,.call E],⟨(s8.trans b.af).le,.up (.nd ⟨p3.aI.le (by simp+arith),p5.aI.s7,p7.aI.s7,b.aI,trivial⟩),.no (by decide),λK hd W=>f.fH hd W,λK d hd W F D=> ?_⟩,.CA f hon (.inr (.inr rfl))⟩;have d1:=o.dd.trans hd;have d2:g2.nx.dead=false:=o2.dd.trans d1;have d3:=p3.dd.trans d2;have d4:=o4.dd.trans d3;have d5:=p5.dd.trans d4;have d6:=o6.dd.trans d5;have d7:=p7.dd.trans d6;have w8:=b.af.w W;have w7:=o8.af.w w8;have w6:=p7.af.w w7;have w5:=o6.af.w w6;have w4:=p5.af.w w5;have w3:=o4.af.w w4;have w2:Mine.W K g2:=sn.w (p3.af.w w3);have D6:=D.d6;have c3:Cl g3:=p3.cl d2 (o2.cl d1);have c4:=o4.cl d3;obtain ⟨l,q,_⟩:=o.lk hd (o2.af.w w2);obtain ⟨l2,q2,_⟩:=o2.lk d1 w2;obtain ⟨l4,q4,_⟩:=o4.lk d3 w4 (.inr c3);obtain ⟨l6,q6,_⟩:=o6.lk d5 w6 (.inr (p5.Dd d4 c4));obtain ⟨l8,q8,_⟩:=o8.lk d7 w8;obtain ⟨gm,r1,r2⟩:=p3.rd K d true d2 w3 ⟨_,_,q4.bk⟩ (D.le (by simp+arith));have r1:aq Td [P] (PS K d true g2) (.ok x3 (PS K d true gm)):=r1;have V5:=p5.rd d4 w5 q6.bk (.inl rfl) D6 (ai:=true);have V7:=p7.rd d6 w7 q8.bk (.inr rfl) D6 (ai:=true);have n2:=q2.nt (F:=[(1,VY)]);have N:=n2.pn Ts VY d true;have r2:=r2 (pv (ln g));have B:=b.rd K d true (o8.dd.trans d7) W F D.dn;refine ⟨λh=>wk [.ag q.bk,.call (q.aE d true),.call N,.call (q2.cT d true),.call r1,.ifs r2,.call (q4.cT d true),.call V5,.call (q6.cT d true),.call V7,.call (q8.cT d true),.call (B.ok h)],λh=> ?_⟩;obtain ⟨σ,x,y⟩:=B.ex h;exact ⟨σ,wk [.ag q.bk,.call (q.aE d true),.call N,.call (q2.cT d true),.call r1,.ifs r2,.call (q4.cT d true),.call V5,.call (q6.cT d true),.call V7,.call (q8.cT d true),.call x],y⟩
end
noncomputable def G.tC (g:G)(c:Int)(Dl:List DI):G:=List.rec g (λD Z Z=>g.dP c D.j) Dl
noncomputable def Je (g:G)(pl:Bool)(D:DI)(Dl:List DI)(j:Nat):G:=(((g.tC (cond pl 1188 1091) Dl).cU D.dm (cond pl 1190 1189) D.j).cU D.kn (cond pl 2483 2404) j).ou D true
noncomputable def L6 (D:DI)(Dl:List DI):Nat:=(List.rec 0 (λZ Z Z=>2000) Dl+(if D.dm=true then 2000 else 0)+(if D.kn=true then 2000 else 0))+D.cB true
inductive Ed (D:DI)(j:Nat):V→Prop
 |mk {t kd i:V} (f:Nat) (hk:D.kn=false→kd= .none) (hk2:D.kn=true→ ∃k a l,kd=nd k a l 0 j) (hi:Ei D.dm i):Ed D j (nd 42 0 [t,kd,i] f D.j)
noncomputable def Hv (dp:Int)(cl:Bool)(a F:V)(pl:Bool)(x:V):ao:=[(115,.val sV),(Vf,.val (.int dp)),(V2,.val (.bool cl)),(TP,.val a),(500153084262,.val F),(VC,.val (.int (cond pl 0 1))),(1818453348,.val x)]
noncomputable def HJ (a F:V)(pl:Bool)(x:V):ao:=[(112,.val P),(500153084262,.val F),(TP,.val a),(Uo,.val (.int (cond pl 48 49))),(1818453348,.val x)]
section
variable {g g':G}{n j jk:Nat}{cl pl:Bool}{w:N}{dp:Int}{x a:V}{vs:List V}
theorem rK.kj (h:rK D x): ∃j,Ed D j x:=by
 obtain ⟨b,kn,dm,nm,q⟩:=D;obtain ⟨h,hk,hi⟩:=h;cases kn with
 |true=>obtain ⟨k,a,l,j,e⟩:=hk;exact ⟨j,.mk _ (λe=>Bool.noConfusion e) (λZ=>⟨k,a,l,e⟩) hi⟩
 |false=>exact ⟨0,.mk _ (λZ=>hk) (λe=>Bool.noConfusion e) hi⟩
theorem Lw {c:Int}:aV 0 2000 g (g.dP c j):=kW
theorem Ff {b:Bool}{c:Int}:aV 0 (if b=true then 2000 else 0) g (g.cU b c j):=by
 unfold G.cU;cases b with
 |true=>exact Lw
 |false=>exact .refl
theorem Sl {c:Int}:Mv g (g.dP c j):=by unfold G.dP G.ez;split;exact .refl;exact ⟨rfl,rfl,rfl,rfl,rfl,rfl⟩
theorem nX {c:Int}:aV 0 (List.rec 0 (λZ Z Z=>2000) Dl) g (g.tC c Dl):=by
 cases Dl with
 |nil=>exact .refl
 |cons D r=>exact Lw
theorem yh {c:Int}:Mv g (g.tC c Dl):=by
 cases Dl with
 |nil=>exact .refl
 |cons D r=>exact Sl
theorem Js (R:aj n g)(h:Ds (D::Dl) (x::vs)):eO To (eS To 4) (Hv dp cl a (nd 41 w (x::vs) 0 j) pl x) (aF g) (.next (Hv dp cl a (nd 41 w (x::vs) 0 j) pl x) (aF (g.tC (cond pl 1188 1091) Dl))):=by
 cases h with
 |jy h=>exact cD []
 | @Cr D v D' v' h h'=>
  obtain ⟨k,b,l,f,e⟩:=h'.nd;subst e;cases pl
  ·exact cD [.call (dP R 1091 D'.j)]
  ·exact cD [.call (dP R 1188 D'.j)]
theorem Kx (hd:g.dead=false)(ht:g.told.length<16000000)(h:Ds (D::Dl) (x::vs)):eO S6 (eS S6 4) (HJ a (nd 41 w (x::vs) 0 j) pl x) (PS K d true g) (.next (HJ a (nd 41 w (x::vs) 0 j) pl x) (PS K d true (g.tC (cond pl 1188 1091) Dl))):=by
 cases h with
 |jy h=>exact cD []
 | @Cr D v D' v' h h'=>
  obtain ⟨k,b,l,f,e⟩:=h'.nd;subst e;cases pl
  ·exact cD [.call (mY K hd ht 1091 D'.j d true)]
  ·exact cD [.call (mY K hd ht 1188 D'.j d true)]
theorem Jr (R:aj n g)(h:Ed D jk x):eO To (eS To 5) (Hv dp cl a F pl x) (aF g) (.next (Hv dp cl a F pl x) (aF (g.cU D.dm (cond pl 1190 1189) D.j))):=by
 obtain ⟨b,kn,dm,nm,q⟩:=D;obtain ⟨f,_,_,hi⟩:=h;cases dm with
 |false=>cases hi;exact cD []
 |true=>
  obtain ⟨k,b,l,z,hi⟩:=hi;subst hi;cases pl
  ·exact cD [.call (dP R 1189 q)]
  ·exact cD [.call (dP R 1190 q)]
theorem Ku (hd:g.dead=false)(ht:g.told.length<16000000)(h:Ed D jk x):eO S6 (eS S6 5) (HJ a F pl x) (PS K d true g) (.next (HJ a F pl x) (PS K d true (g.cU D.dm (cond pl 1190 1189) D.j))):=by
 obtain ⟨b,kn,dm,nm,q⟩:=D;obtain ⟨f,_,_,hi⟩:=h;cases dm with
 |false=>cases hi;exact cD []
 |true=>
  obtain ⟨k,b,l,z,hi⟩:=hi;subst hi;cases pl
  ·exact cD [.call (mY K hd ht 1189 q d true)]
  ·exact cD [.call (mY K hd ht 1190 q d true)]
theorem NN (R:aj n g)(h:Ed D jk x):eO To (eS To 6) (Hv dp cl a F pl x) (aF g) (.next (Hv dp cl a F pl x) (aF (g.cU D.kn (cond pl 2483 2404) jk))):=by
 obtain ⟨b,kn,dm,nm,q⟩:=D;obtain ⟨f,h1,h2,hi⟩:=h;cases kn with
 |false=>obtain rfl:=h1 rfl;exact cD []
 |true=>
  obtain ⟨k,b,l,hi⟩:=h2 rfl;subst hi;cases pl
  ·exact cD [.call (dP R 2404 jk)]
  ·exact cD [.call (dP R 2483 jk)]
theorem Ow (hd:g.dead=false)(ht:g.told.length<16000000)(h:Ed D jk x):eO S6 (eS S6 6) (HJ a F pl x) (PS K d true g) (.next (HJ a F pl x) (PS K d true (g.cU D.kn (cond pl 2483 2404) jk))):=by
 obtain ⟨b,kn,dm,nm,q⟩:=D;obtain ⟨f,h1,h2,hi⟩:=h;cases kn with
 |false=>obtain rfl:=h1 rfl;exact cD []
 |true=>
  obtain ⟨k,b,l,hi⟩:=h2 rfl;subst hi;cases pl
  ·exact cD [.call (mY K hd ht 2404 jk d true)]
  ·exact cD [.call (mY K hd ht 2483 jk d true)]
theorem Aj:aV 0 (L6 D Dl) g (Je g pl D Dl jk):=((nX.trans Ff).trans Ff).trans mU
end
structure Hn (pl:Bool)(g g':G):Prop where
 bR:pl=true→Tk g g' V4 false 1 V4
 no:pl=false→Tk g g' 28265 false 2 28265
structure QS (p:Nat)(g g':G)(w:N)(D:DI)(Dl:List DI)(x:V)(vs:List V):Prop where
 ds:Ds (D::Dl) (x::vs)
 af:aV p 17 g g'
 co:L6 D Dl≤p+2950
 dd:g'.dead=g.dead
 cl:g.dead=false→Cl g'
 aI:aT 8 (nd 41 w (x::vs) 0 (ln g))
 rd: ∀K d,g.dead=false→W K g'→Nt K (pos K g') [(5,33),(5,58),(5,61),(5,44)]→Dp 9 d→aq Td [P] (PS K d true g) (.ok (nd 41 w (x::vs) 0 (ln g)) (PS K d true g'))
 aB: ∀{n jk dp cl j pl g4 g5 g6 g7 y z},aj (n+3) g4→Ed D jk x→aq TL [sV,.int (7:Nat)] (aF g') (.ok (.bool pl) (aF g'))→Hn pl g' g4→aq Uh [sV,.bool false] (aF (Je g4 pl D Dl jk)) (.ok y (aF g5))→Tk g5 g6 41 false 5 41→aq UC [sV,.int dp,.bool cl] (aF g6) (.ok z (aF g7))→aq To [sV,.int dp,.bool cl,pv j] (aF g) (.ok (nd (cond pl 48 49) 0 [nd 41 w (x::vs) 0 (ln g),y,z] 0 j) (aF g7))
inductive ML (g:G):Prop
 |mk (p:Nat) (w:N) (D:DI) (Dl:List DI) (x:V) (vs:List V) (g':G) (r:QS p g g' w D Dl x vs)
section
variable {g g1 g2 g4 g5 g':G}{n j:Nat}{cl pl:Bool}{t w:N}{dp:Int}{e v x:V}{vs:List V}
theorem Hn.af (h:Hn pl g g'):aV 0 1 g g':=bc pl (λe=>(h.bR e).af) λe=>(h.no e).af
theorem Hn.dd (h:Hn pl g g'):g'.dead=g.dead:=bc pl (λe=>(h.bR e).dd) λe=>(h.no e).dd
theorem RJ (R:aj n g)(pl:Bool): ∃g',Hn pl g g':=by
 cases pl with
 |true=>obtain ⟨g1,o⟩:=cI R V4 false 1;exact ⟨g1,λZ=>o,jN⟩
 |false=>obtain ⟨g1,o⟩:=cI R 28265 false 2;exact ⟨g1,bK,λZ=>o⟩
theorem wQ (f:ir g g' false k w)(hf:(k,w)∈Cy)(hd:g.dead=false)(w1:W K g')(L:w=S0→aq TG [P] (PS K d false g) (.ok (.bool true) (PS K d false g)))(V:aq Vo [P,.int 0] (PS K d false g) (.ok v (PS K d false g'))):aq Td [P] (PS K d true g) (.ok v (PS K d true g')):=by
 obtain ⟨l2,q,_⟩:=f.lk K hd w1;rcases Wv hf with h|hf
 ·obtain ⟨rfl,rfl⟩:=lj h;exact wk [.ag q,.ag q,.ag q,.call (L rfl),.ag q,.ag q,.ag q,.call V]
 rcases Wv hf with h|hf
 ·obtain ⟨rfl,rfl⟩:=lj h;exact wk [.ag q,.ag q,.ag q,.ag q,.call V]
 ·obtain ⟨rfl,rfl⟩:=lj (Wx hf);exact wk [.ag q,.ag q,.ag q,.ag q,.ag q,.call V]
theorem J8 (n:Nat):cF .Mod (n:Int) 3=some ((n%3:Nat):Int):=rfl
theorem So (n:Nat): ∃k w,(k,w)∈Cy∧ag [.str Ui,.str S0,.str Un] ((n%3:Nat):Int)=some (.str w)∧bt fy w=some k∧lg w=false:=by
 have h:=Nat.mod_lt n (show 0<3 by decide);revert h;generalize n%3=r;intro h;rcases d3 h with h|h|h<;>subst h
 ·exact ⟨2,Ui,.tail _ (.head _),rfl,rfl,rfl⟩
 ·exact ⟨1,S0,.head _,rfl,rfl,rfl⟩
 ·exact ⟨2,Un,.tail _ (.tail _ (.head _)),rfl,rfl,rfl⟩
theorem Ds.hd (h:Ds (D::Dl) (x::vs)):rK D x:=by cases h<;>assumption
theorem NS (hr:Dr g 4 r)(h3:r<3)(R:aj 27 g):ML g:=by
 have sn:aV 0 0 g g.nx:=hr.af.dW;obtain ⟨k,w,hm,hn,hk,hx⟩:=So (ln g.nx);have h4:Nat.beq k 4=false:=Wy (Wu (show Cy.all (λp=>decide (Nat.beq p.1 4=false))=true from rfl) _ hm);have hk5:(k==5&&w==59)=false:=by exact aa (show (k==5)=false from Wy (Wu (show Cy.all (λp=>decide ((p.1==5)=false))=true from rfl) _ hm)) rfl
 have hk0:k≠0:=Wy (Wu (show Cy.all (λp=>decide (p.1≠0))=true from rfl) _ hm);obtain ⟨g1,o⟩:=cI (R.sg sn:aj 26 g.nx) w false k hk h4;have s1:=sn.trans o.af;obtain ⟨T,g2,p⟩:=Gw false g1 ((R.sg s1:aj 26 g1).aw (by decide));have sh:=p.sh;obtain ⟨kt,ta,tk,k',u,e,f2,hf2,_⟩:=p.sh;subst e;have t1:decide ((r:Int)<3)=true:=WA (Int.ofNat_lt.mpr h3);have hl:ln g.nx<16000000:=(R.sg sn:aj 26 g.nx).tk;have d1:g.dead=false→g1.dead=false:=o.dd.trans;refine ⟨0,w,⟨false,false,false,decide ((kt:Int)=8),ln g1⟩,[],nd 42 0 [nd kt ta tk 0 (ln g1),.none,.none] 0 (ln g1),[],g2,.jy (.mk (D:=⟨false,false,false,decide ((kt:Int)=8),ln g1⟩) rfl rfl rfl),(s1.trans p.af).le,by show 0≤_;exact Nat.zero_le _,p.dd.trans o.dd,λh=>p.cl (d1 h),.nd ⟨.nd ⟨p.pt.aI.le (by decide),.none,.none,trivial⟩,trivial⟩,λK d hd W n D=> ?_,?_⟩
 ·obtain ⟨l,q,_⟩:=o.lk hd (p.af.w W) (.inl hk5);have L:w=S0→aq TG [P] (PS K d false g) (.ok (.bool true) (PS K d false g)):=λZ=>by
   obtain ⟨l2,q2,_⟩:=f2.lk K (d1 hd) W;exact xX (vJ (m:=1) W.lt (pq g d false) (q.p1▸q2)) hf2
  have F1:=Dh (w:=w) (K:=K) (g:=g2) (ai:=false) (d:=d) p.pt (by decide);have pr:=p.rd K d false (d1 hd) W (D.le (by decide)) 10 (.tail _ (.tail _ (.head _)));have V:aq S7 [P,.str w] (PS K d false g1) (.ok (nd 42 0 [nd kt ta tk 0 (ln g1),.none,.none] 0 (ln g1)) (PS K d false g2)):=wk [.call pr,.eJ F1,.call (n.pn Sv 33 d false),.call (n.pn Ss 58 d false),.call (n.pn Ss 61 d false)];exact wQ (o.fst p.af hk5 hx).nx hm hd W L (wk [.call (q.aE d false hk0),.call V,.call (n.pn Ss 44 d false)])
 ·intro n jk dp cl j pl g4 g5 g6 g7 y z R4 hj h7 of vg o6 bd;cases pl
  ·exact wk [.call hr.aB,.av t1,.lt (show g.nx.toks.length<16000000 from hl),.op (J8 (ln g.nx)),.ag hn,.call o.aB,.call p.aB,.call h7,.call (of.no rfl).aB,.call vg,.call o6.aB,.call bd]
  ·exact wk [.call hr.aB,.av t1,.lt (show g.nx.toks.length<16000000 from hl),.op (J8 (ln g.nx)),.ag hn,.call o.aB,.call p.aB,.call h7,.call (of.bR rfl).aB,.call vg,.call o6.aB,.call bd]
theorem NT (hr:Dr g 4 r)(h3: ¬r<3)(R:aj 27 g):ML g:=by
 obtain ⟨w,g2,D,Dl,x,vs,p⟩:=Hm (R.sg hr.af (Nat.ble_eq_true_of_le (by simp+arith)):aj 26 g.nx);have hp:3050=zx r:=by
  rcases kG r with ⟨h,_⟩|⟨_,h⟩
  ·lia
  ·exact h.symm
 have sg:=hr.af.trans p.af;rw [←hp] at sg;have t1:decide ((r:Int)<3)=false:=Wz (by exact_mod_cast h3);have hco:L6 D Dl≤3050+D.pd+2950:=by
  have z: ∀b kn dm nm,DI.ok ⟨b,kn,dm,nm,0⟩=true→Nat.ble (2000+(if dm=true then 2000 else 0)+(if kn=true then 2000 else 0)+DI.cB ⟨b,kn,dm,nm,0⟩ true) (6000+DI.pd ⟨b,kn,dm,nm,0⟩)=true:=by decide+kernel
  have z:=Nat.le_of_ble_eq_true (z D.iB D.kn D.dm D.nm p.ok);have e:List.rec (motive:=λZ=>Nat) 0 (λZ Z Z=>2000) Dl≤2000:=by
   cases Dl with
   |nil=>exact Nat.zero_le _
   |cons _ _=>exact Nat.le_refl _
  have z:2000+(if D.dm=true then 2000 else 0)+(if D.kn=true then 2000 else 0)+D.cB true≤6000+D.pd:=z;unfold L6;lia
 refine ⟨3050+D.pd,w,D,Dl,x,vs,g2,p.ds,sg.dW,hco,p.dd,p.cl,p.aI,λK d hd W n D=> ?_,?_⟩
 ·obtain ⟨kw,f,hf⟩:=p.fst;exact wQ f.nx hf hd W (p.Of K d false hd W) (p.rd K d false hd W n (D.le (by decide)))
 ·intro n jk dp cl j pl g4 g5 g6 g7 y z R4 hj h7 of vg o6 bd;have R1:aj (n+2) (g4.tC (cond pl 1188 1091) Dl):=R4.sg nX (by cases Dl<;>rfl);have R2:aj (n+1) ((g4.tC (cond pl 1188 1091) Dl).cU D.dm (cond pl 1190 1189) D.j):=R1.sg Ff (by cases D.dm<;>rfl);have R3:aj n (((g4.tC (cond pl 1188 1091) Dl).cU D.dm (cond pl 1190 1189) D.j).cU D.kn (cond pl 2483 2404) jk):=R2.sg Ff (by cases D.kn<;>rfl);have B:=nh R3 p.ds.hd true;have S1:=Js (dp:=dp) (cl:=cl) (a:=pv j) (pl:=pl) (w:=w) (j:=ln g.nx) R4 p.ds;have S2:=Jr (dp:=dp) (cl:=cl) (a:=pv j) (pl:=pl) (F:=nd 41 w (x::vs) 0 (ln g.nx)) R1 hj;have S3:=NN (dp:=dp) (cl:=cl) (a:=pv j) (pl:=pl) (F:=nd 41 w (x::vs) 0 (ln g.nx)) R2 hj;cases pl
  ·exact wk [.call hr.aB,.av t1,.call p.aB,.call h7,.call (of.no rfl).aB,.ifs S1,.ifs S2,.ifs S3,.call B,.call vg,.call o6.aB,.call bd]
  ·exact wk [.call hr.aB,.av t1,.call p.aB,.call h7,.call (of.bR rfl).aB,.ifs S1,.ifs S2,.ifs S3,.call B,.call vg,.call o6.aB,.call bd]
theorem Rp (R:aj 28 g):ML g:=by
 obtain ⟨r,hr⟩:=ee R 4;by_cases h:r<3
 ·exact NS hr h R.jy
 ·exact NT hr h R.jy
end
section
variable {g g1 g2 g4 g5 g':G}{n j jk:Nat}{cl pl:Bool}{t w:N}{dp:Int}{e v x:V}{vs:List V}
theorem ED:Mv g (g.ou D late):=by unfold G.ou;split;exact fJ;split;exact fJ;exact eK
theorem EW:Mv g (Je g pl D Dl jk):=((yh.trans eK).trans eK).trans ED
theorem NG (SP:fm k)(h1:dp+2≤k)(h0: -1≤dp)(R:aj (8*k+37) g)(hon:on≠2):fj (k+1) cl on 3060 TY [sV,.int dp,.bool cl,.int 3] g:=by
 obtain ⟨g1,o⟩:=cI R TM false 2;obtain ⟨g2,o2⟩:=cI (R.sg o.af:aj (8*k+36) g1) 40 false 5;have s2:=o.af.trans o2.af;obtain ⟨p,w,D,Dl,x,vs,g3,h⟩:=Rp ((R.sg s2:aj (8*k+36) g2).aw);have s3:=s2.trans h.af;have R3:aj (8*k+36) g3:=R.sg s3 (Nat.ble_eq_true_of_le (by simp+arith));obtain ⟨pl,h7⟩:=ue R3 7;obtain ⟨g4,of⟩:=RJ R3 pl;have s4:=s3.trans of.af;have R4:aj (8*k+36) g4:=R.sg s4 (Nat.ble_eq_true_of_le (by lia));obtain ⟨jk,hj⟩:=h.ds.hd.kj;have sE:=Aj (g:=g4) (pl:=pl) (D:=D) (Dl:=Dl) (jk:=jk);have hco:=h.co;have s5:aV 0 2970 g (Je g4 pl D Dl jk):=(s4.trans sE).dW (lB hco);obtain ⟨y,g5,V⟩:=gr ((R.sg s5:aj (8*k+36) (Je g4 pl D Dl jk)).aw) false;have s6:=s5.trans V.af;obtain ⟨g6,o6⟩:=cI (R.sg s6:aj (8*k+36) g5) 41 false 5;have s7:=s6.trans o6.af;obtain ⟨z,g7,e,b⟩:=body (cl:=cl) SP h1 h0 ((R.sg s7:aj (8*k+36) g6).aw);have E:=h.aB (R4.aw:aj (8*k+3) g4) hj h7 of V.aB o6 e (dp:=dp) (cl:=cl) (j:=ln g);have sT:aV 0 3060 g g7:=(s7.trans b.af).le;have f:=o.fst (o2.af.trans (h.af.trans (of.af.trans (sE.trans (V.af.trans (o6.af.trans b.af))))));refine ⟨nd (cond pl 48 49) 0 [nd 41 w (x::vs) 0 (ln g2),y,z] 0 (ln g),g7,wk [.call o.aB,.call o2.aB,.call E],⟨sT,.up (.nd ⟨h.aI.le (by simp+arith),V.aI.s7,b.aI,trivial⟩),.no (by cases pl<;>decide),λK hd W=>f.fH hd W,λK d hd W F D'=> ?_⟩,.CA f hon (.inr (.inr rfl))⟩;have d1:=o.dd.trans hd;have d2:=o2.dd.trans d1;have d3:=h.dd.trans d2;have d4:=of.dd.trans d3;have m:=EW (g:=g4) (pl:=pl) (D:=D) (Dl:=Dl) (jk:=jk);have d5:=m.dd.trans d4;have d6:=V.dd.trans d5;have w6:=b.af.w W;have w5:=o6.af.w w6;have wE:=V.af.w w5;have w4:=m.wd wE;have w3:=of.af.w w4;have w2:=h.af.w w3;obtain ⟨l,q,_⟩:=o.lk hd (o2.af.w w2);obtain ⟨l2,q2,_⟩:=o2.lk d1 w2;obtain ⟨l6,q6,_⟩:=o6.lk d6 w6;have N:=(q2.nt (F:=[(1,VY)])).pn Ts VY d true;have VV:=V.rd K d true d5 w5 D'.d6;have B:=b.rd K d true (o6.dd.trans d6) W F D'.dn;have R1:aj (8*k+35) (g4.tC (cond pl 1188 1091) Dl):=R4.sg nX (by cases Dl<;>rfl);have R2:aj (8*k+34) ((g4.tC (cond pl 1188 1091) Dl).cU D.dm (cond pl 1190 1189) D.j):=R1.sg Ff (by cases D.dm<;>rfl);have R3:aj (8*k+33) (((g4.tC (cond pl 1188 1091) Dl).cU D.dm (cond pl 1190 1189) D.j).cU D.kn (cond pl 2483 2404) jk):=R2.sg Ff (by cases D.kn<;>rfl);have e1:(g4.tC (cond pl 1188 1091) Dl).dead=false:=yh.dd.trans d4;have e2:((g4.tC (cond pl 1188 1091) Dl).cU D.dm (cond pl 1190 1189) D.j).dead=false:=eK.dd.trans e1;have e3:(((g4.tC (cond pl 1188 1091) Dl).cU D.dm (cond pl 1190 1189) D.j).cU D.kn (cond pl 2483 2404) jk).dead=false:=eK.dd.trans e2;have BB:=nI (K:=K) e3 R3.td h.ds.hd true d true;have S1:=Kx (K:=K) (d:=d) (pl:=pl) (a:=pv (ln g)) (w:=w) (j:=ln g2) d4 R4.td h.ds;have S2:=Ku (K:=K) (d:=d) (pl:=pl) (a:=pv (ln g)) (F:=nd 41 w (x::vs) 0 (ln g2)) e1 R1.td hj;have S3:=Ow (K:=K) (d:=d) (pl:=pl) (a:=pv (ln g)) (F:=nd 41 w (x::vs) 0 (ln g2)) e2 R2.td hj;clear hco sT s7 s6 s5 s4 s3 s2 R1 R2 R3;cases pl with
 |true=>
  obtain ⟨l4,q4,_⟩:=(of.bR rfl).lk d3 w4;have rf:=h.rd K d d2 w3 q4.nt (D'.le (by simp+arith));refine ⟨λh=>wk [.ag q.bk,.call (q.aE d true),.call N,.call (q2.cT d true),.call rf,.ag q4.bk,.ag q4.bk,.call (q4.aE d true),.ifs S1,.ifs S2,.ifs S3,.call BB,.call VV,.call (q6.cT d true),.call (B.ok h)],λh=> ?_⟩;obtain ⟨σ,x,y⟩:=B.ex h;exact ⟨σ,wk [.ag q.bk,.call (q.aE d true),.call N,.call (q2.cT d true),.call rf,.ag q4.bk,.ag q4.bk,.call (q4.aE d true),.ifs S1,.ifs S2,.ifs S3,.call BB,.call VV,.call (q6.cT d true),.call x],y⟩
 |false=>
  obtain ⟨l4,q4,_⟩:=(of.no rfl).lk d3 w4;have rf:=h.rd K d d2 w3 q4.nt (D'.le (by simp+arith));refine ⟨λh=>wk [.ag q.bk,.call (q.aE d true),.call N,.call (q2.cT d true),.call rf,.ag q4.bk,.ag q4.bk,.ag q4.bk,.call (q4.aE d true),.ifs S1,.ifs S2,.ifs S3,.call BB,.call VV,.call (q6.cT d true),.call (B.ok h)],λh=> ?_⟩;obtain ⟨σ,x,y⟩:=B.ex h;exact ⟨σ,wk [.ag q.bk,.call (q.aE d true),.call N,.call (q2.cT d true),.call rf,.ag q4.bk,.ag q4.bk,.ag q4.bk,.call (q4.aE d true),.ifs S1,.ifs S2,.ifs S3,.call BB,.call VV,.call (q6.cT d true),.call x],y⟩
end
noncomputable def Rf:List (Nat×N):=[(5,125),(2,Up),(2,UD)]
structure lq (K:PK)(g:G):Prop where
 lZ:fT false K g
 bk: ∃k u i l,ag K.T (pos K g:Int)=some (jt k u i l)∧(k,u)∈Rf
noncomputable def C8 (a t:V)(ks:List V):ao:=[(112,.val P),(TP,.val a),(1953719668,.val t),(Vs,.own ks)]
noncomputable def Hs:Stmt:=eS Th 5
noncomputable def LW (d:Int)(a t:V)(ks:List V)(σ:St)(o:SO):Prop:=d9 (qG Th (.int d,.none) .none) (eD Hs) (dK Hs) (C8 a t ks) σ o
structure My (k:Nat)(g g':G)(df:Bool)(v:V):Prop where
 af:aV 0 24 g g'
 sh: ∃c vs,v=nd 51 0 (c::vs) 0 (ln g)∧vs.length≤2∧(df=true→c= .none)∧(df=false→ ∃kk a l j,c=nd kk a l 0 j)
 aI:aT (8+3*k+1) v
 fst:ir g g' false 2 (if df=true then UD else Up)
 rd: ∀K d,g.dead=false→W K g'→0<g.b.bD→(g'.dead=false→lq K g')→Dp (5*k+9) d→8+3*k≤150→oE K Th [P] d true g g' v
inductive LX (dp:Int)(g g':G):Bool→V→Prop
 |df {g1 g2:G} {r:Nat} {vs:List V} (hr:Dr g 3 0) (o:Tk g.nx g1 UD false 2 UD) (o2:Tk g1 g2 58 false 5 58) (h2:Dr g2 3 r) (G:zF dp r g2.nx vs g'):LX dp g g' true (nd 51 0 (.none::vs) 0 (ln g))
 |cs {g1 g2 g3:G} {r r0 kk cj:Nat} {ca:N} {cs vs:List V} (hr:Dr g 3 r0) (h0:r0≠0) (o:Tk g.nx g1 Up false 2 Up) (e:aq Uh [sV,.bool false] (aF g1) (.ok (nd kk ca cs 0 cj) (aF g2))) (o2:Tk g2 g3 58 false 5 58) (h2:Dr g3 3 r) (G:zF dp r g3.nx vs g'):LX dp g g' false (nd 51 0 (nd kk ca cs 0 cj::vs) 0 (ln g))
inductive QO (k:Nat)(dp:Int)(g:G):Prop
 |mk (df:Bool) (v:V) (g':G) (G:LX dp g g' df v) (r:My k g g' df v)
section
variable {g g1 g2 g4 g5 g':G}{n j:Nat}{cl pl:Bool}{w:N}{dp:Int}{e v x t:V}{vs:List V}
theorem Ak (S:zm K g)(hn:0<g.b.bD)(d:Int):aq U2 [P] (PS K d true g) (.ok (.bool false) (PS K d true g)):=by
 have n:=S.nt;rw [WA hn] at n;obtain ⟨tk,h1,k',u,a,e,l,h2,h3⟩:=n.nz;subst h2;exact wk [.call (n.pn Sv 125 d true),.ag h1,.av (Bool.not_eq_true' _▸h3),.call (n.pn Tr Up d true),.call (n.pn Tr UD d true)]
theorem wL (h:lq K g)(d:Int):aq U2 [P] (PS K d true g) (.ok (.bool true) (PS K d true g)):=by
 obtain ⟨_,k,u,i,l,h,hm⟩:=h;rcases Wv hm with e|hm
 ·obtain ⟨rfl,rfl⟩:=lj e;exact wk [.ag h]
 rcases Wv hm with e|hm
 ·obtain ⟨rfl,rfl⟩:=lj e;exact wk [.ag h,.ag h,.ag h]
 ·obtain ⟨rfl,rfl⟩:=lj (Wx hm);exact wk [.ag h,.ag h,.ag h,.ag h]
theorem zY (h:qx k g vs g')(hn:0<g.b.bD)(hd:g.dead=false)(W:W K g')(F:g'.dead=false→lq K g')(D:Dp (5*k+9) d)(ht:8+3*k≤150): ∀ks,ks.length+vs.length<1000→
  (g'.dead=false→LW d e t ks (PS K d true g) (.next (C8 e t (ks++vs)) (PS K d true g')))∧(g'.dead=true→ ∃ks' σ,fM K g' σ∧LW d e t ks (PS K d true g) (.ba (C8 e t ks') σ)):=by
 induction h with
 |nil=>
  refine λks Z=>⟨λh=> ?_,λh=>WK (hd.symm.trans h) (by decide)⟩;exact aa (Wr ..) (.brk (fs:=[.call (wL (F h) d)]) [])
 | @cons g v g1 vs g' r s ih=>
  intro ks hk;rw [List.length_cons] at hk;have w1:=s.af.w W;have E:=Ak (r.fH K hd w1) hn d;have bD:0<g1.b.bD:=by exact aa r.af.bb hn
  have lZ:g1.dead=false→fT false K g1:=λh=>by
   cases s with
   |nil=>exact (F h).lZ
   |cons r2 t2=>exact (r2.fH K h (t2.af.w W)).lZ
  have B:=tg (ai:=true) D (r.rd K (d+1) hd w1 lZ D.up) r.aI ht;have hl:ks.length<16000000:=by exact lB hk
  cases h1d:g1.dead with
  |true=>
   obtain ⟨σ,y,z⟩:=B.ex h1d;have hx:=(s.af.dd h1d).1;exact ⟨λh=>WK (hx.symm.trans h) (by decide),λZ=>⟨ks,σ,z.af s.af h1d,.last (fs:=[.call E,.call y]) (o1:= .ba (C8 e t ks) σ)⟩⟩
  |false=>
   obtain ⟨i1,i2⟩:=ih bD h1d W F (ks++[v]) (by refine aa Wo ?_;show _+1+_<_;exact lB hk);have go: ∀o,LW d e t (ks++[v]) (PS K d true g1) o→LW d e t ks (PS K d true g) o:=λo q=>q.b9 (fs:=[.call E,.call (B.ok h1d),.lt hl]) [];exact ⟨λh=>by have z:=go _ (i1 h);rw [Wn] at z;exact z,λh=>by obtain ⟨ks',σ,y,z⟩:=i2 h;exact ⟨ks',σ,y,go _ z⟩⟩
end
section
variable {g g1 g2 g4 g5 g':G}{n j:Nat}{cl pl:Bool}{w:N}{dp:Int}{e v x t:V}{vs:List V}
theorem C6 (w:qx k g.nx vs g')(hl:vs.length≤2)(hn:0<g.b.bD)(hd:g.dead=false)(W:W K g')(F:g'.dead=false→lq K g')(D:Dp (5*k+9) d)(ht:8+3*k≤150):
  (g'.dead=false→eO Th Hs (C8 e t [t]) (PS K d true g) (.next (C8 e t (t::vs)) (PS K d true g')))∧(g'.dead=true→ ∃ks' σ,fM K g' σ∧eO Th Hs (C8 e t [t]) (PS K d true g) (.ba (C8 e t ks') σ)):=by
 obtain ⟨i1,i2⟩:=zY (d:=d) (e:=e) (t:=t) w hn hd W F D ht [t] (by show 0+1+_<_;exact lB hl);refine ⟨λh=>d9.iw (f:=Th) (st:=Hs) (i1 h),λh=> ?_⟩;obtain ⟨ks,σ,y,z⟩:=i2 h;exact ⟨ks,σ,y,d9.iw (f:=Th) (st:=Hs) z⟩
theorem IU (SP:fm k)(h1:dp+2≤k)(h0: -1≤dp)(R:aj (8*k+35) g):QO k dp g:=by
 obtain ⟨r0,hr⟩:=ee R 3;have sn:aV 0 0 g g.nx:=hr.af.dW;by_cases e0:r0=0
 ·subst e0;obtain ⟨g1,o⟩:=cI (R.sg sn:aj (8*k+34) g.nx) UD false 2;have s1:=sn.trans o.af;obtain ⟨g2,o2⟩:=cI (R.sg s1:aj (8*k+34) g1) 58 false 5;have s2:=s1.trans o2.af;obtain ⟨r,h2⟩:=ee (R.sg s2:aj (8*k+34) g2) 3;have sn2:aV 0 0 g2 g2.nx:=h2.af.dW;have s3:=s2.trans sn2;obtain ⟨vs,g3,G,w,hl⟩:=rows SP h1 h0 h2.lt ((R.sg s3:aj (8*k+34) g2.nx).aw);refine ⟨true,nd 51 0 (.none::vs) 0 (ln g),g3,.df hr o o2 h2 G,(s3.trans w.af).dW (by lia),⟨_,_,rfl,hl,λZ=>rfl,jN⟩,.node (λx hx=>(Wv hx).elim (λe=>e▸ .none) (w.aI x)) (by exact aa List.length_cons (WD hl (by decide))),(o.fst (o2.af.trans (sn2.trans w.af))).nx,λK d hd W hn F D ht=> ?_⟩;have W2:Mine.W K g2:=sn2.w (w.af.w W);obtain ⟨l,q,_⟩:=o.lk hd (o2.af.w W2);obtain ⟨l2,q2,_⟩:=o2.lk (o.dd.trans hd) W2;have n:=(q.nt (F:=[(2,Up)])).pn S9 Up d true;obtain ⟨i1,i2⟩:=C6 (e:=pv (ln g)) (t:= .none) w hl (by exact aa s2.bb hn) (o2.dd.trans (o.dd.trans hd)) W F D ht;refine ⟨λh=>wk [.ag q.bk,.call n,.call (q.cT d true),.call (q2.cT d true),.eJ (i1 h)],λh=> ?_⟩;obtain ⟨ks,σ,y,z⟩:=i2 h;exact ⟨σ,wk [.ag q.bk,.call n,.call (q.cT d true),.call (q2.cT d true),.eJ z],y⟩
 ·obtain ⟨g1,o⟩:=cI (R.sg sn:aj (8*k+34) g.nx) Up false 2;have s1:=sn.trans o.af;obtain ⟨c,g5,V⟩:=gr ((R.sg s1:aj (8*k+34) g1).aw) false;have sv:=s1.trans V.af;obtain ⟨g2,o2⟩:=cI (R.sg sv:aj (8*k+34) g5) 58 false 5;have s2:=sv.trans o2.af;obtain ⟨r,h2⟩:=ee (R.sg s2:aj (8*k+34) g2) 3;have sn2:aV 0 0 g2 g2.nx:=h2.af.dW;have s3:=s2.trans sn2;obtain ⟨vs,g3,G,w,hl⟩:=rows SP h1 h0 h2.lt ((R.sg s3:aj (8*k+34) g2.nx).aw);have sh:=V.sh;obtain ⟨kc,ca,cs,_,_,e,_⟩:=V.sh;subst e;refine ⟨false,nd 51 0 (nd kc ca cs 0 (ln g1)::vs) 0 (ln g),g3,.cs hr e0 o V.aB o2 h2 G,(s3.trans w.af).dW (by lia),⟨_,_,rfl,hl,bK,λZ=>⟨_,_,_,_,rfl⟩⟩,.node (λx hx=>(Wv hx).elim (λe=>e▸V.aI.le (by simp+arith)) (w.aI x)) (by exact aa List.length_cons (WD hl (by decide))),(o.fst (V.af.trans (o2.af.trans (sn2.trans w.af)))).nx,λK d hd W hn F D ht=> ?_⟩;have W2:Mine.W K g2:=sn2.w (w.af.w W);have W5:=o2.af.w W2;have d1:=o.dd.trans hd;obtain ⟨l,q,_⟩:=o.lk hd (V.af.w W5);obtain ⟨l2,q2,_⟩:=o2.lk (V.dd.trans d1) W2;have VV:=V.rd K d true d1 W5 (D.le (by simp+arith));obtain ⟨i1,i2⟩:=C6 (e:=pv (ln g)) (t:=nd kc ca cs 0 (ln g1)) w hl (by exact aa s2.bb hn) (o2.dd.trans (V.dd.trans d1)) W F D ht;refine ⟨λh=>wk [.ag q.bk,.call (q.cT d true),.call VV,.call (q2.cT d true),.eJ (i1 h)],λh=> ?_⟩;obtain ⟨ks,σ,y,z⟩:=i2 h;exact ⟨σ,wk [.ag q.bk,.call (q.cT d true),.call VV,.call (q2.cT d true),.eJ z],y⟩
end
noncomputable def Oc:TO (List V)→Option ((List V×ao×St)×List dG)
 | .ok vs ρ σ _ ks=>some ((vs,ρ,σ),ks.map (·.1))
 |_=>none
noncomputable def OP (vs:List V)(ρ:ao)(σ:St):TO (List V)→Option ((List V×ao×St)×List dG)
 | .ok _ _ _ _ ks=>some ((vs,ρ,σ),ks.map (·.2))
 |_=>some ((vs,ρ,σ),[])
theorem CT.Oq {f:N}{e:Expr}{g:Comprehension}{sc:Scope}{p:Pos}{ρ ρ':ao}{σ σ':St}{vs:List V}{fs:List aD}(hc:jl fs=none:=by rfl)(h:Oc (qS (lv 40) (bj f ρ σ) e g sc ρ σ fs)=OP vs ρ' σ' (qS (lv 40) (bj f ρ σ) e g sc ρ σ fs)):CT f e g sc p ρ σ vs ρ' σ':=by
 generalize ht:qS (lv 40) (bj f ρ σ) e g sc ρ σ fs=t at h;cases t with
 |ok vs2 ρ2 σ2 fs2 ks=>
  injection h with h
  injection h with h1 h2
  injection h1 with a1 h1
  injection h1 with a2 a3
  subst a1 a2 a3;exact CT.of hc ht (bN.of h2)
 |_=>exact ig h
noncomputable def HR:Stmt:=eS Te 6
noncomputable def Mn:Expr:=vY (HQ HR 3)
noncomputable def DZ (dp:Int)(a:V)(ks:List V)(sn:Bool)(ex:ao):ao:=(115,.val sV)::(Vf,.val (.int dp))::(TP,.val a)::(Wk,.own ks)::(1852138867,.val (.bool sn))::ex
noncomputable def Lj (i:Nat)(c:V)(j:Nat)(ex:ao):ao:=(Wh,.val (.int (i:Int)))::(1684959075,.val c)::(1953460339,.val (pv j))::ex
section
variable {g g1 g2 g4 g5 g':G}{n j:Nat}{cl pl df:Bool}{w:N}{dp:Int}{e v x t a:V}{vs:List V}
theorem rX (hr:Dr g 3 r)(G:zF dp r g.nx vs g'):CT Te (qC Mn) (qD Mn) (qE Mn) (zr Mn) (DZ dp a ks sn (Lj i c j [])) (aF g) vs (DZ dp a ks sn (Lj i c j [])) (aF g'):=by
 cases G with
 |z=>exact .Oq (fs:=[.call hr.aB]) rfl (by kernel_rfl)
 |o e=>exact .Oq (fs:=[.call hr.aB,.call e]) rfl (by kernel_rfl)
 |t e e2=>exact .Oq (fs:=[.call hr.aB,.call e,.call e2]) rfl (by kernel_rfl)
end
noncomputable def QE (dp:Int):Sx:=qG Te (.none,.none) (.int dp)
noncomputable def M4 (dp:Int)(cn n i:Nat)(a:V)(ks:List V)(sn:Bool)(g:G)(o:SO):Prop:=eN (QE dp) (λZ Z=>some (aX (cn:Int))) Wh (dK HR) n i (DZ dp a ks sn []) (aF g) o
noncomputable def Ot (a b:Bool):Bool:=cond a true b
noncomputable def Ih (a b:Bool):Bool:=cond a b false
section
variable {g g1 g2 g4 g5 g':G}{n j cn:Nat}{cl pl df:Bool}{w:N}{dp:Int}{e v x t a:V}{vs:List V}{o:SO}
theorem zF.lt (h:zF dp r g vs g'):1+vs.length<16000000:=by cases h<;>exact Nat.le_of_ble_eq_true rfl
theorem Cb (G:LX dp g g' df v)(R:aj m g')(hi:i<cn)(hk:ks.length<16000000)(h:M4 dp cn n (i+1) a (ks++[v]) (Ot sn df) (g'.cU (Ih df sn) 1113 (ln g)) o):M4 dp cn (n+1) i a ks sn g o:=by
 have hv:(aX (cn:Int))[i]? =some (.int (i:Int)):=by
  unfold aX;exact aa (List.getElem?_map) (aa (List.getElem?_range (by show i<cn;exact hi)) rfl)
 cases G with
 | @df g1 g2 r vs hr o1 o2 h2 G=>
  have ct:=rX (dp:=dp) (a:=a) (ks:=ks) (sn:=sn) (i:=i) (c:= .none) (j:=ln g) h2 G;cases sn with
  |false=>exact eN.b9 h (fs:=[.call hr.aB,.call o1.aB,.call o2.aB,.cmp ct,.lt G.lt,.lt hk]) rfl hv (Lj i .none (ln g) [(Vs,.val (.list vs))])
  |true=>exact eN.b9 h (fs:=[.call hr.aB,.call o1.aB,.call o2.aB,.cmp ct,.call (dP R 1113 (ln g)),.lt G.lt,.lt hk]) rfl hv (Lj i .none (ln g) [(Vs,.val (.list vs))])
 | @cs g1 g2 g3 r r0 kk cj ca cs vs hr h0 o1 e o2 h2 G=>
  have t1:decide ((r0:Int)=0)=false:=Wz λe=>h0 (Int.ofNat.inj e);have ct:=rX (dp:=dp) (a:=a) (ks:=ks) (sn:=sn) (i:=i) (c:=nd kk ca cs 0 cj) (j:=ln g) h2 G;cases sn<;>exact eN.b9 h (fs:=[.call hr.aB,.av t1,.call o1.aB,.call e,.call o2.aB,.cmp ct,.lt G.lt,.lt hk]) rfl hv (Lj i (nd kk ca cs 0 cj) (ln g) [(Vs,.val (.list vs))])
end
noncomputable def Ml:Stmt:=eS S4 5
noncomputable def OW (a:V)(ks:List V)(sn:Bool):ao:=[(SN,.val (.aO Ua [])),(112,.val P),(TP,.val a),(Vs,.own ks),(1852138867,.val (.bool sn))]
noncomputable def Ib (d:Int)(a:V)(ks:List V)(sn:Bool)(σ:St)(o:SO):Prop:=d9 (qG S4 (.int d,.none) .none) (eD Ml) (dK Ml) (OW a ks sn) σ o
structure Q2 (n k:Nat)(g g':G)(ks ks':List V)(sn sn':Bool):Prop where
 af:aV 0 (2024*n) g g'
 len:ks'.length=ks.length+n
 aI:(∀x∈ks,aT (8+3*k+1) x)→ ∀x∈ks',aT (8+3*k+1) x
 EX: ∀K,g.dead=false→W K g'→(g'.dead=false→lq K g')→lq K g
 rd: ∀K d a,g.dead=false→W K g'→0<g.b.bD→(g'.dead=false→lq K g'∧ ∃i l,ag K.T (pos K g':Int)=some (jt 5 125 i l))→Dp (5*k+9) d→8+3*k≤150→
  (g'.dead=false→Ib d a ks sn (PS K d true g) (.next (OW a ks' sn') (PS K d true g')))∧(g'.dead=true→ ∃ρ σ,fM K g' σ∧Ib d a ks sn (PS K d true g) (.ba ρ σ))
inductive Q1 (n k:Nat)(dp:Int)(cn i:Nat)(a:V)(g:G)(ks:List V)(sn:Bool):Prop
 |mk (ks':List V) (g':G) (sn':Bool) (h:M4 dp cn n i a ks sn g (.next (DZ dp a ks' sn' []) (aF g'))) (r:Q2 n k g g' ks ks' sn sn')
section
variable {g g1 g2 g4 g5 g':G}{n j cn:Nat}{cl pl df:Bool}{w:N}{dp:Int}{e v x t a:V}{vs:List V}{o:SO}
theorem Mv.EX (x:Mv g g')(h:lq K g'):lq K g:=⟨x.lZ h.lZ,x.pos▸h.bk⟩
theorem B6 (n1:aq Sv [P,.str 125] (PS K d true g) (.ok (.bool false) (PS K d true g)))(C:aq Th [P] (PS K d true g) (.ok (nd 51 0 (c::vs) 0 j) (PS K d true g')))(hl:vs.length≤2)(hk:ks.length<16000000)(hd:g'.dead=false)(ht:g'.told.length<16000000)
  (c1:df=true→c= .none) (c2:df=false→ ∃kk a l j,c=nd kk a l 0 j) (h:Ib d a (ks++[nd 51 0 (c::vs) 0 j]) (Ot sn df) (PS K d true (g'.cU (Ih df sn) 1113 j)) o):Ib d a ks sn (PS K d true g) o:=by
 have hn:ag (c::vs) 0=some c:=de (i:=0) rfl (by show vs.length+1<16000000;exact lB hl);cases df with
 |false=>
  obtain ⟨kk,b,l,q,e⟩:=c2 rfl;subst e;cases sn<;>exact d9.b9 h (fs:=[.call n1,.call C,.ag hn,.lt hk]) [(Up,.val (nd 51 0 (nd kk b l 0 q::vs) 0 j))]
 |true=>
  obtain rfl:=c1 rfl;cases sn with
  |false=>exact d9.b9 h (fs:=[.call n1,.call C,.ag hn,.lt hk]) [(Up,.val (nd 51 0 (.none::vs) 0 j))]
  |true=>exact d9.b9 h (fs:=[.call n1,.call C,.ag hn,.call (mY K hd ht 1113 j d true),.lt hk]) [(Up,.val (nd 51 0 (.none::vs) 0 j))]
theorem My.nt (r:My k g g' df v)(hd:g.dead=false)(W:W K g'):lq K g∧Nt K (pos K g) [(5,125)]:=by
 obtain ⟨l,h,_⟩:=r.fst.lk K hd W;have f:=r.fst;cases df with
 |true=>exact ⟨⟨f.lZ hd W,_,_,_,_,h,.tail _ (.tail _ (.head _))⟩,_,_,_,_,_,h,rfl⟩
 |false=>exact ⟨⟨f.lZ hd W,_,_,_,_,h,.tail _ (.head _)⟩,_,_,_,_,_,h,rfl⟩
theorem EG {gn:G}(SP:fm k)(h1:dp+2≤k)(h0: -1≤dp)(R:aj (8*k+36) gn)(hc:cn≤3)(n:Nat): ∀i g ks sn,i+n=cn→ks.length+n<1000→aV 0 (2024*i) gn g→Q1 n k dp cn i a g ks sn:=by
 induction n with
 |zero=>
  intro i g ks sn hi hl s0;exact ⟨ks,g,sn,.done rfl (by unfold aX;exact aa (Wq ..) (aa List.length_range hi.symm)),aV.refl,rfl,λh=>h,λK hd Z F=>F hd,λK d a hd W hn F D ht=>⟨λh=>by obtain ⟨_,i,l,q⟩:=F h;exact .brk (fs:=[.ag q]) [],λh=>WK (hd.symm.trans h) (by decide)⟩⟩
 |succ n ih=>
  intro i g ks sn hi hl s0;obtain ⟨df,v,g1,G,r⟩:=IU SP h1 h0 (R.sg s0 (Nat.ble_eq_true_of_le (by lia)));have R1:aj (8*k+35) g1:=R.sg (s0.trans r.af) (Nat.ble_eq_true_of_le (by lia));have s1:aV 0 2000 g1 (g1.cU (Ih df sn) 1113 (ln g)):=Ff.dW (by split<;>(first|exact Nat.le_refl _|decide));obtain ⟨ks',g',sn',h,p⟩:=ih (i+1) (g1.cU (Ih df sn) 1113 (ln g)) (ks++[v]) (Ot sn df) (lE hi) (by refine aa Wo ?_;show _+1+_<_;exact lB hl) (((s0.trans r.af).trans s1).dW);have sT:=s1.trans p.af;refine ⟨ks',g',sn',Cb G R1 (lS hi) (lB hl) h,(r.af.trans sT).dW,by refine aa p.len (aa Wo ?_);show _+1+_=_;simp+arith,λh=>p.aI (kA h r.aI),λK hd W F=>(r.nt hd (sT.w W)).1,λK d a hd W hn F D ht=> ?_⟩;have m:Mv g1 (g1.cU (Ih df sn) 1113 (ln g)):=eK;have w1:=sT.w W;have n1:=(r.nt hd w1).2.pn Sv 125 d true;obtain ⟨c,vs,e,hv,c1,c2⟩:=r.sh;have C:=r.rd K d hd w1 hn (λh=>m.EX (p.EX K (m.dd.trans h) W λh=>(F h).1)) D ht;subst e;cases h1d:g1.dead with
  |true=>
   obtain ⟨σ,y,z⟩:=C.ex h1d;have hx:=(sT.dd h1d).1;exact ⟨λh=>WK (hx.symm.trans h) (by decide),λZ=>⟨_,σ,z.af sT h1d,.last (fs:=[.call n1,.call y]) (o1:= .ba (OW a ks sn) σ)⟩⟩
  |false=>
   obtain ⟨i1,i2⟩:=p.rd K d a (m.dd.trans h1d) W (by exact aa m.b (aa r.af.bb hn)) F D ht;have go: ∀o,_→Ib d a ks sn (PS K d true g) o:=λo q=>B6 (o:=o) n1 (C.ok h1d) hv (lB hl) h1d R1.td c1 c2 q;exact ⟨λh=>go _ (i1 h),λh=>by obtain ⟨ρ,σ,y,z⟩:=i2 h;exact ⟨ρ,σ,y,go _ z⟩⟩
end
end Mine
end
noncomputable section
namespace Mine
open PySem PySem.W PySem.Calls PyProof.Rows PySem.SeqAt
section
variable {o:SO}{fs1:List aD}{ρ ρ1:ao}{σ σ1:St}{sx:Sx}{n:Nat}{get:ao→St→Option (List V)}{x f:N}{st:Stmt}
theorem eN.Sh {k0:Ks}{fs0:List aD}(h:eN sx get x (dK st) n 0 ρ1 σ1 o)(e: ∀T,i5 (lv 40) sx T (oo st) (eD st) ρ σ fs0=(T get x n ρ1 σ1 fs1).pre k0)(K0:bN k0:=by exact trivial)(hx:sx=bj f ρ σ:=by kernel_rfl)(hs:Du st=true:=by kernel_rfl):eO f st ρ σ o:=λC γ s H F=>by
 subst hx;cases st with
 |For y it b e2 p=>
  refine ay hs λh1 h2=> ?_;obtain rfl:=Ww h1;cases hy:gi y with
  |none=>rw [hy] at h2;exact bK h2
  |some s=>
   refine cb hy λpx e3=> ?_;subst e3;have z:=kL (L:=lv 40) (b:=b) (iter:=it) (y:=s) (px:=px) (p:=p) (fs:=fs0) (gT 40) H F rfl (T:=λget x n=>kR (tX (lv 40) (bj f ρ σ) get x b o n 0) o) (λh Z=>by obtain ⟨h,e⟩:=nu h;subst e;exact h);have e1:=(e λget x n=>kR (tX (lv 40) (bj f ρ σ) get x b o n 0) o).trans (WJ (TS.pre k0) (sG h));have e1:i5 (lv 40) (bj f ρ σ) _ s it ρ σ fs0=_:=e1;rw [e1] at z;exact z (K0.append trivial)
 |_=>exact bK hs
end
section
variable {K:PK}{g g1 g2 g3 g4 g5 g':G}{n k m i j kk a0 b on num r cn:Nat}{ti ai cl l br late pl sn df:Bool}{u w lb:N}{d dp:Int}{e v x row F t c a:V}{q:PQ}{L A vs ks:List V}{o:SO}
theorem Ll (hr:Dr g 4 cn)(T:(ao→St→Option (List V))→N→Nat→ao→St→List aD→TS):i5 (lv 40) (QE dp) T (oo HR) (eD HR) (DZ dp a ks sn []) (aF g) [.call hr.aB]=(T (λZ Z=>some (aX (cn:Int))) Wh cn (DZ dp a ks sn []) (aF g.nx) []).pre [(.call TV [sV,.int (4:Nat)] (aF g),.call TV [sV,.int (4:Nat)] (aF g))]:=by
 have h:=hr.lt;rcases d4 h with h|h|h|h<;>subst h<;>kernel_rfl
end
end Mine
end
noncomputable section
namespace Mine
open PySem
variable {K:PK}{g g' g2 g4 g5 g3:G}{j m cn on b r0:Nat}{c cl p ti:Bool}{L ks R M:List V}{dp:Int}{o:SO}{σ:St}{a:V}{ts:List Tq}{f:N}
section
variable {g1:G}{n k i kk a0 num r:Nat}{ai l br late pl sn df:Bool}{u w lb:N}{d:Int}{e v x row F t c:V}{q:PQ}{A vs:List V}
theorem Cd (SP:fm k)(h1:dp+2≤k)(h0: -1≤dp)(R:aj (8*k+37) g)(hon:on≠1):fj (k+1) cl on 3060 Te [sV,.int dp] g:=by
 obtain ⟨g1,o⟩:=cI R TJ false 2;obtain ⟨v,g2,t⟩:=Cm ((R.sg o.af:aj (8*k+36) g1).aw);have s2:=o.af.trans t.af;obtain ⟨g3,o2⟩:=cI (R.sg s2:aj (8*k+36) g2) 123 false 5;have s3:=s2.trans o2.af;have R3:aj (8*k+36) g3:=R.sg s3;have hn:0<g3.b.bD+1:=by have:=R3.bD;exact zB this
 obtain ⟨gn,hg⟩: ∃gn,gn=g3.wB {g3.b with bD:=g3.b.bD+1,switch:=g3.b.switch+1}:=⟨_,rfl⟩;have Rn:aj (8*k+36) gn:=by
  subst hg;obtain ⟨r1,r2,r3,r4,r5,r6,r7,r8,r9⟩:=R3;exact ⟨r1,r2,r3,r4,r5,r6,by show 0≤g3.b.switch+1;exact zB r7,by show 0≤g3.b.bD+1;exact zB r8,r9⟩
 obtain ⟨cn,hr⟩:=ee Rn 4;have hl:=hr.lt;obtain ⟨ks,g4,sn,C,p⟩:=EG (a:=pv (ln g)) (cn:=cn) SP h1 h0 Rn (by lia) cn 0 gn.nx [v] false (Nat.zero_add _) (by show 0+1+_<_;exact lB hl) (hr.af.dW);have sg:aV 0 3022 gn g4:=(hr.af.trans p.af).dW (by rcases kG cn with ⟨h,e⟩|⟨h,e⟩<;>refine aa e ?_<;>lia);have sB:aV 0 3022 g3 (g4.wB g3.b):=kZ (hg▸sg);have eb:g4.wB g3.b=g4.wB {g4.b with bD:=g4.b.bD - 1,switch:=g4.b.switch - 1}:=by
  refine aa sg.bb (aa hg ?_);show _=g4.wB {g3.b with bD:=g3.b.bD+1 - 1,switch:=g3.b.switch+1 - 1};exact aa (Int.add_sub_cancel ..) (aa (Int.add_sub_cancel ..) rfl)
 have s4:=s3.trans sB;obtain ⟨g5,o3⟩:=cI (R.sg s4:aj (8*k+36) _) 125 false 5;have gen3:aq Tb [sV,.str 125,.bool false] (aF (g4.wB {g4.b with bD:=g4.b.bD - 1,switch:=g4.b.switch - 1})) (.ok (pv (ln g4)) (aF g5)):=eb▸o3.aB;have f:=o.fst (t.af.trans (o2.af.trans (sB.trans o3.af)));have Z:eO Te HR (DZ dp (pv (ln g)) [v] false []) (aF gn) (.next (DZ dp (pv (ln g)) ks sn []) (aF g4)):=eN.Sh (f:=Te) (st:=HR) C (Ll hr) ⟨rfl,trivial⟩;refine ⟨nd 50 0 ks 0 (ln g),g5,?_,⟨(s4.trans o3.af).le,?_,.no (by decide),λK hd W=>f.fH hd W,λK d hd W F D=> ?_⟩,.Kn f hon rfl⟩
 ·subst hg;exact wk [.call o.aB,.call t.aB,.call o2.aB,.eJ Z,.call gen3]
 ·have z:aT (8+3*k+2) (nd 50 0 ks 0 (ln g)):= .node (p.aI λx hx=>by cases Wx hx;exact t.aI.le (by simp+arith)) (by refine aa p.len ?_;show 1+cn≤8;exact lB hl);exact z.le (by simp+arith)
 have d1:=o.dd.trans hd;have d3:=o2.dd.trans (t.dd.trans d1);have w4:=o3.af.w W;have w3:=sB.w w4;have w2:=o2.af.w w3;obtain ⟨l,q,_⟩:=o.lk hd (t.af.w w2);obtain ⟨l2,q2,_⟩:=o2.lk (t.dd.trans d1) w3;have T:=t.rd K d true d1 w2 D.d6;have dn:gn.nx.dead=false:=by exact aa hg d3
 have hk:5*k+13≤40:=by have:=D.lo;have:=D.hi;lia
 obtain ⟨i1,i2⟩:=p.rd K d (pv (ln g)) dn ⟨w4.lt,w4.fn,w4.ex⟩ (by exact aa hg hn) (λh=>by
  obtain ⟨l3,q3,_⟩:=o3.lk (show (g4.wB g3.b).dead=false from h) W;have z:fT false K (g4.wB g3.b):=o3.Jo h W;exact ⟨⟨⟨z.nt,z.ce,z.rt⟩,_,_,_,_,q3.bk,.head _⟩,_,l3,q3.bk⟩) D.dn (lB hk)
 refine ⟨λh=> ?_,λh=> ?_⟩
 ·have h2:g4.dead=false:=o3.dd.symm.trans h;obtain ⟨l3,q3,_⟩:=o3.lk (show (g4.wB g3.b).dead=false from h2) W;have z:=d9.iw (f:=S4) (st:=Ml) (i1 h2);have St:aq Um [P] (PS K d true (g4.wB {g4.b with bD:=g4.b.bD - 1,switch:=g4.b.switch - 1})) _:=eb▸q3.aE d true;subst hg;exact wk [.ag q.bk,.call (q.aE d true),.call T,.call (q2.cT d true),.eJ z,.call St]
 ·have h2:g4.dead=true:=o3.dd.symm.trans h;obtain ⟨ρ,σ,y,z⟩:=i2 h2;have z:=d9.iw (f:=S4) (st:=Ml) z;subst hg;exact ⟨σ,wk [.ag q.bk,.call (q.aE d true),.call T,.call (q2.cT d true),.eJ z],(y.wB (b:=g3.b)).af o3.af h2⟩
end
noncomputable def Ob:Stmt:=eS SK 1
noncomputable def Qg (i:Nat):ao:=[(112,.val P),(110,.val (.int (i:Int)))]
inductive QW (K:PK)(n0:Nat)(q:PQ)(i:Nat)(b:Int):Prop
 |mk (i' k:Nat) (u:N) (a e:V) (l:Bool) (h:d9 (bj SK [] (aP K n0 q)) (eD Ob) (dK Ob) (Qg i) (aP K n0 q) (.next (Qg i') (aP K n0 q))) (A:aq TF [P,.int (i':Int)] (aP K n0 q) (.ok (gp k u a e l) (aP K n0 q))) (x:(b=1∧k=2∧(u=Tj∨u=VZ∨u=TM))∨(b=0∧(k=2→Bf u=true)))
section
variable {n0:Nat}{q:PQ}{b:Int}
theorem AP (hT:K.T.length<16000000)(h:LL K m b): ∀i,n0+i=m→QW K n0 q i b:=by
 induction h with
 | @cq n u a e l h hu=>
  intro i hi;subst hi;have A:=vJ hT q h;exact ⟨i,2,u,a,e,l,.brk (fs:=[.call A]) [],A,.inl ⟨rfl,rfl,hu⟩⟩
 | @du n k u a e l h h2 h1=>
  intro i hi;subst hi;have A:=vJ hT q h;refine ⟨i,k,u,a,e,l,?_,A,.inr ⟨rfl,h2⟩⟩;by_cases hk:k=1
  ·subst hk;obtain ⟨k',u',a2,e2,l2,h3,h4⟩:=h1 rfl;have A2:=vJ (n:=n0) (m:=i+1) hT q h3;exact .brk (fs:=[.call A,.av (b:=true) rfl,.call A2,.call (Pb (v:=a2) (w:=e2) (l:=l2) h4 5 58 rfl (aP K n0 q))]) []
  ·exact .brk (fs:=[.call A,.av (show decide ((k:Int)=1)=false from Wz λe=>hk (Int.ofNat.inj e))]) []
 | @xp n u a e l a' e' l' b h h' _ ih=>
  intro i hi;subst hi;have A:=vJ hT q h;have A2:=vJ (n:=n0) (m:=i+1) hT q h';obtain ⟨i',k,u',a3,e3,l3,x1,x2,x3⟩:=ih (i+2) rfl;exact ⟨i',k,u',a3,e3,l3,x1.b9 (fs:=[.call A,.call A2]) [],x2,x3⟩
noncomputable def Fy (u:N)(i:Nat)(a e:V)(l:Bool):ao:=[(112,.val P),(110,.val (.int (i:Int))),(474147942260,.val (gp 2 u a e l))]
theorem FZ (i:Nat)(a e:V)(l:Bool)(σ:St):Ov.map (λu=>ie (ej (lv 40) (bj SK (Fy u i a e l) σ) (eS SK 3) (Fy u i a e l) σ []))=Ov.map (λu=>ip (.next (Fy u i a e l) σ) (ej (lv 40) (bj SK (Fy u i a e l) σ) (eS SK 3) (Fy u i a e l) σ [])):=by kernel_rfl
theorem A6 {u:N}(h:Bf u=true)(i:Nat)(a e:V)(l:Bool)(σ:St):eO SK (eS SK 3) (Fy u i a e l) σ (.next (Fy u i a e l) σ):=by
 obtain ⟨v,hv,e⟩:=List.any_eq_true.mp h;obtain rfl:=WI e;exact cD [] (List.map_inj_left.mp (FZ i a _ l σ) u hv)
theorem jo (hT:K.T.length<16000000)(h:LL K n0 b):aq SK [P] (aP K n0 q) (.ok (.int b) (aP K n0 q)):=by
 obtain ⟨i',k,u,a,e,l,x1,x2,x3⟩:=AP (n0:=n0) (q:=q) hT h 0 rfl;have z:=d9.iw (f:=SK) (st:=Ob) x1;rcases x3 with ⟨e1,e2,e3|e3|e3⟩|⟨e1,x3⟩
 ·subst e1 e2 e3;exact wk [.eJ z,.call x2]
 ·subst e1 e2 e3;exact wk [.eJ z,.call x2]
 ·subst e1 e2 e3;exact wk [.eJ z,.call x2]
 ·subst e1;by_cases hk:k=2
  ·subst hk;exact wk [.eJ z,.call x2,.ifs (A6 (x3 rfl) i' a e l (aP K n0 q))]
  ·exact wk [.eJ z,.call x2,.av (show decide ((k:Int)=2)=false from Wz λe=>hk (Int.ofNat.inj e))]
end
noncomputable def Fz (q:PQ)(u:N)(i:Nat):List V:=if (dU u q.bz).isSome=true then q.rows++[.aO UO [.int 1114,pv i,.au [.str u],.str 0]] else q.rows
noncomputable def uI (q:PQ)(u:N)(i:Nat)(b:Int):PQ:={q with rows:=Fz q u i,bz:=q.bz++[.au [.str u,.int b]]}
section
variable {n n' i:Nat}{q q':PQ}{b:Int}{u:N}{l1 l2:Bool}{v:V}{ql:List V}
theorem fD (h:ql.length<1000)(x:V):(ql++[x]).getLast? =some x∧(ql++[x]).dropLast=ql∧(ql++[x]).length<16000000:=
 ⟨List.getLast?_concat ..,List.dropLast_concat ..,by refine aa Wo ?_;show _+1<_;exact WD h (by decide)⟩
theorem Aq {L:List V}{r:V}(h:dU u L=some r):r∈L:=List.mem_of_find?_eq_some h
theorem Dw (hT:K.T.length<16000000)(h1:ag K.T (n:Int)=some (jt 1 u i l1))(h2:ag K.T ((n+1:Nat):Int)=some (jt 5 58 j l2))(hu:u=120∨u=121∨u=S0)(hL: ∀x∈q.bz,tY x)(hl:q.bz.length<16000000)(hr:q.rows.length<16000000)(L:LL K (n+2) b):
  (∀(v:V) (n':Nat) (q':PQ) (ql:List V),ql.length<1000→aq Tn [P] (aP K (n+2) (uI q u i b)) (.ok v (aP K n' {q' with bz:=ql++[.au [.str u,.int b]]}))→aq Su [P,.obj 15] (aP K n q) (.ok (nd 55 u [v] 0 i) (aP K n' {q' with bz:=ql})))∧
  (∀σ,aq Tn [P] (aP K (n+2) (uI q u i b)) (.ba σ)→aq Su [P,.obj 15] (aP K n q) (.ba σ)):=by
 have A:=vJ (n:=n) (m:=1) hT q h2;have LR:=FF (K:=K) (n:=n+2) hL u;cases hf:dU u q.bz with
 |none=>
  have e:uI q u i b={q with bz:=q.bz++[.au [.str u,.int b]]}:=by unfold uI Fz;exact aa hf rfl
  rw [hf] at LR;refine aa e ?_;have LO:=jo (q:=q) hT L;rcases hu with e|e|e<;>subst e
  ·exact ⟨λv n' q' ql hq S=>wk [.ag h1,.call A,.ag h1,.ag h2,.call LR,.call LO,.lt hl,.call S,.lh (fD hq (.au [.str 120,.int b]))],λσ S=>wk [.ag h1,.call A,.ag h1,.ag h2,.call LR,.call LO,.lt hl,.call S]⟩
  ·exact ⟨λv n' q' ql hq S=>wk [.ag h1,.call A,.ag h1,.ag h2,.call LR,.call LO,.lt hl,.call S,.lh (fD hq (.au [.str 121,.int b]))],λσ S=>wk [.ag h1,.call A,.ag h1,.ag h2,.call LR,.call LO,.lt hl,.call S]⟩
  ·exact ⟨λv n' q' ql hq S=>wk [.ag h1,.call A,.call A,.ag h1,.ag h2,.call LR,.call LO,.lt hl,.call S,.lh (fD hq (.au [.str S0,.int b]))],λσ S=>wk [.ag h1,.call A,.call A,.ag h1,.ag h2,.call LR,.call LO,.lt hl,.call S]⟩
 |some r=>
  obtain ⟨a,c,er⟩:=hL r (Aq hf);subst er;have e:uI q u i b={q with rows:=q.rows++[.aO UO [.int 1114,pv i,.au [.str u],.str 0]],bz:=q.bz++[.au [.str u,.int b]]}:=by unfold uI Fz;exact aa hf rfl
  rw [hf] at LR;refine aa e ?_;have LO:=jo (q:={q with rows:=q.rows++[.aO UO [.int 1114,pv i,.au [.str u],.str 0]]}) hT L;rcases hu with e|e|e<;>subst e
  ·exact ⟨λv n' q' ql hq S=>wk [.ag h1,.call A,.ag h1,.ag h2,.call LR,.lt hr,.call LO,.lt hl,.call S,.lh (fD hq (.au [.str 120,.int b]))],λσ S=>wk [.ag h1,.call A,.ag h1,.ag h2,.call LR,.lt hr,.call LO,.lt hl,.call S]⟩
  ·exact ⟨λv n' q' ql hq S=>wk [.ag h1,.call A,.ag h1,.ag h2,.call LR,.lt hr,.call LO,.lt hl,.call S,.lh (fD hq (.au [.str 121,.int b]))],λσ S=>wk [.ag h1,.call A,.ag h1,.ag h2,.call LR,.lt hr,.call LO,.lt hl,.call S]⟩
  ·exact ⟨λv n' q' ql hq S=>wk [.ag h1,.call A,.call A,.ag h1,.ag h2,.call LR,.lt hr,.call LO,.lt hl,.call S,.lh (fD hq (.au [.str S0,.int b]))],λσ S=>wk [.ag h1,.call A,.call A,.ag h1,.ag h2,.call LR,.lt hr,.call LO,.lt hl,.call S]⟩
end
noncomputable def LF:Stmt→Expr
 | .If c _ _ _=>c
 |_=> .List [] default
noncomputable def I0:Expr→Expr
 | .Compare _ _ bs _=>(bs.head?).getD (.List [] default)
 |_=> .List [] default
noncomputable def J5:Stmt:=eS SR 3
noncomputable def FK:Expr:=I0 (LF (HQ J5 3))
noncomputable def rm (dp:Int)(cl:Bool)(r:Nat)(c:Bool)(ks:List V)(ex:ao):ao:=(115,.val sV)::(Vf,.val (.int dp))::(V2,.val (.bool cl))::(7827304,.val (.int (r:Int)))::(1886351212,.val (.bool c))::(Vs,.own ks)::ex
noncomputable def JW (i:Nat)(u:N)(j:Nat):ao:=[(Wh,.val (.int (i:Int))),(1701667182,.val (.str u)),(TP,.val (pv j))]
noncomputable def G.cK (g:G)(u:N)(j:Nat):G:=if (dU u g.b.ak).isSome=true then g.ez 1114 (pv j) [.str u] else g
noncomputable def G.gO (g:G)(u:N)(c:Bool):G:=g.wB {g.b with ak:=g.b.ak++[.au [.str u,.bool c]]}
noncomputable def O3 (dp:Int):Sx:=qG SR (.none,.none) (.int dp)
noncomputable def CF (dp:Int)(cl:Bool)(r:Nat)(c:Bool)(cn n i:Nat)(ks:List V)(g:G)(o:SO):Prop:=eN (O3 dp) (λZ Z=>some (aX (cn:Int))) Wh (dK J5) n i (rm dp cl r c ks []) (aF g) o
section
variable {g1:G}{n k i r:Nat}{u:N}
theorem yU {x:Int}{a:V}{ws:List V}:(g.ez x a ws).b=g.b:=by unfold G.ez;split<;>rfl
theorem zc (u:N):vD (.str u) (gV L)=some (dU u L).isSome:=by
 induction L with
 |nil=>rfl
 |cons x r ih=>
  have e1:gV (x::r)= .str (jc x)::gV r:=List.filterMap_cons ..;refine aa e1 ?_;show Pj (jB 8 (.str (jc x)) (.str u)) (vD (.str u) (gV r))=_;refine aa (show jB 8 (.str (jc x)) (.str u)=some (decide (jc x=u)) by kernel_rfl) (aa ih ?_);by_cases h:jc x=u
  ·exact aa (WA h) (aa (show dU u (x::r)=some x from List.find?_cons_of_pos (beq_iff_eq.mpr h)) rfl)
  ·exact aa (Wz h) (aa (show dU u (x::r)=dU u r from List.find?_cons_of_neg (by rw [beq_eq_false_iff_ne.mpr h];exact bK)) rfl)
theorem Cw (u:N):HS (.str u) (gV L)=some (dU u L).isSome:=by
 unfold HS;exact aa (WE (by rw [rY];rfl)) (zc u)
theorem EK (hL: ∀x∈g.b.ak,ix x)(hl:g.b.ak.length<16000000):CT SR (qC FK) (qD FK) (qE FK) (zr FK) (rm dp cl r c ks (JW i u j)) (aF g) (gV g.b.ak) (rm dp cl r c ks (JW i u j)) (aF g):=
 CT.map (v0:= .obj 2) (fs1:=[]) (k0:=[]) (φ:=bQ (lv 40) (bj SR (rm dp cl r c ks (JW i u j)) (aF g)) (qE FK) 7827314 (qD FK).ifs (qC FK)) hl rfl (λZ h=>h) (λfs=>by kernel_rfl) trivial λx hx=>by
  obtain ⟨n,b,e,_⟩:=hL x hx;subst e;exact ⟨[.ag (l:=[.str n,.bool b]) (i:=0) (v:= .str n) rfl],λZ Z=>rfl,λfs=>⟨[(.ag [.str n,.bool b] 0,.ag [.str n,.bool b] 0)],by kernel_rfl,rfl,trivial⟩⟩
theorem AK (R:aj m g2)(hr:Dr g 3 r0)(hn:ag [.str 120,.str 121,.str S0] (r0:Int)=some (.str u))(o1:Tk g.nx g1 u false 1 u)(o2:Tk g1 g2 58 false 5 58)(hi:i<cn)(hk:ks.length<16000000)(h:CF dp cl r c cn n (i+1) (ks++[.au [.str u,pv (ln g)]]) ((g2.cK u (ln g)).gO u c) o):CF dp cl r c cn (n+1) i ks g o:=by
 have hv:(aX (cn:Int))[i]? =some (.int (i:Int)):=by
  unfold aX;exact aa (List.getElem?_map) (aa (List.getElem?_range (by show i<cn;exact hi)) rfl)
 have ct:=EK (dp:=dp) (cl:=cl) (r:=r) (c:=c) (ks:=ks) (i:=i) (u:=u) (j:=ln g) R.iM R.lb;have iv:z9 .In (.str u) (.list (gV g2.b.ak))=_:=Cw (L:=g2.b.ak) u;unfold G.cK at h;cases hf:(dU u g2.b.ak).isSome with
 |false=>
  rw [hf] at h iv;exact eN.b9 h (fs:=[.call hr.aB,.ag hn,.call o1.aB,.call o2.aB,.cmp ct,.qB iv,.lt R.lb,.lt hk]) rfl hv (JW i u (ln g))
 |true=>
  rw [hf] at h iv;have T:=ez R 1114 (ln g) [.str u];have hb:(g2.ez 1114 (pv (ln g)) [.str u]).b.ak.length<16000000:=(by exact aa yU R.lb);exact eN.b9 h (fs:=[.call hr.aB,.ag hn,.call o1.aB,.call o2.aB,.cmp ct,.qB iv,.call T,.lt hb,.lt hk]) rfl hv (JW i u (ln g))
end
noncomputable def Og:Stmt:=eS SR 5
noncomputable def HE (dp:Int)(cl:Bool)(r:Nat)(c:Bool)(ks:List V)(v:V)(g:G)(o:SO):Prop:=d9 (O3 dp) (eD Og) (dK Og) (rm dp cl r c ks [(Tw,.val v)]) (aF g) o
section
variable {g1:G}{n k i r:Nat}{u:N}{v x:V}
theorem sQ (hk:ks.length<3)(hL:L.length<999)(h:HE dp cl r c ks (nd 55 u [v] 0 j) (g.wB {g.b with ak:=L}) o):HE dp cl r c (ks++[.au [.str u,pv j]]) v (g.wB {g.b with ak:=L++[x]}) o:=by
 have t:decide ((0:Int)<((ks++[V.au [.str u,pv j]]).length:Int))=true:=WA (by exact aa Wo (Int.natCast_pos.mpr (Nat.succ_pos _)));exact d9.b9 h (fs:=[.lt (fD (Nat.lt_trans hk (by decide)) (.au [.str u,pv j])).2.2,.av t,.lh (fD (Nat.lt_trans hk (by decide)) (.au [.str u,pv j])),.lh (fD (Nat.lt_trans hL (by decide)) x)]) [(1701667182,.val (.str u)),(TP,.val (pv j))]
theorem FL:HE dp cl r c [] v g (.next (rm dp cl r c [] [(Tw,.val v)]) (aF g)):= .brk (fs:=[]) []
end
section
variable {n:Nat}{q:PQ}
theorem DX (D:Dp (m+1) q.deep)(h:aq Su [P,.obj 15] (aP K n {q with deep:=q.deep+1,ai:=true}) (.ba σ)):aq Tn [P] (aP K n q) (.ba σ):=
 wk [.call (iN D h)]
end
structure qu (g g2:G)(u:N):Prop where
 g1: ∃g1 r0,Dr g 3 r0∧ag [.str 120,.str 121,.str S0] (r0:Int)=some (.str u)∧Tk g.nx g1 u false 1 u∧Tk g1 g2 58 false 5 58
 hu:u=120∨u=121∨u=S0
 af:aV 0 2 g g2
 dd:g2.dead=g.dead
section
variable {g1:G}{n k i r:Nat}{u:N}{v x:V}
theorem JX (h:r<6)(T:(ao→St→Option (List V))→N→Nat→ao→St→List aD→TS):i5 (lv 40) (O3 dp) T (oo J5) (eD J5) (rm dp cl r c [] []) (aF g) []=(T (λZ Z=>some (aX ((1+r%2:Nat):Int))) Wh (1+r%2) (rm dp cl r c [] []) (aF g) []).pre []:=by
 rcases d6 h with h|h|h|h|h|h<;>subst h<;>kernel_rfl
theorem RE (R:aj (n+1) g): ∃u g2,qu g g2 u:=by
 obtain ⟨r0,hr⟩:=ee R 3;have sn:aV 0 0 g g.nx:=hr.af.dW;have hl:=hr.lt;have hw: ∃u,ag [.str 120,.str 121,.str S0] (r0:Int)=some (.str u)∧bt fy u=some 1∧(u=120∨u=121∨u=S0):=by
  rcases d3 hl with h|h|h<;>subst h
  ·exact ⟨120,rfl,rfl,.inl rfl⟩
  ·exact ⟨121,rfl,rfl,.inr (.inl rfl)⟩
  ·exact ⟨S0,rfl,rfl,.inr (.inr rfl)⟩
 obtain ⟨u,hn,hk,hu⟩:=hw;obtain ⟨g1,o⟩:=cI (R.sg sn:aj n g.nx) u false 1 hk rfl;have s1:=sn.trans o.af;obtain ⟨g2,o2⟩:=cI (R.sg s1:aj n g1) 58 false 5;exact ⟨u,g2,⟨⟨g1,r0,hr,hn,o,o2⟩,hu,(s1.trans o2.af).le,o2.dd.trans o.dd⟩⟩
theorem ek:aV 0 2000 g (g.cK u j):=by unfold G.cK;split;exact kW;exact aV.refl.le
theorem yT:(g.cK u j).b=g.b:=by unfold G.cK;split;exact yU;rfl
theorem aj.gO (R:aj (n+1) g)(hu:u=120∨u=121∨u=S0):aj n (g.gO u c):=by
 obtain ⟨r1,r2,r3,r4,r5,r6,r7,r8,r9⟩:=R;refine ⟨r1,by show rM g+_≤_;lia,?_,r4,r5,r6,r7,r8,λx hx=> ?_⟩
 ·show (g.b.ak++[_]).length+_≤_;refine aa Wo ?_;show _+1+_≤_;exact lB r3
 ·rcases List.mem_append.mp hx with h|h
  ·exact r9 x h
  ·obtain rfl:=Wx h;exact ⟨u,c,rfl,hu⟩
end
section
variable {g1 g6:G}{n k i r:Nat}{b:Bool}{u:N}{v v2 x:V}
theorem xo (hr:Dr g 6 r)(hc:decide ((r:Int)<4)=b)(F:CF dp cl r (decide ((r:Int)<4)) (1+r%2) (1+r%2) 0 [] g.nx (.next (rm dp cl r (decide ((r:Int)<4)) ks []) (aF g4)))
  (S:aq UE [sV,.int dp,.bool cl,.au (zw (cond b 1 2))] (aF g4) (.ok v (aF g5))) (Z:HE dp cl r (decide ((r:Int)<4)) ks v g5 (.next (rm dp cl r (decide ((r:Int)<4)) [] [(Tw,.val v2)]) (aF g6))):aq SR [sV,.int dp,.bool cl] (aF g) (.ok v2 (aF g6)):=by
 have f:=eN.iw (f:=SR) (st:=J5) (k0:=[]) F (JX hr.lt);have z:=d9.iw (f:=SR) (st:=Og) Z;cases b with
 |true=>exact wk [.call hr.aB,.eJ f,.av hc,.call S,.eJ z]
 |false=>exact wk [.call hr.aB,.eJ f,.av hc,.call S,.eJ z]
end
noncomputable def bI (c:Bool):Int:=cond c 1 0
section
variable {g1:G}{n k i:Nat}{ai l:Bool}{u t:N}{d:Int}
theorem Gx:pq (g.tq k u l) d ai=pq g d ai:=by unfold G.tq;split<;>rfl
theorem Tk.pq (o:Tk g g1 t ti k u)(d:Int)(ai:Bool):pq g1 d ai=Mine.pq g d ai:=by
 obtain ⟨l,e,_⟩:=o.st;exact aa e Gx
theorem tN:cR (.au [.str u,.bool c])= .au [.str u,.int (bI c)]:=by cases c<;>kernel_rfl
theorem Qf (hd:g.dead=false)(hL: ∀x∈g.b.ak,ix x)(d:Int)(ai:Bool):pq ((g.cK u j).gO u c) d ai=uI (pq g d ai) u j (bI c):=by
 have e1:(g.b.ak++[V.au [.str u,.bool c]]).map cR=g.b.ak.map cR++[.au [.str u,.int (bI c)]]:=by
  exact aa List.map_append (WJ _ (WJ (·::[]) tN))
 have e2:(dU u (pq g d ai).bz).isSome=(dU u g.b.ak).isSome:=by
  show (dU u (g.b.ak.map cR)).isSome=_;rw [ng hL];exact aa Option.isSome_map rfl
 unfold uI Fz G.cK;refine aa e2 ?_;cases h:(dU u g.b.ak).isSome with
 |false=>
  exact aa (WG Bool.false_ne_true) (aa (WG Bool.false_ne_true) (WJ (PQ.mk (g.told.map bW) d ai g.b.cq g.b.switch) e1))
 |true=>
  refine aa (WE rfl) (aa (WE rfl) (aa (gJ hd) ?_));refine (WJ (PQ.mk _ d ai g.b.cq g.b.switch) e1).trans ?_;exact WJ (λr=>PQ.mk r d ai g.b.cq g.b.switch _) List.map_append
end
inductive MU (K:PK)(g g2:G)(u:N):Prop
 |mk (l1 l2:Bool) (j:Nat) (a1:ag K.T (pos K g:Int)=some (jt 1 u (ln g) l1)) (a2:ag K.T ((pos K g+1:Nat):Int)=some (jt 5 58 j l2)) (p2:pos K g2=pos K g+2) (pp:pos K g=ln g) (q2: ∀d ai,pq g2 d ai=pq g d ai)
section
variable {g1:G}{n k i:Nat}{ai l:Bool}{u t:N}{d:Int}{v:V}
theorem qu.tk (h:qu g g2 u)(hd:g.dead=false)(W2:W K g2):MU K g g2 u:=by
 obtain ⟨⟨g1,r0,hr,hn,o,o2⟩,hu,s,dd⟩:=h;obtain ⟨l1,q1,_⟩:=o.lk hd (o2.af.w W2);obtain ⟨l2,q2,_⟩:=o2.lk (o.dd.trans hd) W2;have a2:=q2.bk;rw [q1.p1] at a2;exact ⟨l1,l2,_,q1.bk,a2,by rw [q2.p1,q1.p1];rfl,q1.pp,λd ai=>(o2.pq d ai).trans (o.pq d ai)⟩
theorem gH:Mv g (g.cK u j):=by unfold G.cK;split;exact (by unfold G.ez;split;exact .refl;exact ⟨rfl,rfl,rfl,rfl,rfl,rfl⟩);exact .refl
theorem Fv (h:qu g g2 u)(hd:g.dead=false)(W2:W K g2)(hL: ∀x∈g.b.ak,ix x)(hl:g.b.ak.length<999)(ht:g.told.length<16000000)(e4:g4=(g2.cK u (ln g)).gO u c)(LLh:LL K (ln g+2) (bI c))(hb:g5.b=g4.b)(r:oE K Tn [P] d true g4 g5 v):oE K Su [P,.obj 15] d true g (g5.wB g.b) (nd 55 u [v] 0 (ln g)):=by
 obtain ⟨l1,l2,j,a1,a2,p2,pp,q2⟩:=h.tk hd W2;have d2:g2.dead=false:=h.dd.trans hd;have b2:g2.b=g.b:=h.af.bb;have eq4:pq g4 d true=uI (pq g d true) u (ln g) (bI c):=by refine aa e4 ?_;rw [Qf d2 (b2▸hL)];exact aa (q2 ..) rfl
 have p4:pos K g4=pos K g+2:=by exact aa e4 (fF p2 gH.pos)
 have hll:(pq g d true).bz.length<999:=by show (g.b.ak.map cR).length<_;exact aa (Wq ..) hl
 have hx:=Dw (q:=pq g d true) W2.lt a1 a2 h.hu (mG hL) (Nat.lt_trans hll (by decide)) (by show (g.told.map bW).length<_;exact aa (Wq ..) ht) (pp▸LLh);have e5:PS K d true g4=aP K (pos K g+2) (uI (pq g d true) u (ln g) (bI c)):=by unfold PS;exact aa p4 (aa eq4 rfl)
 refine ⟨λh5=> ?_,λh5=> ?_⟩
 ·have z:=r.ok h5;rw [e5] at z;have e6:PS K d true g5=aP K (pos K g5) {pq g5 d true with bz:=(g.b.ak.map cR)++[.au [.str u,.int (bI c)]]}:=by
   have:(pq g5 d true).bz=g.b.ak.map cR++[.au [.str u,.int (bI c)]]:=by
    show g5.b.ak.map cR=_;exact aa hb (WJ PQ.bz eq4)
   unfold PS;exact fF this rfl
  rw [e6] at z;have y:=hx.1 _ _ _ _ (by show (g.b.ak.map cR).length<_;exact aa (Wq ..) (Nat.lt_trans hl (by decide))) z;refine y.to ?_;have b4:g4.b.cq=g.b.cq∧g4.b.switch=g.b.switch:=⟨WJ PQ.il eq4,WJ PQ.cy eq4⟩;unfold PS pq;rw [hb,b4.1,b4.2];rfl
 ·obtain ⟨σ,y,z⟩:=r.ex h5;rw [e5] at y;exact ⟨σ,hx.2 σ y,z.wB⟩
end
section
variable {g1:G}{n k i:Nat}{ai l:Bool}{u t:N}{d b:Int}{v:V}{q:PQ}
theorem MU.ll (h:MU K g g2 u)(r:LL K (ln g+2) b):LL K (ln g) b:=by
 obtain ⟨l1,l2,j,a1,a2,p2,pp,q2⟩:=h;rw [pp] at a1 a2;exact .xp a1 a2 r
theorem qu.ln (h:qu g g2 u)(hd:g.dead=false)(W2:W K g2):ln g2=Mine.ln g+2:=by
 obtain ⟨l1,l2,j,a1,a2,p2,pp,q2⟩:=h.tk hd W2;obtain ⟨⟨g1,r0,hr,hn,o,o2⟩,hu,s,dd⟩:=h;exact fF (eR (K:=K) (o2.cl (o.dd.trans hd))) (aa p2 (aa pp rfl))
theorem fU.KI (h:fU L M): ∀x∈L,tY x:=by
 induction h with
 |nil=>exact nofun
 |cons _ ih=>exact λx hx=>(Wv hx).elim (λe=>⟨_,_,e⟩) (ih x)
theorem fU.len (h:fU L M):L.length=M.length:=by
 induction h with
 |nil=>rfl
 |cons _ ih=>exact WJ Nat.succ ih
theorem fU.qb (h:fU L M):fU (L++[.au [.str u,.int b]]) (M++[.au [.str u,.bool c]]):=by
 induction h with
 |nil=>exact .cons .nil
 |cons _ ih=>exact .cons ih
end
inductive CN (K:PK)(d:Int)(c:Bool)(f:N)(a:List V)(g g':G)(v:V):Prop
 |go (ll:LL K (ln g) (bI c)) (r:oE K f a d true g g' v)
 |bL (h:g'.dead=true) (b:Int) (ll:LL K (ln g) b) (x: ∀q:PQ,q.rows=g.told.map bW→q.deep=d→q.ai=true→fU q.bz g.b.ak→ ∃σ,aq f a (aP K (pos K g) q) (.ba σ)∧fM K g' σ)
section
variable {g1:G}{n k i:Nat}{ai l:Bool}{u t:N}{d b:Int}{v:V}{q:PQ}
theorem tT (r:Eo k cl Tn g g' v m)(l:zJ k cl (cond c 1 2) g g')(hd:g.dead=false)(W:W K g')(F:g'.dead=false→fT cl K g')(D:Dp (5*k+9) d):CN K d c Tn [P] g g' v:=by
 cases l with
 |st h=>
  obtain ⟨k',u,a,e,l,h1,h2,h3⟩:=(h K hd W F).ex (by cases c<;>decide);refine .go ?_ (r.rd K d true hd W F D);cases c with
  |true=>
   obtain ⟨e1,hu⟩:=h2 rfl;subst e1;exact .cq h1 hu
  |false=>exact .du h1 (h3 rfl).1 (h3 rfl).2
 |bL h x ll=>
  obtain ⟨b,lb⟩:=ll K hd W;refine .bL (h hd) b lb λq e1 e2 e3 e4=> ?_;obtain ⟨σ,y,z⟩:=(x K {q with deep:=q.deep+1,ai:=true} (d+1) hd W e1 (by show q.deep+1=_;exact aa e2 rfl) rfl e4 D.up).x;exact ⟨σ,DX (e2▸D) y,z⟩
theorem fU.dU (h:fU L M)(u:N):(Mine.dU u L).isSome=(Mine.dU u M).isSome:=by
 induction h with
 |nil=>rfl
 | @cons n b c p g _ ih=>
  by_cases e:n=u
  ·subst e;exact aa (show Mine.dU n (V.au [.str n,.int b]::p)=some (.au [.str n,.int b]) from List.find?_cons_of_pos (beq_self_eq_true n)) (aa (show Mine.dU n (V.au [.str n,.bool c]::g)=some (.au [.str n,.bool c]) from List.find?_cons_of_pos (beq_self_eq_true n)) rfl)
  ·exact aa (show Mine.dU u (V.au [.str n,.int b]::p)=Mine.dU u p from List.find?_cons_of_neg (by show¬(n==u)=true;rw [beq_eq_false_iff_ne.mpr e];exact bK)) (aa (show Mine.dU u (V.au [.str n,.bool c]::g)=Mine.dU u g from List.find?_cons_of_neg (by show¬(n==u)=true;rw [beq_eq_false_iff_ne.mpr e];exact bK)) ih)
theorem oi (h:qu g g2 u)(hd:g.dead=false)(W2:W K g2)(hL: ∀x∈g.b.ak,ix x)(hl:g.b.ak.length<999)(ht:g.told.length<15000000)(e4:g4=(g2.cK u (ln g)).gO u c)(hb:g5.b=g4.b)(x:CN K d c Tn [P] g4 g5 v)(D:Dp m d):CN K d c Su [P,.obj 15] g (g5.wB g.b) (nd 55 u [v] 0 (ln g)):=by
 have el:ln g4=ln g+2:=by exact aa e4 (fF (h.ln hd W2) gH.ln)
 cases x with
 |go ll r=>
  rw [el] at ll;exact .go ((h.tk hd W2).ll ll) (Fv h hd W2 hL hl (Nat.lt_trans ht (by decide)) e4 ll hb r)
 |bL hx b ll x=>
  rw [el] at ll;exact .bL hx b ((h.tk hd W2).ll ll) λq e1 e2 e3 eo=>by
   obtain ⟨l1,l2,j,a1,a2,p2,pp,q2⟩:=h.tk hd W2;have b2:g2.b=g.b:=h.af.bb;have eq4:pq g4 d true=uI (pq g d true) u (ln g) (bI c):=by refine aa e4 ?_;rw [Qf (h.dd.trans hd) (b2▸hL)];exact aa (q2 ..) rfl
   have p4:pos K g4=pos K g+2:=by exact aa e4 (fF p2 gH.pos)
   have er:(uI q u (ln g) b).rows=g4.told.map bW:=by
    have z:Fz q u (ln g)=Fz (pq g d true) u (ln g):=by
     unfold Fz;refine aa (eo.dU u) (aa e1 ?_);show _=if (dU u (g.b.ak.map cR)).isSome=true then _ else _
     rw [ng hL];exact aa Option.isSome_map rfl
    exact z.trans (WJ PQ.rows eq4).symm
   have eL:g4.b.ak=g.b.ak++[.au [.str u,.bool c]]:=by
    refine aa e4 ?_;show (g2.cK u (ln g)).b.ak++_=_;exact aa yT (aa b2 rfl)
   obtain ⟨σ,y,z⟩:=x (uI q u (ln g) b) er e2 e3 (eL▸eo.qb);rw [p4] at y;have e:=eo.len;exact ⟨σ,(Dw (q:=q) W2.lt a1 a2 h.hu eo.KI (lD (Nat.le_of_eq e) hl) (by exact aa e1 (aa (Wq ..) (Nat.lt_trans ht (by decide)))) (pp▸ll)).2 σ y,z.wB⟩
end
section
variable {d:Int}{a:List V}{v:V}
theorem ph (hL: ∀x∈L,ix x):fU (L.map cR) L:=by
 induction L with
 |nil=>exact .nil
 |cons x r ih=>
  obtain ⟨n,b,e,_⟩:=hL x (.head _);subst e;exact aa List.map_cons (aa tN (.cons (ih λx hx=>hL x (.tail _ hx))))
theorem CN.Sf (x:CN K d c f a g g' v)(hL: ∀x∈g.b.ak,ix x):oE K f a d true g g' v:=by
 cases x with
 |go _ r=>exact r
 |bL h b ll x=>exact ⟨λe=>WK (h.symm.trans e) (by decide),λZ=>x (pq g d true) rfl rfl rfl (ph hL)⟩
end
section
variable {d:Int}{u:N}{v:V}{h:Nat}
theorem Hk (x:CN K (d+1) c Su [P,.obj 15] g g' (nd 55 u [v] 0 j))(D:Dp (m+1) d)(t:aT h (nd 55 u [v] 0 j))(hh:h≤150):CN K d c Tn [P] g g' (nd 55 u [v] 0 j):=by
 cases x with
 |go ll r=>
  have B:=tg (ai:=true) D r t hh;refine .go ll ⟨λe=>wk [.call (B.ok e),.call (Qc (kk:=55) (by decide) u [v] j (PS K d true g'))],λe=> ?_⟩;obtain ⟨σ,y,z⟩:=B.ex e;exact ⟨σ,wk [.call y],z⟩
 |bL hx b ll x=>
  refine .bL hx b ll λq e1 e2 e3 e4=> ?_;obtain ⟨σ,y,z⟩:=x {q with deep:=q.deep+1,ai:=true} e1 (by show q.deep+1=_;exact aa e2 rfl) rfl e4;exact ⟨σ,DX (e2▸D) y,z⟩
end
section
variable {g1:G}{n k m2 i r:Nat}{u t:N}{v x:V}
theorem ny (h:qu g g2 u)(R:aj m g2)(hi:i<cn)(hk:ks.length<16000000)(z:CF dp cl r c cn n (i+1) (ks++[.au [.str u,pv (ln g)]]) ((g2.cK u (ln g)).gO u c) o):CF dp cl r c cn (n+1) i ks g o:=by
 obtain ⟨⟨g1,r0,hr,hn,o,o2⟩,hu,s,dd⟩:=h;exact AK R hr hn o o2 hi hk z
theorem sJ:CF dp cl r c cn 0 cn ks g (.next (rm dp cl r c ks []) (aF g)):= .done rfl (by unfold aX;exact aa (Wq ..) (aa List.length_range rfl))
theorem Ft (h:qu g g2 u)(R:aj m g2):CF dp cl r c 1 1 0 [] g (.next (rm dp cl r c [.au [.str u,pv (ln g)]] []) (aF ((g2.cK u (ln g)).gO u c))):=ny h R (by decide) (by decide) sJ
theorem Fu (h:qu g g2 u)(R:aj m g2)(e:g3=(g2.cK u (ln g)).gO u c)(h':qu g3 g4 t)(R':aj m2 g4):CF dp cl r c 2 2 0 [] g (.next (rm dp cl r c [.au [.str u,pv (ln g)],.au [.str t,pv (ln g3)]] []) (aF ((g4.cK t (ln g3)).gO t c))):=by
 subst e;exact ny h R (by decide) (by decide) (ny h' R' (by decide) (by decide:1<16000000) sJ)
end
section
variable {b0:GB}{n k i j2 r:Nat}{u t:N}{v x y:V}
theorem xC (hb:g5.b={b0 with ak:=b0.ak++[x]})(hl:b0.ak.length<999):HE dp cl r c [.au [.str u,pv j]] v g5 (.next (rm dp cl r c [] [(Tw,.val (nd 55 u [v] 0 j))]) (aF (g5.wB b0))):=by
 have e:g5=g5.wB {b0 with ak:=b0.ak++[x]}:=by exact fF hb rfl
 have z:=sQ (g:=g5.wB b0) (ks:=[]) (L:=b0.ak) (x:=x) (j:=j) (u:=u) (v:=v) (dp:=dp) (cl:=cl) (r:=r) (c:=c) (by decide) hl FL;exact aa e z
theorem FP (hb:g5.b={b0 with ak:=(b0.ak++[x])++[y]})(hl:b0.ak.length<998):HE dp cl r c [.au [.str u,pv j],.au [.str t,pv j2]] v g5 (.next (rm dp cl r c [] [(Tw,.val (nd 55 u [nd 55 t [v] 0 j2] 0 j))]) (aF (g5.wB b0))):=by
 have e:g5=g5.wB {b0 with ak:=(b0.ak++[x])++[y]}:=by exact fF hb rfl
 have z1:=xC (g5:=g5.wB {b0 with ak:=b0.ak++[x]}) (b0:=b0) (x:=x) (v:=nd 55 t [v] 0 j2) (u:=u) (j:=j) (dp:=dp) (cl:=cl) (r:=r) (c:=c) rfl (Nat.lt_trans hl (by decide));have z:=sQ (g:=g5.wB b0) (ks:=[.au [.str u,pv j]]) (L:=b0.ak++[x]) (x:=y) (j:=j2) (u:=t) (v:=v) (show 1<3 by decide) (by refine aa Wo ?_;show _+1<_;exact WD hl (by decide)) z1;exact aa e z
end
inductive QV (m:Nat)(c:Bool)(g:G):Prop
 |mk (u:N) (g2:G) (h:qu g g2 u) (s:aV 0 2002 g (g2.cK u (ln g))) (R2:aj (m+1) g2) (R:aj m ((g2.cK u (ln g)).gO u c))
section
variable {g1:G}{n k i a r:Nat}{u t:N}{d:Int}{v:V}
theorem Qe (R:aj (m+2) g)(c:Bool):QV m c g:=by
 obtain ⟨u,g2,h⟩:=RE R;exact ⟨u,g2,h,h.af.trans ek,R.sg h.af,(R.sg (h.af.trans ek):aj (m+1) _).gO h.hu⟩
theorem qu.fst (h:qu g g2 u)(s:aV a b g2 g'):ir g g' false 1 u:=by
 obtain ⟨⟨g1,r0,hr,hn,o,o2⟩,hu,_⟩:=h;exact (o.fst (o2.af.trans s) rfl (by rcases hu with h|h|h<;>subst h<;>rfl)).nx
theorem DH (b:Bool):DG (cond b 1 2)=60:=by cases b<;>rfl
theorem AL (hu:u=120∨u=121∨u=S0):lR (qc true) 1 u=true:=by rcases hu with h|h|h<;>subst h<;>rfl
theorem qu.bb (h:qu g g2 u):(g2.cK u j).b=g.b:=yT.trans h.af.bb
theorem qL:(g.gO u c).b={g.b with ak:=g.b.ak++[.au [.str u,.bool c]]}:=rfl
theorem D7 {x:GB}(f:fT cl K (g.wB x)):fT cl K g:=⟨f.nt,f.ce,f.rt⟩
theorem sL (c:Bool)(R:aj n g)(hon:on=0)(hu:u=120∨u=121∨u=S0)(e:aq SR [sV,.int dp,.bool cl] (aF g) (.ok (nd 55 u [v] 0 j) (aF g')))(s:aV 0 3060 g g')(t:aT (8+3*(k+1)) (nd 55 u [v] 0 j))(f:ir g g' false 1 u)
  (U: ∀K d,g.dead=false→W K g'→(g'.dead=false→fT cl K g')→Dp (5*(k+1)+8) d→CN K d c Su [P,.obj 15] g.nx g' (nd 55 u [v] 0 j)):fj (k+1) cl on 3060 SR [sV,.int dp,.bool cl] g:=
 ⟨_,g',e,⟨s,t,.no (by decide),λK hd W=>f.fH hd W (AL hu),λK d hd W F D=>let z:=(U K d hd W F D).Sf R.iM;⟨z.ok,z.ex⟩⟩,λK hd W F=>⟨λh=>WK hon h⟩⟩
theorem aT.Sm (t:aT (8+3*k+1+1) v):aT (8+3*(k+1)) v:=t.le (by simp+arith)
theorem Fw (SP:fm k)(h1:dp+2≤k)(h0:0≤dp)(R:aj (8*k+36) g)(hon:on=0):fj (k+1) cl on 3060 SR [sV,.int dp,.bool cl] g:=by
 obtain ⟨r,hr⟩:=ee R 6;have c0: ∀b:Bool,cond b 1 2≠0:=by decide
 have c2: ∀b:Bool,cond b 1 2≤2:=by decide
 have ht:g.told.length<15000000:=by have:=R.u;unfold rM at this;exact lB this
 have hl:g.b.ak.length<900:=by have:=R.bz;lia
 have sn:aV 0 0 g g.nx:=hr.af.dW;obtain ⟨u,g2,h,s,R2,R4⟩:=Qe (R.sg sn:aj (8*k+33+2) g.nx) (decide ((r:Int)<4));by_cases h2:r%2=0
 ·obtain ⟨g4,e4⟩: ∃g4,g4=(g2.cK u (ln g.nx)).gO u (decide ((r:Int)<4)):=⟨_,rfl⟩;rw [←e4] at R4;obtain ⟨v,g5,e,sr,lb⟩:=sub (cl:=cl) (on:=cond (decide ((r:Int)<4)) 1 2) SP h1 (zB h0) (λZ=>h0) (c2 _) (R4.aw:aj (8*k+31) g4);have eb:g5.b={g.b with ak:=g.b.ak++[.au [.str u,.bool (decide ((r:Int)<4))]]}:=by
   rw [sr.af.bb,e4,qL,h.bb];rfl
  have s5:aV 0 60 (g2.cK u (ln g.nx)) (g5.wB g.b):=by
   have z:=kZ (e4▸DH _▸sr.af:aV 0 60 ((g2.cK u (ln g.nx)).wB _) g5);rw [h.bb] at z;exact z
  have f:=(h.fst (ek.trans s5)).nx;refine sL (decide ((r:Int)<4)) R hon h.hu (xo hr rfl (by rw [h2];exact e4▸Ft h R2) e (xC eb (Nat.lt_trans hl (by decide)))) ((hr.af.trans (s.trans s5)).dW) (.up (.nd ⟨sr.aI,trivial⟩)) f λK d hd W F D=> ?_;have W2:=(ek (g:=g2) (u:=u) (j:=ln g.nx)).w (s5.w W);have W5:Mine.W K g5:=⟨W.lt,W.fn,W.ex⟩;have d4:g4.dead=false:=by rw [e4];exact (gH (g:=g2) (u:=u) (j:=ln g.nx)).dd.trans (h.dd.trans hd)
  exact oi h hd W2 R.iM (show g.b.ak.length<999 by exact Nat.lt_trans hl (by decide)) ht e4 sr.af.bb (tT sr lb d4 W5 (λh=>D7 (F h)) D.dn) D
 ·have h3:r%2=1:=by lia
  obtain ⟨g3,e3⟩: ∃g3,g3=(g2.cK u (ln g.nx)).gO u (decide ((r:Int)<4)):=⟨_,rfl⟩;rw [←e3] at R4;obtain ⟨t,g4,h',s',R5,R6⟩:=Qe (R4:aj (8*k+31+2) g3) (decide ((r:Int)<4));obtain ⟨gx,ex⟩: ∃gx,gx=(g4.cK t (ln g3)).gO t (decide ((r:Int)<4)):=⟨_,rfl⟩;rw [←ex] at R6;obtain ⟨v,g5,e,sr,lb⟩:=sub (cl:=cl) (on:=cond (decide ((r:Int)<4)) 1 2) SP h1 (zB h0) (λZ=>h0) (c2 _) (R6:aj (8*k+31) gx);have b3:g3.b={g.b with ak:=g.b.ak++[.au [.str u,.bool (decide ((r:Int)<4))]]}:=by rw [e3,qL,h.bb];rfl
  have eb1:g5.b={g3.b with ak:=g3.b.ak++[.au [.str t,.bool (decide ((r:Int)<4))]]}:=by rw [sr.af.bb,ex,qL,h'.bb]
  have eb:=eb1;rw [b3] at eb;have s5:aV 0 60 (g4.cK t (ln g3)) (g5.wB g3.b):=by
   have z:=kZ (ex▸DH _▸sr.af:aV 0 60 ((g4.cK t (ln g3)).wB _) g5);rw [h'.bb] at z;exact z
  have s7: ∀g9,aV 0 2062 g3 g9→aV 0 2062 (g2.cK u (ln g.nx)) (g9.wB g.b):=λg9 s=>by
   rw [e3] at s;have z:=kZ (B:={(g2.cK u (ln g.nx)).b with ak:=(g2.cK u (ln g.nx)).b.ak++[.au [.str u,.bool (decide ((r:Int)<4))]]}) s;rw [h.bb] at z;exact z
  have s7:aV 0 2062 (g2.cK u (ln g.nx)) (g5.wB g.b):=s7 (g5.wB g3.b) (s'.trans s5);have f:=(h.fst (ek.trans s7)).nx;have pr:zx r=3050:=by cases r with|zero=>exact nomatch h3|succ r=>rfl
  have t1:aT (8+3*k+1) (nd 55 t [v] 0 (ln g3)):= .nd ⟨sr.aI,trivial⟩;refine sL (decide ((r:Int)<4)) R hon h.hu (xo hr rfl (by rw [h3];exact ex▸Fu h R2 e3 h' R5) e (FP eb (Nat.lt_trans hl (by decide)))) ((hr.af.trans (s.trans s7)).dW (by rw [pr];decide)) (.Sm (.nd ⟨t1,trivial⟩)) f λK d hd W F D=> ?_;have W2:=(ek (g:=g2) (u:=u) (j:=ln g.nx)).w (s7.w W);have W5:Mine.W K g5:=⟨W.lt,W.fn,W.ex⟩;have W4:=(ek (g:=g4) (u:=t) (j:=ln g3)).w (s5.w (⟨W.lt,W.fn,W.ex⟩:Mine.W K (g5.wB g3.b)));have d3:g3.dead=false:=by rw [e3];exact (gH (g:=g2) (u:=u) (j:=ln g.nx)).dd.trans (h.dd.trans hd)
  have d5:gx.dead=false:=by rw [ex];exact (gH (g:=g4) (u:=t) (j:=ln g3)).dd.trans (h'.dd.trans d3)
  have x2:=oi h' d3 W4 R4.iM (by have:=R4.bz;exact lB this) (by have:=R4.u;unfold rM at this;exact lB this) ex sr.af.bb (tT sr lb d5 W5 (λh=>D7 (F h)) (D.le (lS hon):Dp (5*k+9+1) d).up) (D.le (Nat.succ_pos _):Dp (0+1) d).up;exact oi (g5:=g5.wB g3.b) h hd W2 R.iM (show g.b.ak.length<999 by exact Nat.lt_trans hl (by decide)) ht e3 rfl (Hk x2 (D.le (Nat.succ_pos _):Dp (0+1) d) t1 (by have:=D.lo;have:=D.hi;lia)) D
end
structure Tq where
 k:Nat
 u:N
 i:Nat
 e:V
 l:Bool
noncomputable def Tq.v (t:Tq):V:=gp t.k t.u (pv t.i) t.e t.l
noncomputable def oS (nm:Int)(a:V)(ws:List V):V:= .aO UO [.int nm,a,.au ws,.str 0]
structure vI (K:PK)(n:Nat)(R:List V)(d:Int)(ts:List Tq):Prop where
 hl:K.T.length<16000000
 tk: ∀j t,ts[j]? =some t→ag K.T ((n+j:Nat):Int)=some t.v
 D:Dp 8 d
 rows:R.length<16000000
noncomputable def fp (i:Int):Nat→Int
 |0=>i
 |n+1=>fp i n+1
noncomputable def mq (R:List V)(d il cy:Int)(bz:List V)(dd:Nat)(ai:Bool)(i j:Nat):PQ:=⟨R,fp d dd,ai,fp il i,fp cy j,bz⟩
noncomputable def uF (t:Tq)(k:Nat)(u:N):Bool:=Nat.beq t.k k&&Nat.beq t.u u
section
variable {n n' i:Nat}{q:PQ}{k:Nat}{u:N}{e:V}{l l2:Bool}{pk:Int}{bz:List V}{d il cy:Int}{t t2 t3:Tq}
theorem Ma (hr:q.rows.length<16000000)(nm:Int)(hi:nm.natAbs<2^60)(a:V)(ws:List V):aq Sw [P,.int nm,a,.au ws] (aP K n q) (.ba (aP K n {q with rows:=q.rows++[oS nm a ws]})):=
 j6 (n:=40) (fs:=[.lt hr]) (i:=nm) (ρ0:=[(SN,.val P),(SM,.val (.int nm)),(TP,.val a),(VS,.val (.au ws))]) (ρ1:=[(SN,.val P),(SM,.val (.int nm)),(TP,.val a),(VS,.val (.au ws))]) (by kernel_rfl) (by kernel_rfl) (by kernel_rfl) hi
theorem Kd (h:ag K.T (n:Int)=some (gp 1 u a e l)):aq SG [.aO SD [],P] (aP K n q) (.ok (.aO Ve [.int 8,.str u,.list [],.int 0,a,.int 0]) (aP K (n+1) q)):=wk [.ag h,.ag h,.ag h,.ag h,.ag h]
theorem Jj (h:ag K.T (n:Int)=some (gp k u a e l))(h1:k≠1)(h5:lR [(5,123),(5,91)] k u=true)(hr:q.rows.length<16000000):aq SG [.aO SD [],P] (aP K n q) (.ba (aP K n {q with rows:=q.rows++[oS 1003 a []]})):=by
 have N:Nt K n [(5,123),(5,91)]:=⟨_,_,_,_,_,h,h5⟩;exact wk [.ag h,.call (N.no (q:=q) Sv 123),.call (N.no (q:=q) Sv 91),.ag h,.av (WJ not (Wz λe:(k:Int)=1=>h1 (Int.ofNat.inj e))),.ag h,.call (Ma (K:=K) (n:=n) hr 1003 (by decide) a [])]
theorem KD (D:Dp (m+1) q.deep){σ:St}(h:aq SG [.aO SD [],P] (aP K n {q with deep:=q.deep+1}) (.ba σ))(hk:pk∈[(1:Int),2,10]):aq Sr [P,.int pk] (aP K n q) (.ba σ):=by
 have e:[(1:Int),2,10].map (λk=>lhs (dq (lv 40) Sr [P,.int k] (aP K n q) [.av (b:=false) rfl,.av D.t1,.av (b:=false) rfl,.call h]))=[(1:Int),2,10].map (λk=>rhs (.ba σ) (dq (lv 40) Sr [P,.int k] (aP K n q) [.av (b:=false) rfl,.av D.t1,.av (b:=false) rfl,.call h])):=by kernel_rfl
 exact iV _ (ni D.lo D.lt) (List.map_inj_left.mp e pk hk)
theorem Qv (b:Bool):cond b (10:Int) 2∈[(1:Int),2,10]:=by cases b<;>decide
theorem ib (h:uF t k u=true):t.v=gp k u (pv t.i) t.e t.l:=by
 obtain ⟨h1,h2⟩:=Ws h;show gp t.k t.u _ _ _=_;exact aa (WI h1) (aa (WI h2) rfl)
theorem DM (D:Dp (m+1) q.deep)(h:ag K.T (n:Int)=some t.v)(h1:Nat.beq t.k 1=true)(b:Bool):aq Sr [P,.int (cond b 10 2)] (aP K n q) (.ok (nd 8 t.u [] 0 t.i) (aP K (n+1) q)):=
 tm (h:=1) D (Kd (e:=t.e) (l:=t.l) (by refine aa h ?_;show some (gp t.k _ _ _ _)=_;exact aa (WI h1) rfl)) (.nd (h:=0) trivial) (by decide) (Qv b)
theorem Kt (D:Dp (m+1) q.deep)(h:ag K.T (n:Int)=some t.v)(h5:lR [(1,1),(5,123),(5,91)] t.k t.u=true)(hr:q.rows.length<16000000)(b:Bool):aq Sr [P,.int (cond b 10 2)] (aP K n q) (.ba (aP K n {q with deep:=q.deep+1,rows:=q.rows++[oS 1003 (pv t.i) []]})):=by
 obtain ⟨h1,h5⟩:=Ws (show (!(Nat.beq 1 t.k&&true)&&lR [(5,123),(5,91)] t.k t.u)=true from h5);exact KD D (Jj (q:={q with deep:=q.deep+1}) h (λe=>by rw [e] at h1;exact bK h1) h5 hr) (Qv b)
theorem Kr (D:Dp (m+1) q.deep)(h:ag K.T (n:Int)=some t.v)(h2:ag K.T ((n+1:Nat):Int)=some t2.v)(e:uF t 5 123=true)(e2:uF t2 5 125=true):aq Sr [P,.int 4] (aP K n q) (.ok (nd 59 0 [] 0 t.i) (aP K (n+2) q)):=by
 rw [ib e] at h;rw [ib e2] at h2;exact th (q':=q) (h:=1) (ai:=true) D (wk [.ag h,.ag h,.ag h,.ag h2,.ag h2,.ag h2]) (.nd (h:=0) trivial) (by decide)
theorem Kw (D:Dp (m+1) q.deep)(h:ag K.T (n:Int)=some t.v)(h2:ag K.T ((n+1:Nat):Int)=some t2.v)(e:uF t 5 123=true)(e2:uF t2 5 125=true):aq Sr [P,.int 2] (aP K n q) (.ok (nd 34 0 [] 0 t.i) (aP K (n+2) q)):=by
 rw [ib e] at h;rw [ib e2] at h2;exact tm (h:=1) D (wk [.ag h,.ag h,.ag h,.ag h2,.ag h2,.ag h2]) (.nd (h:=0) trivial) (by decide) (.tail _ (.head _))
theorem Gs (D:Dp (m+1) q.deep)(h:ag K.T (n:Int)=some t.v)(e:uF t 5 59=true)(ha:q.ai=true):aq Sr [P,.int 3] (aP K n q) (.ok (nd 60 0 [] 0 t.i) (aP K (n+1) q)):=by
 rw [ib e] at h;refine aq.to (nM (q':=q) (h:=1) (ai:=true) D (wk [.ag h,.ag h,.ag h,.ag h]) (.nd (h:=0) trivial) (by decide)) rfl
theorem Kq (D:Dp (m+2) q.deep)(h:ag K.T (n:Int)=some t.v)(h2:ag K.T ((n+1:Nat):Int)=some t2.v)(h3:ag K.T ((n+2:Nat):Int)=some t3.v)(e:uF t 5 91=true)(e2:Nat.beq t2.k 1=true)(e3:uF t3 5 93=true):
  aq Sr [P,.int 10] (aP K n q) (.ok (nd 35 0 [nd 36 0 [nd 8 t2.u [] 0 t2.i,.none] 0 t2.i] 0 t.i) (aP K (n+3) q)):=by
 have p:=DM (q:={q with deep:=q.deep+1,ai:=true}) D.up h2 e2 true;rw [ib e] at h;rw [ib e3] at h3;rw [show t2.v=gp 1 t2.u (pv t2.i) t2.e t2.l by show gp t2.k _ _ _ _=_;rw [WI e2]] at h2;exact tm (h:=3) D (wk [.ag h,.ag h,.ag h,.ag h,.ag h2,.ag h2,.ag h2,.ag h2,.call p,.ag h3,.ag h3,.ag h3,.ag h3]) (.nd ⟨.nd ⟨.nd (h:=0) trivial,.none,trivial⟩,trivial⟩) (by decide) (.tail _ (.tail _ (.head _)))
end
noncomputable def zd (w:N):Nat:=(bt fy w).getD 5
noncomputable def ze (w:N):N:=LI (zd w) w
noncomputable def oy:N:=47
noncomputable def jQ:List N→Nat→Bool→Bool→List Tq
 |[],_,_,_=>[]
 |w::r,n,l,p=>if w=0 then jQ r n false p else if w=oy then jQ r n true p else ⟨zd w,ze w,n,.int ((3*n+2:Nat):Int),l||p⟩::jQ r (n+1) false false
noncomputable def oz:List N→Nat→V→V
 |[],_,a=>a
 |w::r,n,a=>if w=0 then oz r n (pv n) else if w=oy then oz r n a else oz r (n+1) (pv n)
noncomputable def Jf (i:Nat):Tq:=⟨0,0,i,pv i,false⟩
structure jD where
 ws:List N
 nm:Nat
 args:List N
 cs:List Nat
 me:Nat
 dd:Nat
 ai:Bool
 il:Nat
 cy:Nat
noncomputable def oa (ws:List N)(n:Nat)(p:Bool):List Tq:=(jQ ws n false p).take 10++[Jf (n+(jQ ws n false p).length)]
noncomputable def yi (ts:List Tq)(j:Nat)(f: ∀t,ts[j]? =some t→List aD):List aD:=match h:ts[j]? with
 |some t=>f t h
 |none=>[]
noncomputable def zv (b:Bool)(f:b=true→List aD):List aD:=match b,f with
 |true,f=>f rfl
 |false,_=>[]
section
variable {n:Nat}{d:Int}{t:Tq}
theorem vI.ah (X:vI K n R d ts)(h:ts[j]? =some t):decide ((K.T.length:Int)≤((n+j:Nat):Int))=false:=Wz λh2=>by
 have h:=X.tk j t h;unfold ag at h;rw [WE (Int.natCast_nonneg _)] at h;refine ey h λh3 h4=> ?_;have:=(List.getElem?_eq_some_iff.mp h4).1;lia
theorem Dp.fp (D:Dp 8 d)(h:j<3):Dp (4+1) (Mine.fp d j):=by
 have:=D.lo;have:=D.hi;have e:Mine.fp d j=d+j:=by
  clear h
  induction j with
  |zero=>exact (Int.add_zero d).symm
  |succ j ih=>show Mine.fp d j+1=_;refine aa ih ?_;simp+arith
 exact ⟨by lia,by lia⟩
end
section
variable {n:Nat}{d:Int}(X:vI K n R d ts)(il cy:Int)(bz:List V)(E:List aD)
noncomputable def OJ (j:Nat)(y:Nat):List aD:=
 have D:=X.D.fp (Nat.mod_lt y (by decide:3>0))
 yi ts j λt h=>
  if y / 24<2 then zv (Nat.beq t.k 1) (λh1=>[.call (DM (q:=mq R d il cy bz (y%3) (Nat.beq (y / 3%2) 1) (y / 6%2) (y / 12%2)) D (X.tk j t h) h1 (Nat.beq (y / 24) 1))])++zv (lR [(1,1),(5,123),(5,91)] t.k t.u) λh5=>[.call (Kt (q:=mq R d il cy bz (y%3) (Nat.beq (y / 3%2) 1) (y / 6%2) (y / 12%2)) D (X.tk j t h) h5 X.rows (Nat.beq (y / 24) 1))]
  else if y / 24=4 then zv (uF t 5 59) λh1=>zv (Nat.beq (y / 3%2) 1) λh2=>[.call (Gs (q:=mq R d il cy bz (y%3) (Nat.beq (y / 3%2) 1) (y / 6%2) (y / 12%2)) D (X.tk j t h) h1 h2)]
  else yi ts (j+1) λt2 h2=>if y / 24=5 then yi ts (j+2) λt3 h3=>zv (uF t 5 91) λe1=>zv (Nat.beq t2.k 1) λe2=>zv (uF t3 5 93) λe3=>[.call (Kq (q:=mq R d il cy bz (y%3) (Nat.beq (y / 3%2) 1) (y / 6%2) (y / 12%2)) D (X.tk j t h) (X.tk (j+1) t2 h2) (X.tk (j+2) t3 h3) e1 e2 e3)]
   else zv (uF t 5 123) λe1=>zv (uF t2 5 125) λe2=>if y / 24=2 then [.call (Kr (q:=mq R d il cy bz (y%3) (Nat.beq (y / 3%2) 1) (y / 6%2) (y / 12%2)) D (X.tk j t h) (X.tk (j+1) t2 h2) e1 e2)]
    else [.call (Kw (q:=mq R d il cy bz (y%3) (Nat.beq (y / 3%2) 1) (y / 6%2) (y / 12%2)) D (X.tk j t h) (X.tk (j+1) t2 h2) e1 e2)]
noncomputable def NH (c:Nat):List aD:=
 if c<10 then yi ts c λt h=>[.ag (X.tk c t h)]
 else if c<20 then yi ts (c - 10) λt h=>[.lt X.hl,.av (X.ah h),.ag (X.tk (c - 10) t h)]
 else if c<30 then (E.drop (c - 20)).take 1
 else OJ X il cy bz ((c - 30)%10) ((c - 30) / 10)
noncomputable def lF (l:List Nat):List aD:=(l.map (NH X il cy bz E)).flatten
end
noncomputable def ND (n:Nat):List aD:=[.ag (l:=[nd 8 97 [] 0 (n+3),.none,.none]) (i:=2) (v:= .none) rfl,.ag (l:=[nd 8 97 [] 0 (n+3),.none,.none]) (i:=0) (v:=nd 8 97 [] 0 (n+3)) rfl,.ag (l:=[nd 36 0 [nd 8 97 [] 0 (n+2),.none] 0 (n+2)]) (i:=0) (v:=nd 36 0 [nd 8 97 [] 0 (n+2),.none] 0 (n+2)) rfl,.ag (l:=[nd 8 97 [] 0 (n+2),.none]) (i:=0) (v:=nd 8 97 [] 0 (n+2)) rfl]
noncomputable def Qb (i:Int)(c:Nat):Int:=if c=2 then i+1 - 1 else fp i c
noncomputable def jD.q (e:jD)(R:List V)(d il cy:Int)(bz:List V):PQ:=⟨R,fp d e.dd,e.ai,Qb il e.il,fp cy e.cy,bz⟩
noncomputable def jD.r (e:jD)(K:PK)(n:Nat)(R:List V)(d il cy:Int)(bz:List V):qw:= .ba (aP K (n+e.me) ⟨R++[oS e.nm (pv (n+e.me)) (e.args.map .str)],fp d e.dd,e.ai,Qb il e.il,fp cy e.cy,bz⟩)
noncomputable def jD.fs (e:jD){K:PK}{n:Nat}{R:List V}{d:Int}{p:Bool}(X:vI K n R d (oa e.ws n p))(il cy:Int)(bz:List V):List aD:=
 lF X il cy bz ((zv (Nat.ble e.nm 10000) λh=>[.call (Ma (K:=K) (n:=n+e.me) (q:=e.q R d il cy bz) X.rows e.nm (by have:=Nat.le_of_ble_eq_true h;exact WD this (by decide)) (pv (n+e.me)) (e.args.map .str))])++ND n) e.cs
noncomputable def D4:List jD:=[
 ⟨[97,98],1005,[59],[0,11,0,0,0,0,0,60,1,1,1,20],1,0,true,0,0⟩,
 ⟨[V9,47,97],1142,[],[0,0,1,1,20],1,0,true,0,0⟩,
 ⟨[TJ,40,97,41,123,98],1130,[],[0,0,1,1,62,3,3,4,4,5,5,5,5,5,20],5,0,true,0,1⟩,
 ⟨[S0,61],1005,[59],[0,11,11,0,0,0,0,0,60,1,1,1,20],1,0,true,0,0⟩,
 ⟨[VG,123,125,97],1005,[TB],[0,0,541,3,3,3,20],3,0,true,0,0⟩,
 ⟨[VG,123,125,UH,40,41],1003,[],[0,0,541,3,3,4,4,5,5,5,5,5,20],5,0,true,0,0⟩,
 ⟨[6711591],1003,[],[0,0,0,0,0,0,60],0,1,true,0,0⟩,
 ⟨[TM,40,97,V4],9002,[SJ],[0,0,1,1,1,2,2,2,2,2,2,32,3,3,20],3,0,true,0,0⟩,
 ⟨[125],1128,[],[0,0,0,0,0,20],0,0,true,0,0⟩,
 ⟨[VF],1128,[],[0,0,0,0,0,0,20],0,0,true,0,0⟩,
 ⟨[Wl,97],1005,[40],[0,0,1,1,20],1,0,true,0,0⟩,
 ⟨[VZ,59,97],1005,[Tj],[0,0,1081,2,2,20],2,0,true,2,0⟩,
 ⟨[TM,40,S0,97,47,33],1005,[59],[0,0,1,1,1,2,2,2,13,2,2,2,2,273,4,4,4,4,4,4,4,21,22,4,4,20],4,0,true,0,0⟩,
 ⟨[UH],1003,[],[0,0,0,0,0,0,60],0,1,true,0,0⟩,
 ⟨[Tj,40,97,98],1005,[41],[0,0,1,1,62,3,3,20],3,0,true,0,0⟩,
 ⟨[TM,40,97,59,98,59,99,59],1005,[41],[0,0,1,1,1,2,2,2,2,2,2,32,3,3,3,3,4,64,5,5,6,66,7,7,20],7,0,true,0,0⟩,
 ⟨[VG,123,125,UH,40,123],9002,[VU],[0,0,541,3,3,4,4,5,5,5,20],5,0,true,0,0⟩,
 ⟨[Wi],1128,[],[0,0,0,0,0,0,0,20],0,0,true,0,0⟩,
 ⟨[VG,123,125,UH,40,97,58],9002,[Vk],[0,0,541,3,3,4,4,5,5,5,5,5,6,6,20],6,0,true,0,0⟩,
 ⟨[TM,VY],9002,[2147415794256071257958],[0,0,1,1,20],1,0,true,0,0⟩,
 ⟨[TM,40,123,125,28265],9002,[SJ],[0,0,1,1,1,2,2,2,2,2,2,752,4,4,4,20],4,0,true,0,0⟩,
 ⟨[Ui,61],1003,[],[0,0,301],1,1,true,0,0⟩,
 ⟨[TJ,40,97,41,98],1005,[123],[0,0,1,1,62,3,3,4,4,20],4,0,true,0,0⟩,
 ⟨[VW,97,98],1005,[59],[0,0,1,1,1,2,2,2,20],2,0,true,0,0⟩,
 ⟨[UZ,28265],1005,[59],[0,0,1,1,1,1,20],1,0,true,0,0⟩,
 ⟨[S0,91,97,93,33],1005,[59],[0,11,0,1261,23,23,24,4,4,4,4,4,4,4,4,20],4,0,true,0,0⟩,
 ⟨[Un,97,33,33],1005,[59],[0,0,301,2,2,2,3,3,3,3,3,3,20],3,0,true,0,0⟩,
 ⟨[TM,40,Un,97,98],1005,[59],[0,0,1,1,1,2,2,2,2,2,2,273,4,4,4,4,4,4,21,22,4,4,20],4,0,true,0,0⟩,
 ⟨[TJ,40,97,41,123,0],1130,[],[0,0,1,1,62,3,3,4,4,5,5,5,5,5,20],5,0,true,0,1⟩,
 ⟨[VG,123,125,0],1005,[TB],[0,0,541,3,3,3,20],3,0,true,0,0⟩,
 ⟨[TJ,40,97,41,123,Up,98,59],1005,[58],[0,0,1,1,62,3,3,4,4,5,5,5,5,186,7,7,20],7,0,true,0,1⟩,
 ⟨[TM,40,S0],1123,[],[0,0,1,1,1,2,2,2,13,2,20],2,0,false,0,0⟩]
theorem LP {n:Nat}{R bz:List V}{d il cy:Int}{p:Bool}(Kf:jD→PK)(X: ∀e,vI (Kf e) n R d (oa e.ws n p)):D4.map (λe=>lhs (dq (lv 40) Su [P,.obj 15] (aP (Kf e) n ⟨R,d,true,il,cy,bz⟩) (e.fs (X e) il cy bz)))=D4.map (λe=>rhs (e.r (Kf e) n R d il cy bz) (dq (lv 40) Su [P,.obj 15] (aP (Kf e) n ⟨R,d,true,il,cy,bz⟩) (e.fs (X e) il cy bz))):=by kernel_rfl
structure zP (K:PK)(n:Nat)(q:PQ)(ws:List N)(p:Bool):Prop where
 hT: ∃A,K.T=A++(oa ws n p).map Tq.v∧A.length=n
 hn:n+20<16000000
 D:Dp 8 q.deep
 ai:q.ai=true
 rows:q.rows.length<16000000
 bz: ∀x∈q.bz,tY x
 nq:dU 113 q.bz=none
 ll:q.bz.length<16000000
inductive tZ (K:PK)(n:Nat)(q:PQ)(ws:List N)(nm:Int)(args:List V):Prop
 |mk (n1:Nat) (q1:PQ) (c:aq Su [P,.obj 15] (aP K n q) (.ba (aP K n1 q1))) (r:q1.rows=q.rows++[oS nm (oz ws n (.int 0)) args]) (i k:Nat) (u:N) (e:V) (l:Bool) (ha:oz ws n (.int 0)=pv i) (h:ag K.T (n1:Int)=some (gp k u (pv i) e l))
section
variable {n:Nat}{A bz:List V}{d il cy:Int}{q:PQ}{e:jD}{ws:List N}
theorem og:(oa ws n p).length≤11:=by
 unfold oa;exact aa Wo (Nat.add_le_add_right (List.length_take_le ..) 1)
theorem OZ (hn:n+20<16000000)(hA:A.length=n)(D:Dp 8 d)(hr:R.length<16000000)(hl:ts.length≤11):vI {K with T:=A++ts.map Tq.v} n R d ts:=by
 have hL:(A++ts.map Tq.v).length<16000000:=by refine aa Wo (aa (Wq ..) ?_);lia
 refine ⟨hL,λj t h=> ?_,D,hr⟩;subst hA;have e:(A++ts.map Tq.v)[A.length+j]? =some t.v:=by exact aa (List.getElem?_append_right (Nat.le_add_right ..)) (aa (Nat.add_sub_cancel_left ..) (aa (List.getElem?_map) (aa h rfl)))
 exact de e hL
theorem zP.x (C:zP K n q ws p):vI K n q.rows q.deep (oa ws n p):=by
 obtain ⟨A,h,hA⟩:=C.hT;have z:=OZ (K:=K) C.hn hA C.D C.rows (og (ws:=ws) (n:=n) (p:=p));rw [←h] at z;exact z
theorem Ci:D4.map (λe=>(oz e.ws n (.int 0),((oa e.ws n p)[e.me]?).map Tq.i))=D4.map (λe=>(pv (n+e.me),some (n+e.me))):=by kernel_rfl
theorem Hf (he:e∈D4)(C:zP K n q e.ws p):tZ K n q e.ws e.nm (e.args.map .str):=by
 obtain ⟨R,d,ai,il,cy,bz⟩:=q;obtain rfl:=C.ai;obtain ⟨A,h,hA⟩:=C.hT;have X: ∀e:jD,vI {K with T:=A++(oa e.ws n p).map Tq.v} n R d (oa e.ws n p):=λe=>OZ C.hn hA C.D C.rows og;have z:=List.map_inj_left.mp (LP (λe=>{K with T:=A++(oa e.ws n p).map Tq.v}) X (bz:=bz) (il:=il) (cy:=cy)) e he;have z:=wk _ z;rw [←h] at z;have y:=List.map_inj_left.mp (Ci (n:=n) (p:=p)) e he;have y1:oz e.ws n (.int 0)=pv (n+e.me):=WJ Prod.fst y;have y2:((oa e.ws n p)[e.me]?).map Tq.i=some (n+e.me):=WJ Prod.snd y;obtain ⟨t,h3,h4⟩:=Option.map_eq_some_iff.mp y2;have h5:ag K.T ((n+e.me:Nat):Int)=some (gp t.k t.u (pv t.i) t.e t.l):=C.x.tk _ t h3;rw [h4] at h5;exact .mk (n+e.me) {e.q R d il cy bz with rows:=R++[oS e.nm (pv (n+e.me)) (e.args.map .str)]} z (WJ (λa=>R++[oS e.nm a (e.args.map .str)]) y1.symm) (n+e.me) t.k t.u t.e t.l y1 h5
end
section
variable {n:Nat}{q:PQ}
noncomputable def Pk:List N:=[113,58,0]
noncomputable def Pl:List N:=[123,97,59,0]
noncomputable def Pm:List N:=[Wl,40,97,41,0]
noncomputable def Pn:List N:=[VZ,97,Tj]
theorem ON (C:zP K n q Pm p):tZ K n q Pm 1003 []:=by
 obtain ⟨R,d,ai,il,cy,bz⟩:=q;obtain rfl:=C.ai;have X:=C.x;have s0:aq Su [P,.obj 15] (aP K (n+4) (mq R d il cy bz 1 true 0 0)) (.ba (aP K (n+4) ⟨R++[oS 1003 (pv (n+4)) []],d+1+1,true,il,cy,bz⟩)):=wk (lF X il cy bz [] [4,4,4,4,4,4,74]);have s1:=iN (q:=mq R d il cy bz 0 true 0 0) (X.D.fp (by decide:0<3)) s0;exact .mk (n+4) ⟨R++[oS 1003 (pv (n+4)) []],d+1+1,true,il,cy,bz⟩ (wk (lF X il cy bz [.call s1] [0,0,1,1,62,3,3,20])) (by kernel_rfl) (n+4) 0 0 (pv (n+4)) false (by kernel_rfl) (X.tk 4 (Jf (n+4)) (by kernel_rfl))
theorem OO (C:zP K n q Pn p):tZ K n q Pn 1005 [.str 59]:=by
 obtain ⟨R,d,ai,il,cy,bz⟩:=q;obtain rfl:=C.ai;have X:=C.x;have s0:aq Su [P,.obj 15] (aP K (n+1) (mq R d il cy bz 1 true 1 0)) (.ba (aP K (n+2) ⟨R++[oS 1005 (pv (n+2)) [.str 59]],d+1,true,il+1,cy,bz⟩)):=wk (lF X il cy bz [.call (Ma (K:=K) (n:=n+2) (q:=mq R d il cy bz 1 true 1 0) X.rows 1005 (by decide) (pv (n+2)) [.str 59])] [1,12,1,1,1,1,1,131,2,2,2,20]);have s1:=iN (q:=mq R d il cy bz 0 true 1 0) (X.D.fp (by decide:0<3)) s0;exact .mk (n+2) ⟨R++[oS 1005 (pv (n+2)) [.str 59]],d+1,true,il+1,cy,bz⟩ (wk (lF X il cy bz [.call s1] [0,0,20])) (by kernel_rfl) (n+2) 2 Tj _ false (by kernel_rfl) (X.tk 2 ⟨2,Tj,n+2,.int ((3*(n+2)+2:Nat):Int),false⟩ (by kernel_rfl))
theorem OM (C:zP K n q Pl p):tZ K n q Pl 1005 [.str 125]:=by
 obtain ⟨R,d,ai,il,cy,bz⟩:=q;obtain rfl:=C.ai;have X:=C.x;have s0:aq Su [P,.obj 15] (aP K (n+1) (mq R d il cy bz 2 true 0 0)) (.ok (nd 43 0 [nd 8 97 [] 0 (n+1)] 0 (n+1)) (aP K (n+3) (mq R d il cy bz 2 true 0 0))):=wk (lF X il cy bz [] [1,12,1,1,1,1,1,81,2,2]);have s1:=nM (q:=mq R d il cy bz 1 true 0 0) (q':=mq R d il cy bz 1 true 0 0) (h:=2) (X.D.fp (by decide:1<3)) s0 (.nd ⟨.nd (h:=0) trivial,trivial⟩) (by decide);have b0:aq Ta [.aO TH [],P] (aP K n (mq R d il cy bz 1 true 0 0)) (.ba (aP K (n+3) ⟨R++[oS 1005 (pv (n+3)) [.str 125]],d+1,true,il,cy,bz⟩)):=wk (lF X il cy bz [.call (Ma (K:=K) (n:=n+3) (q:=mq R d il cy bz 1 true 0 0) X.rows 1005 (by decide) (pv (n+3)) [.str 125]),.call s1] [0,0,0,1,1,21,3,3,3,3,20]);have s2:=tj (q:=mq R d il cy bz 0 true 0 0) (X.D.fp (by decide:0<3)) b0;exact .mk (n+3) ⟨R++[oS 1005 (pv (n+3)) [.str 125]],d+1,true,il,cy,bz⟩ (wk (lF X il cy bz [.call s2] [0,0,20])) (by kernel_rfl) (n+3) 0 0 (pv (n+3)) false (by kernel_rfl) (X.tk 3 (Jf (n+3)) (by kernel_rfl))
theorem OL (C:zP K n q Pk p):tZ K n q Pk 1003 []:=by
 obtain ⟨R,d,ai,il,cy,bz⟩:=q;obtain rfl:=C.ai;have X:=C.x;have LR:=FF (K:=K) (n:=n+2) C.bz 113;rw [C.nq] at LR;have s0:aq Su [P,.obj 15] (aP K (n+2) (mq R d il cy (bz++[.au [.str 113,.int 0]]) 1 true 0 0)) (.ba (aP K (n+2) ⟨R++[oS 1003 (pv (n+2)) []],d+1+1,true,il,cy,bz++[.au [.str 113,.int 0]]⟩)):=wk (lF X il cy (bz++[.au [.str 113,.int 0]]) [] [2,2,2,2,2,2,72]);have s1:=iN (q:=mq R d il cy (bz++[.au [.str 113,.int 0]]) 0 true 0 0) (X.D.fp (by decide:0<3)) s0;exact .mk (n+2) ⟨R++[oS 1003 (pv (n+2)) []],d+1+1,true,il,cy,bz++[.au [.str 113,.int 0]]⟩ (wk (lF X il cy bz [.call LR,.lt C.ll,.call s1] [0,11,0,1,20,12,12,21,22])) (by kernel_rfl) (n+2) 0 0 (pv (n+2)) false (by kernel_rfl) (X.tk 2 (Jf (n+2)) (by kernel_rfl))
end
noncomputable def OV:List jD:=[⟨Pl,1005,[125],[],3,0,true,0,0⟩,⟨Pm,1003,[],[],4,0,true,0,0⟩,⟨Pn,1005,[59],[],2,0,true,0,0⟩]
noncomputable def Rc:jD:=⟨Pk,1003,[],[],2,0,true,0,0⟩
noncomputable def qM:List jD:=Rc::(D4++OV)
noncomputable def HK:List jD:=[1,2,3,4,5,6,7,8,9,10,11,12,0,33,13,14,15,16,17,18,19,20,21,22,23,24,25,26,27,28,29,30,34,35,31,32].filterMap λi=>qM[i]?
noncomputable def QI (e:jD):V:= .au [.au (e.ws.map .str),.int e.nm,.au (e.args.map .str)]
theorem GU:w9 Wa=some (.au (HK.map QI)):=by kernel_rfl
theorem tB:HK.length=36:=by kernel_rfl
theorem Bv {e:jD}(h:e∈HK):e∈qM:=by
 obtain ⟨i,_,h⟩:=List.mem_filterMap.mp h;exact List.mem_of_getElem? h
noncomputable def Qi (u:N):Bool:=Nat.beq u Tj||(Nat.beq u VZ||Nat.beq u TM)
noncomputable def Qh (ts:List Tq):Bool:=match ts with
 |t::r=>(!Nat.beq t.k 2||(Qi t.u||Bf t.u))&&(!Nat.beq t.k 1||(match r with
  |t2::_=>lR [(5,58)] t2.k t2.u
  |[]=>false))
 |[]=>false
noncomputable def zu (w:N):Bool:=Nat.beq w 0||(Nat.beq w oy||(bt fy w).isSome)
noncomputable def NM (w:N):Bool:= !Nat.beq w 0&&(!Nat.beq w oy&&(!Nat.beq w 59&&(lR (qc (!Nat.beq w 125)) (zd w) (ze w)&&(bt fy w).isSome)))
structure oA (e:jD):Prop where
 rd: ∀K n q p,zP K n q e.ws p→tZ K n q e.ws e.nm (e.args.map .str)
 bk: ∀n,oz e.ws n (.int 0)=pv (n+e.me)
 ll: ∀K n R d p,vI K n R d (oa e.ws n p)→ ∃b,LL K n b
 ok:e.ws.all zu=true
 len:e.ws.length≤9
 fw: ∃w r,e.ws=w::r∧NM w=true
section
variable {n:Nat}{d:Int}{e:jD}
theorem J1 (X:vI K n R d ts)(h:Qh ts=true): ∃b,LL K n b:=by
 cases ts with
 |nil=>exact bK h
 |cons t r=>
  have h0:ag K.T (n:Int)=some (gp t.k t.u (pv t.i) t.e t.l):=X.tk 0 t rfl;obtain ⟨h1,h2⟩:=Ws h;have k1:t.k=1→Nt K (n+1) [(5,58)]:=λe=>by
   rw [e] at h2;cases r with
   |nil=>exact bK h2
   |cons t2 r=>exact ⟨_,_,_,_,_,X.tk 1 t2 rfl,h2⟩
  by_cases k2:t.k=2
  ·rw [k2] at h1 h0;rcases Wt (show (Qi t.u||Bf t.u)=true from h1) with h|h
   ·refine ⟨1,.cq h0 ?_⟩;rcases Wt h with h|h
    ·exact .inl (WI h)
    ·exact .inr ((Wt h).imp WI WI)
   ·exact ⟨0,.du h0 (λZ=>h) nofun⟩
  ·exact ⟨0,.du h0 (λe=>WK e k2) k1⟩
theorem Et:qM.map (λe=>oz e.ws n (.int 0))=qM.map (λe=>pv (n+e.me)):=by kernel_rfl
theorem Eu:(D4++OV).map (λe=>Qh (oa e.ws n p))=(D4++OV).map (λZ=>true):=by kernel_rfl
noncomputable def P8 (e:jD):Bool:=match e.ws with
 |w::_=>NM w
 |[]=>false
theorem Ew:qM.all (λe=>e.ws.all zu&&(Nat.ble e.ws.length 9&&P8 e))=true:=by kernel_rfl
theorem Di (he:e∈qM):oA e:=by
 obtain ⟨h1,h2⟩:=Ws (Wu Ew e he);obtain ⟨h2,h3⟩:=Ws h2;refine ⟨?_,λn=>List.map_inj_left.mp Et e he,?_,h1,Nat.le_of_ble_eq_true h2,?_⟩
 ·intro K n q p C;rcases Wv he with h|h
  ·subst h;exact OL C
  rcases List.mem_append.mp h with h|h
  ·exact Hf h C
  rcases Wv h with h|h
  ·subst h;exact OM C
  rcases Wv h with h|h
  ·subst h;exact ON C
  ·obtain rfl:=Wx h;exact OO C
 ·intro K n R d p X;rcases Wv he with h|h
  ·subst h;exact ⟨0,.xp (X.tk 0 ⟨1,113,n,.int ((3*n+2:Nat):Int),p⟩ (by kernel_rfl)) (X.tk 1 ⟨5,58,n+1,.int ((3*(n+1)+2:Nat):Int),false⟩ (by kernel_rfl)) (.du (X.tk 2 (Jf (n+2)) (by kernel_rfl)) nofun nofun)⟩
  ·exact J1 X (List.map_inj_left.mp Eu e h)
 ·revert h3;unfold P8;cases e.ws with
  |nil=>exact bK
  |cons w r=>exact λh=>⟨w,r,rfl,h⟩
end
noncomputable def Rr:Stmt→List Stmt
 | .If _ b _ _=>b
 |_=>[]
noncomputable def Rt:Stmt→List Stmt
 | .If _ _ b _=>b
 |_=>[]
noncomputable def Mo:Stmt:=eS S8 4
noncomputable def QF:Stmt:=fC (Rr (fC (Rt (HQ Mo 0)) 0)) 1
noncomputable def Sj:Sx:=qG S8 (.none,.none) .none
noncomputable def zz (ws args:List V)(nm:Int)(a:V)(l:Bool)(ex:ao):ao:=(115,.val sV)::(495606460279,.val (.au ws))::(SM,.val (.int nm))::(VS,.val (.au args))::(TP,.val a)::(1701734764,.val (.bool l))::ex
noncomputable def CM (ws args:List V)(nm:Int)(n i:Nat)(a:V)(l:Bool)(g:G)(o:SO):Prop:=eN Sj (bf (.v (.au ws))) Vd (dK Mo) n i (zz ws args nm a l []) (aF g) o
noncomputable def G.ad (g:G)(w:N)(f:Bool):G:={g with toks:=g.toks++[jt (zd w) (ze w) (ln g) f],pend:=false,loose:=false}
noncomputable def G.jC:List N→G→Bool→Bool→G
 |[],g,_,_=>g
 |w::r,g,l,p=>if w=0 then G.jC r g false p else if w=oy then G.jC r g true p else G.jC r (g.ad w (l||p)) false false
section
variable {g1:G}{n i:Nat}{l:Bool}{ws all args:List V}{nm:Int}{w:N}{r:List N}
theorem FV {v:N}(h:w≠v):Nat.beq w v=false:=by
 cases e:Nat.beq w v with
 |false=>rfl
 |true=>exact WK (WI e) h
theorem DB:ln (g.ad w l)=ln g+1:=Wo
theorem He (R:aj n g)(h:zu w=true)(h0:w≠0)(hs:w≠oy)(hd:g.dead=false): ∃p,aq Tb [sV,.str w,.bool true] (aF g) (.ok (pv (ln g)) (aF (g.ad w p)))∧(g.pend=false→p=false)∧(g.pend=true→lg w=false→p=true):=by
 unfold zu at h;rw [FV h0,FV hs] at h;obtain ⟨k,hk⟩:=Option.isSome_iff_exists.mp (show (bt fy w).isSome=true from h);obtain ⟨g1,o⟩:=Mp R true hk;obtain ⟨p,e,h1,h2⟩:=o.st;refine ⟨p,?_,h1 rfl,h2⟩;have e1:g1=g.ad w p:=by
  refine aa e (aa (dh hd) ?_);unfold G.ad ze zd;exact aa hk rfl
 exact e1▸o.aB
theorem Ce {u:N}:eO S8 QF (zz ws args nm a true [(Vd,.val (.str w))]) (aF (g.ad u p)) (.next (zz ws args nm a true [(Vd,.val (.str w))]) (aF (g.ad u true))):=by
 have e4:pj (.obj 0) (.bool true) (aF (g.ad u p))=some (aF (g.ad u true)):=by
  have e: ∀q:List V,pj (.obj 0) (.bool true) (aF {g.ad u p with toks:=q})=q.getLast?.bind λz=>(qN z).bind λp=>(gP p.1).bind λns=>(yl ns p.2 SI (.bool true)).map λl=>gX (aF {g.ad u true with toks:=q}) 0 (.iT (q.dropLast++[.aO p.1 l])):=λq=>by kernel_rfl
  refine (e (g.toks++[jt (zd u) (ze u) (ln g) p])).trans ?_;refine aa (List.getLast?_concat) (aa List.dropLast_concat ?_)
  kernel_rfl
 have e3: ∀g,ej (lv 40) (bj S8 (zz ws args nm a true [(Vd,.val (.str w))]) (aF g)) QF (zz ws args nm a true [(Vd,.val (.str w))]) (aF g) []=TS.pre [] (TS.then (TS.pre [] (TS.pre [] (sO (pj (.obj 0) (.bool true) (aF g)) λσ=>cZ (zz ws args nm a true [(Vd,.val (.str w))]) σ []))) λρ σ fs=>cZ ρ σ fs):=λg=>by kernel_rfl
 refine cD [] ?_;refine aa (e3 ..) (aa e4 ?_)
 kernel_rfl
end
section
variable {g1:G}{n i:Nat}{l:Bool}{ws all args:List V}{nm:Int}{w:N}{r:List N}{x:V}
inductive Q4 (all args:List V)(nm:Int)(i:Nat)(w:N)(n:Nat)(a:V)(l:Bool)(g:G):Prop
 |z (h:w=0) (k: ∀o,CM all args nm n (i+1) (pv (ln g)) false g o→CM all args nm (n+1) i a l g o)
 |s (h0:w≠0) (h:w=oy) (k: ∀o,CM all args nm n (i+1) a true g o→CM all args nm (n+1) i a l g o)
 |w (p:Bool) (h0:w≠0) (h:w≠oy) (h1:g.pend=false→p=false) (h2:g.pend=true→lg w=false→p=true) (k: ∀o,CM all args nm n (i+1) (pv (ln g)) false (g.ad w (l||p)) o→CM all args nm (n+1) i a l g o)
theorem Cg (R:aj m g)(hw:all[i]? =some (.str w))(h:zu w=true)(hd:g.dead=false):Q4 all args nm i w n a l g:=by
 by_cases h0:w=0
 ·subst h0;exact .z rfl λo h=>eN.b9 h (fs:=[.lt R.tk]) rfl hw [(Vd,.val (.str 0))]
 by_cases hs:w=oy
 ·subst hs;exact .s h0 rfl λo h=>eN.b9 h (fs:=[]) rfl hw [(Vd,.val (.str oy))]
 obtain ⟨p,P,h1,h2⟩:=He R h h0 hs hd;have n0:decide (w=0)=false:=Wz h0;have n1:(!decide (w=oy))=true:=by exact aa (Wz hs) rfl
 have n2:decide (w=oy)=false:=Wz hs;refine .w p h0 hs h1 h2 λo h=> ?_;rw [←n2] at h;cases l with
 |false=>exact eN.b9 h (fs:=[.av n0,.av n1,.call P]) rfl hw [(Vd,.val (.str w))]
 |true=>exact eN.b9 h (fs:=[.av n0,.av n1,.call P,.ifs (Ce (ws:=all) (args:=args) (nm:=nm) (a:=pv (ln g)) (w:=w) (g:=g) (u:=w) (p:=p))]) rfl hw [(Vd,.val (.str w))]
theorem Es (hd:g.dead=false):aV 0 1 g (g.ad w p):=by
 have z:aV 0 1 g (g.tq (zd w) (ze w) p):=nS;rw [dh hd] at z;exact z
inductive Q3 (all args:List V)(nm:Int)(r:List N)(i:Nat)(a:V)(l:Bool)(g:G):Prop
 |mk (p l':Bool) (h1:g.pend=false→p=false) (h2: ∀w r',r=w::r'→w≠0→w≠oy→g.pend=true→lg w=false→p=true) (k:CM all args nm r.length i a l g (.next (zz all args nm (oz r (ln g) a) l' []) (aF (g.jC r l p))))
theorem K6 {r:List N}:oz (0::r) n a=oz r n (pv n):=WE rfl
theorem K7 {r:List N}(h:w≠0)(hs:w=oy):oz (w::r) n a=oz r n a:=(WG h).trans (WE hs)
theorem K8 {r:List N}(h:w≠0)(hs:w≠oy):oz (w::r) n a=oz r (n+1) (pv n):=(WG h).trans (WG hs)
theorem Cf (r:List N): ∀(i:Nat) (g:G) (a:V) (l:Bool),all.drop i=r.map .str→i+r.length=all.length→aj (r.length+1) g→r.all zu=true→g.dead=false→Q3 all args nm r i a l g:=by
 induction r with
 |nil=>exact λi g a l Z el Z Z Z=>⟨g.pend,l,id,nofun,.done rfl el.symm⟩
 |cons w r ih=>
  intro i g a l e el R ho hd;obtain ⟨hw,ho⟩:=Ws (show (zu w&&r.all zu)=true from ho);have hi:all[i]? =some (.str w):=by
   have:=WJ (λl=>l[0]?) e;rw [List.getElem?_drop] at this;exact this
  have e':all.drop (i+1)=r.map .str:=by
   have:=WJ (List.drop 1) e;rw [List.drop_drop] at this;exact this
  have el':i+1+r.length=all.length:=by refine fF el (aa List.length_cons ?_);simp+arith
  cases Cg (n:=r.length) (nm:=nm) (args:=args) (a:=a) (l:=l) R hi hw hd with
  |z h k=>
   obtain ⟨p,l',h1,h2,z⟩:=ih (i+1) g (pv (ln g)) false e' el' R.jy ho hd;subst h;refine ⟨p,l',h1,(λw r' e h=>WK (List.cons.inj e).1.symm h),?_⟩;exact aa K6 (k _ (by rw [show g.jC (0::r) l p=g.jC r false p from WE rfl];exact z))
  |s h0 h k=>
   obtain ⟨p,l',h1,h2,z⟩:=ih (i+1) g a true e' el' R.jy ho hd;refine ⟨p,l',h1,(λw r' e Z hs=>WK ((List.cons.inj e).1.symm.trans h) hs),?_⟩;exact aa (K7 h0 h) (k _ (by rw [show g.jC (w::r) l p=g.jC r true p from (WG h0).trans (WE h)];exact z))
  |w p h0 hs h1 h2 k=>
   obtain ⟨p',l',h3,_,z⟩:=ih (i+1) (g.ad w (l||p)) (pv (ln g)) false e' el' (R.sg (Es hd)) ho hd;obtain rfl:=h3 rfl;refine ⟨p,l',h1,(λw' r' e Z Z hp hx=>h2 hp ((List.cons.inj e).1▸hx)),?_⟩;rw [DB] at z;exact aa (K8 h0 hs) (k _ (by rw [show g.jC (w::r) l p=(g.ad w (l||p)).jC r false false from (WG h0).trans (WG hs)];exact z))
theorem zg (r:List N): ∀(g:G) (l p:Bool),∃pd lo,g.jC r l p={g with toks:=g.toks++(jQ r (ln g) l p).map Tq.v,pend:=pd,loose:=lo}:=by
 induction r with
 |nil=>exact λg l p=>⟨g.pend,g.loose,by show g={g with toks:=g.toks++[]};exact aa (Wr ..) rfl⟩
 |cons w r ih=>
  intro g l p;by_cases h0:w=0
  ·obtain ⟨pd,lo,h⟩:=ih g false p;exact aa (show g.jC (w::r) l p=g.jC r false p from WE h0) (aa (show jQ (w::r) (ln g) l p=jQ r (ln g) false p from WE h0) ⟨pd,lo,h⟩)
  by_cases hs:w=oy
  ·obtain ⟨pd,lo,h⟩:=ih g true p;exact aa (show g.jC (w::r) l p=g.jC r true p from (WG h0).trans (WE hs)) (aa (show jQ (w::r) (ln g) l p=jQ r (ln g) true p from (WG h0).trans (WE hs)) ⟨pd,lo,h⟩)
  ·obtain ⟨pd,lo,h⟩:=ih (g.ad w (l||p)) false false;refine aa (show g.jC (w::r) l p=(g.ad w (l||p)).jC r false false from (WG h0).trans (WG hs)) (aa (show jQ (w::r) (ln g) l p=⟨zd w,ze w,ln g,.int ((3*ln g+2:Nat):Int),l||p⟩::jQ r (ln g+1) false false from (WG h0).trans (WG hs)) ?_);refine ⟨pd,lo,h.trans ?_⟩;refine aa DB ?_;show ({g with toks:=(g.toks++[_])++_,pend:=pd,loose:=lo}:G)=_;exact aa (Wn ..) rfl
theorem tJ (r:List N): ∀{n:Nat} {l p:Bool},(jQ r n l p).length≤r.length:=by
 induction r with
 |nil=>exact Nat.le_refl _
 |cons w r ih=>
  intro n l p;unfold jQ
  split
  ·exact Nat.le_succ_of_le ih
  ·split
   ·exact Nat.le_succ_of_le ih
   ·exact Nat.succ_le_succ ih
end
noncomputable def kO:List V:=match w9 Wa with
 |some (.au l)=>l
 |_=>[]
inductive Q0 (g:G):Prop
 |mk (e:jD) (E:oA e) (p pd lo:Bool) (hn:0<g.b.bD→ ∀w r,e.ws=w::r→w≠125) (hp: ∀w r,e.ws=w::r→g.pend=true→lg w=false→p=true)
  (c:aq S8 [sV] (aF g) (.ok kQ (aF {g with toks:=g.toks++(jQ e.ws (ln g) false p).map Tq.v,pend:=pd,loose:=lo,told:=g.told++[.au [.int e.nm,pv (ln g+e.me),.au (e.args.map .str)]],dead:=true})))
section
variable {n i:Nat}{l:Bool}{ws r:List N}{args:List V}{nm:Int}{w:N}{e:jD}
theorem yP:kO=HK.map QI:=by
 unfold kO;exact aa GU rfl
theorem tK (R:aj (ws.length+2) g)(ho:ws.all zu=true)(hd:g.dead=false)(ha:oz ws (ln g) (.int 0)=pv j):
  ∃p l' pd lo,(g.pend=false→p=false)∧(∀w r',ws=w::r'→w≠0→w≠oy→g.pend=true→lg w=false→p=true)∧g.jC ws false p={g with toks:=g.toks++(jQ ws (ln g) false p).map Tq.v,pend:=pd,loose:=lo}∧
   eO S8 Mo (zz (ws.map .str) args nm (.int 0) false []) (aF g) (.next (zz (ws.map .str) args nm (pv j) l' []) (aF (g.jC ws false p)))∧aq UA [sV,.int nm,pv j,.au args] (aF (g.jC ws false p)) (.ok .none (aF {g.jC ws false p with told:=g.told++[.au [.int nm,pv j,.au args]]})):=by
 obtain ⟨p,l',h1,h2,k⟩:=Cf (all:=ws.map .str) (nm:=nm) (args:=args) ws 0 g (.int 0) false rfl (by exact aa (Wq ..) (Nat.zero_add _)) R.jy ho hd;obtain ⟨pd,lo,hf⟩:=zg ws g false p;rw [ha] at k;refine ⟨p,l',pd,lo,h1,h2,hf,?_,?_⟩
 ·have k2:CM (ws.map .str) args nm (ws.map V.str).length 0 (.int 0) false g (.next (zz (ws.map .str) args nm (pv j) l' []) (aF (g.jC ws false p))):=by exact aa (Wq ..) k
  exact eN.iw (f:=S8) (st:=Mo) (k0:=[]) (fs0:=[]) (fs1:=[]) k2 (λT=>by kernel_rfl)
 ·have z:(g.jC ws false p).told.length<16000000:=by exact aa hf R.td
  have d:(g.jC ws false p).dead=false:=by exact aa hf hd
  have t:(g.jC ws false p).told=g.told:=by exact aa hf rfl
  exact fF t (wk [.av d,.lt z])
theorem Ha (hs:ag kO g.c.bL=some (.au [.au (.str w::r.map .str),.int nm,.au args]))(R:aj 12 g)(hl:r.length<9)(ho:(w::r).all zu=true)(hd:g.dead=false)(ha:oz (w::r) (ln g) (.int 0)=pv j)(hx:w=125→ ¬0<g.b.bD):
  ∃p pd lo,(∀w' r',w::r=w'::r'→w'≠0→w'≠oy→g.pend=true→lg w'=false→p=true)∧aq S8 [sV] (aF g) (.ok kQ (aF {g with toks:=g.toks++(jQ (w::r) (ln g) false p).map Tq.v,pend:=pd,loose:=lo,told:=g.told++[.au [.int nm,pv j,.au args]],dead:=true})):=by
 obtain ⟨p,l',pd,lo,_,h2,hf,hk,ht⟩:=tK (ws:=w::r) (args:=args) (nm:=nm) (R.aw (by exact aa List.length_cons (lB hl))) ho hd ha;rw [hf] at hk ht;refine ⟨p,pd,lo,h2,?_⟩;by_cases h:w=125
 ·have t2:decide (0<g.b.bD)=false:=Wz (hx h);exact wk [.ag hs,.av (show decide (w=125)=true from WA h),.av t2,.eJ hk,.call ht]
 ·exact wk [.ag hs,.av (show decide (w=125)=false from Wz h),.eJ hk,.call ht]
theorem G9 (hs:ag kO g.c.bL=some (.au [.au (.str 125::r.map .str),.int nm,.au args]))(R:aj 12 g)(hd:g.dead=false)(hx:0<g.b.bD):
  ∃p pd lo,(g.pend=true→p=true)∧aq S8 [sV] (aF g) (.ok kQ (aF {g with toks:=g.toks++(jQ [VF] (ln g) false p).map Tq.v,pend:=pd,loose:=lo,told:=g.told++[.au [.int nm,pv (ln g),.au args]],dead:=true})):=by
 obtain ⟨p,l',pd,lo,_,h2,hf,hk,ht⟩:=tK (ws:=[VF]) (args:=args) (nm:=nm) (j:=ln g) (R.aw (by decide)) rfl hd rfl;rw [hf] at hk ht;refine ⟨p,pd,lo,λh=>h2 _ _ rfl (by decide) (by decide) h rfl,?_⟩;exact wk [.ag hs,.av (b:=true) rfl,.av (show decide (0<g.b.bD)=true from WA hx),.eJ hk,.call ht]
noncomputable def PR (e:jD):Bool:=match e.ws with
 |w::_=> !Nat.beq w 125||(Nat.beq e.nm 1128&&e.args.isEmpty)
 |[]=>true
theorem GR:HK.all PR=true:=by kernel_rfl
theorem Fg: ∃e∈qM,e.ws=[VF]∧e.nm=1128∧e.args=[]∧e.me=0:=⟨_,List.mem_of_getElem? (i:=10) rfl,rfl,rfl,rfl,rfl⟩
theorem G8 (R:aj 12 g)(hd:g.dead=false):Q0 g:=by
 obtain ⟨i,hi⟩: ∃i:Nat,g.c.bL=(i:Int):=⟨g.c.bL.toNat,(Int.toNat_of_nonneg R.bL.1).symm⟩;have hi2:i<36:=by have:=R.bL.2;lia
 obtain ⟨e,he⟩: ∃e,HK[i]? =some e:=⟨_,List.getElem?_eq_getElem (tB▸hi2)⟩;have hm:=List.mem_of_getElem? he;have E:=Di (Bv hm);obtain ⟨w,r,hw,hf⟩:=E.fw;have hs:ag kO g.c.bL=some (.au [.au (.str w::r.map .str),.int e.nm,.au (e.args.map .str)]):=by
  refine aa hi (aa yP ?_);refine de (by refine aa (List.getElem?_map) (aa he ?_);show some (V.au [.au (e.ws.map .str),_,_])=_;exact aa hw rfl) (by refine aa (Wq ..) (aa tB ?_);decide)
 obtain ⟨hw0,hf⟩:=Ws hf;obtain ⟨hws,_⟩:=Ws hf;by_cases hx:w=125∧0<g.b.bD
 ·obtain ⟨hx,hn⟩:=hx;have hb:=Wu GR e hm;unfold PR at hb;rw [hw,hx] at hb;obtain ⟨hb1,hb2⟩:=Ws (show (Nat.beq e.nm 1128&&e.args.isEmpty)=true from hb);obtain ⟨e',he',h1,h2,h3,h4⟩:=Fg;rw [hx,WI hb1,Ww hb2] at hs;obtain ⟨p,pd,lo,hp,c⟩:=G9 hs R hd hn;refine ⟨e',Di he',p,pd,lo,λZ w r e=> ?_,λw r e h Z=>hp h,?_⟩
  ·rw [h1] at e;injection e with eA;subst eA;decide
  ·rw [h1,h2,h3,h4];exact c
 ·have hl:=E.len;have ho:=E.ok;have ha:=E.bk (ln g);rw [hw] at hl ho ha;obtain ⟨p,pd,lo,hp,c⟩:=Ha hs R (Nat.lt_of_succ_le hl) ho hd ha λh hn=>hx ⟨h,hn⟩;refine ⟨e,E,p,pd,lo,λhn w' r' e'=> ?_,λw' r' e' h h2=> ?_,?_⟩
  ·rw [hw] at e';injection e' with eA;subst eA;exact λh=>hx ⟨h,hn⟩
  ·rw [hw] at e';injection e' with eA;subst eA
   exact hp _ _ rfl (λh=>by rw [h] at hw0;exact bK hw0) (λh=>by rw [h] at hws;exact bK hws) h h2
  ·exact aa hw c
end
noncomputable def G.bg (g:G):G:={g with eF:=g.eF+1}
inductive M1 (k:Nat)(cl:Bool)(on:Nat)(g:G):Prop
 |mk (g':G) (c:aq S8 [sV] (aF g.bg) (.ok kQ (aF g'))) (r:zS k cl g g' kQ (DG on)) (hd:g'.dead=true) (l:zJ k cl on g g')
section
variable {n k i:Nat}{l pd lo:Bool}{ws r:List N}{nm:Int}{w:N}{e:jD}{d:Int}
theorem mS (R:aj n g):aj n g.bg:=⟨R.nums,R.u,R.bz,⟨λh=>Int.le_trans (R.iv.1 h) (show g.eF≤g.eF+1 by simp+arith),R.iv.2⟩,R.bL,R.cq,R.switch,R.bD,R.iM⟩
noncomputable def G.sp (g:G)(e:jD)(p pd lo:Bool):G:={g.bg with toks:=g.toks++(jQ e.ws (ln g) false p).map Tq.v,pend:=pd,loose:=lo,told:=g.told++[.au [.int e.nm,pv (ln g+e.me),.au (e.args.map .str)]],dead:=true}
theorem vW: ∀{l:List N},(l.map V.str).all AA=true
 |[]=>rfl
 |_::l=>vW (l:=l)
theorem G5 (E:oA e)(hd:g.dead=false)(hw:g.eF+1=g.c.cL):aV 0 10 g (g.sp e p pd lo):=by
 refine ⟨rfl,rfl,⟨_,rfl⟩,?_,λh=>WK (hd.symm.trans h) (by decide),λh=>⟨λZ=>show g.c.cL≤g.eF+1 by refine aa hw ?_;exact Int.le_refl _,λx hx=>(List.mem_append.mp hx).elim (h.2 x) λhx=>⟨_,_,_,Wx hx,vW⟩⟩⟩;show (g.toks++(jQ e.ws (ln g) false p).map Tq.v).length+3050*u5 g+2000*(g.told++[_]).length+0+0≤g.toks.length+3050*u5 g+2000*g.told.length+(if g.dead=true then 0 else 2000)+10;have:=tJ e.ws (n:=ln g) (l:=false) (p:=p);have:=E.len;refine aa hd (aa Wo (aa Wo (aa (Wq ..) ?_)));show _+_+_+2000*(_+1)+0+0≤_+_+_+2000+10;lia
theorem DU (E:oA e)(W:W K (g.sp e p pd lo)):K.T=g.toks++(oa e.ws (ln g) p).map Tq.v:=by
 obtain ⟨r,h,h2⟩:=W.ex;obtain rfl:=h2 rfl;have:=tJ e.ws (n:=ln g) (l:=false) (p:=p);have:=E.len;refine aa h ?_;unfold oa;refine aa (List.take_of_length_le (by lia)) (aa List.map_append ?_);show (g.toks++_)++([]++[wH ((g.toks++_).length+0)])=_;exact aa (Wn ..) (aa Wo (aa (Wq ..) rfl))
theorem Fb (h:NM w=true):(oa (w::r) n p)[0]? =some ⟨zd w,ze w,n,.int ((3*n+2:Nat):Int),p⟩:=by
 obtain ⟨h0,h⟩:=Ws h;obtain ⟨hs,_⟩:=Ws h;unfold oa;exact aa (show jQ (w::r) n false p=⟨zd w,ze w,n,.int ((3*n+2:Nat):Int),p⟩::jQ r (n+1) false false from (WG λh=>by rw [h] at h0;exact bK h0).trans ((WG λh=>by rw [h] at hs;exact bK hs).trans (by rw [Bool.false_or]))) rfl
theorem RH (h:fU L M)(hM: ∀x∈M,ix x):dU 113 L=none:=by
 have e:=h.dU 113;have:dU 113 M=none:=List.find?_eq_none.mpr λx hx=>by
  obtain ⟨n,b,e,hn⟩:=hM x hx;subst e;rcases hn with h|h|h<;>subst h<;>exact Bool.false_ne_true
 rw [this] at e;exact Option.not_isSome_iff_eq_none.mp (by refine aa e ?_;decide)
theorem yM (E:oA e)(hn:0<g.b.bD→ ∀w r,e.ws=w::r→w≠125)(hp: ∀w r,e.ws=w::r→g.pend=true→lg w=false→p=true)(X:vI K (ln g) L d (oa e.ws (ln g) p)):zm K g∧pos K g=ln g:=by
 obtain ⟨w,r,hw,hf⟩:=E.fw;have hn:=λh=>hn h w r hw;have hp:=hp w r hw;rw [hw] at X;have h0:ag K.T (ln g:Int)=some (gp (zd w) (ze w) (pv (ln g)) (.int ((3*ln g+2:Nat):Int)) p):=X.tk 0 _ (Fb hf);obtain ⟨_,hf⟩:=Ws hf;obtain ⟨_,hf⟩:=Ws hf;obtain ⟨hsm,hf⟩:=Ws hf;obtain ⟨hav,_⟩:=Ws hf;have hpos:pos K g=ln g:=rz ((gj h0).trans (Wz λ⟨h5,hu⟩=>by
  have e:ze w=w:=WG λh=>by rw [h] at h5;exact nomatch h5
  rw [e] at hu;rw [hu] at hsm;exact bK hsm))
 have N:Nt K (ln g) (qc (!Nat.beq w 125)):=⟨_,_,_,_,_,h0,hav⟩;refine ⟨⟨?_,λhpd=> ?_,_,_,_,_,_,h0⟩,hpos⟩
 ·refine aa hpos ?_;by_cases h:0<g.b.bD
  ·rw [FV (hn h)] at N;exact aa (WA h) N
  ·refine aa (Wz h) ?_;revert N;cases Nat.beq w 125 with
   |true=>exact id
   |false=>exact λN=>N.le
 ·cases hx:lg w with
  |false=>exact ⟨_,_,_,_,_,h0,by exact aa (hp hpd hx) (Bool.or_true _)⟩
  |true=>
   have hw2:w=125:=(Wt hx).elim (λh=>by rw [Wy h] at hsm;exact bK hsm) λh=>Wy h;subst hw2;exact ⟨_,_,_,_,_,h0,by cases p<;>rfl⟩
theorem Lc (R:aj 13 g)(hb:g.eF+1=g.c.cL):M1 k cl on g:=by
 have hd:g.dead=false:=by
  cases h:g.dead with
  |false=>rfl
  |true=>have:=R.iv.1 h;lia
 obtain ⟨e,E,p,pd,lo,hn,hp,c⟩:=G8 (mS R.jy) hd;have hn:0<g.b.bD→ ∀w r,e.ws=w::r→w≠125:=hn;have hp: ∀w r,e.ws=w::r→g.pend=true→lg w=false→p=true:=hp;have hl:ln g+20<16000000:=by have:=R.u;unfold rM at this;exact lB this
 have ht:g.told.length<16000000:=R.td;have iu: ∀K (q:PQ),W K (g.sp e p pd lo)→q.rows=g.told.map bW→q.ai=true→fU q.bz g.b.ak→Dp 8 q.deep→ ∃σ,aq Su [P,.obj 15] (aP K (pos K g) q) (.ba σ)∧fM K (g.sp e p pd lo) σ:=λK q W hr ha hq D=>by
  have C:zP K (ln g) q e.ws p:=⟨⟨g.toks,DU E W,rfl⟩,hl,D,ha,by refine aa hr (aa (Wq ..) ?_);exact ht,hq.KI,RH hq R.iM,by exact aa hq.len R.lb⟩;obtain ⟨n1,q1,c,hr1,i,kk,u,e',l,hi,h⟩:=E.rd K (ln g) q p C;refine aa ((yM E hn hp C.x).2) ?_;rw [E.bk] at hi hr1;rw [←hi] at h;refine ⟨_,c,.mk (d0:=g.told) (nm:=e.nm) (a:=((3*(ln g+e.me)+1:Nat):Int)) (ws:=e.args.map .str) ?_ rfl h⟩;rw [hr1,hr];show _=(g.told++[_]).map bW;rw [List.map_append];rfl
 have D8: ∀{d},Dp (5*k+8) d→Dp 8 d:=λD=>D.le (by simp+arith);have xx: ∀K,W K (g.sp e p pd lo)→vI K (ln g) [] 0 (oa e.ws (ln g) p):=λK W=>by
  have z:=OZ (K:=K) (A:=g.toks) (R:=[]) (d:=0) hl rfl ⟨Int.le_refl 0,by decide⟩ (by decide) (og (ws:=e.ws) (n:=ln g) (p:=p));rw [←DU E W] at z;exact z
 refine ⟨_,c,⟨(G5 E hd hb).dW (by have:=rv on;exact lB this),(.vo:aT (7+3*k+1) kQ).le (by simp+arith),λK Z W=>(yM E hn hp (xx K W)).1,λK d Z W Z D=>⟨jN,λZ=>iu K (pq g d true) W rfl rfl (ph R.iM) (D8 D)⟩⟩,rfl,.bL (λZ=>rfl) (λK q d Z W h2 h3 h4 h5 h6=>⟨iu K q W h2 h4 h5 (h3▸D8 h6)⟩) λK Z W=>E.ll K _ _ _ _ (xx K W)⟩
end
noncomputable def lI (on r:Nat):Nat:=if on=0 then r else if on=1 then 8+r else ([15,7,12,1,0,15][r]?).getD 0
noncomputable def OY (deep:Int)(cl:Bool)(on:Nat):ao:=[(115,.val sV),(Vf,.val (.int deep)),(V2,.val (.bool cl)),(2037149295,.val (.au (zw on)))]
inductive QT (deep:Int)(cl:Bool)(on:Nat)(g:G):Prop
 |mk (m r:Nat) (hr:Dr g.bg m r) (h1:on=0→m=if 0<deep then 16 else 7) (h2:on=1→m=4) (h3:on=2→m=6) (e:eO Sy (iw 2) (OY deep cl on) (aF g.bg) (.next (OX deep cl on (lI on r)) (aF g.bg.nx)))
section
variable {n k r:Nat}{deep:Int}{l:List V}{v:V}
theorem kd (R:aj (n+1) g)(ho:on≤2):QT deep cl on g:=by
 have R:=mS R;rcases d3 (Nat.lt_succ_of_le ho) with h|h|h<;>subst h
 ·by_cases hd:0<deep
  ·obtain ⟨r,hr⟩:=ee R 16;exact ⟨16,r,hr,λZ=>(WE hd).symm,nofun,nofun,cD [.av (b:=false) rfl,.av (show decide (0<deep)=true from WA hd),.call hr.aB]⟩
  ·obtain ⟨r,hr⟩:=ee R 7;exact ⟨7,r,hr,λZ=>(WG hd).symm,nofun,nofun,cD [.av (b:=false) rfl,.av (show decide (0<deep)=false from Wz hd),.call hr.aB]⟩
 ·obtain ⟨r,hr⟩:=ee R 4;have hl:=hr.lt;refine ⟨4,r,hr,nofun,λZ=>rfl,nofun,?_⟩;have hn:ag (zw 1) (r:Int)=some (.int (lI 1 r:Int)):=by rcases d4 hl with h|h|h|h<;>subst h<;>rfl
  exact cD [.call hr.aB,.ag hn]
 ·obtain ⟨r,hr⟩:=ee R 6;have hl:=hr.lt;refine ⟨6,r,hr,nofun,nofun,λZ=>rfl,?_⟩;have hn:ag (zw 2) (r:Int)=some (.int (lI 2 r:Int)):=by rcases d6 hl with h|h|h|h|h|h<;>subst h<;>rfl
  exact cD [.call hr.aB,.ag hn]
theorem NP (h0: -1≤deep)(h1:deep<59):vN Sy (sV:: .int deep::l) σ:=⟨λh=>WK h (by decide),λZ=>⟨deep,rfl,h0,h1⟩,λh=>WK h (by decide)⟩
theorem G7 (hr:Dr g.bg m r)(e:aq Sy [sV,.int deep,.bool cl,.au (zw on)] (aF g) (.ok v (aF g')))(p:zR k cl b g.bg.nx g' v)(s:oG on cl g.bg.nx g')(hb:b=3060→zx r=3050)(hc:b≤zx r+DG on):Em k cl on deep g:=by
 have sb:aV 0 0 g g.bg:=⟨rfl,rfl,⟨[],(Wr _).symm⟩,Nat.le_refl _,λh=>⟨h,rfl,rfl⟩,λh=>⟨λh2=>Int.le_trans (h.1 h2) (show g.eF≤g.eF+1 by simp+arith),h.2⟩⟩;have s0:=sb.trans hr.af;refine ⟨v,g',e,⟨(s0.trans p.af).dW (lB hc),p.aI,λK hd W=>let z:=p.fH K hd W;⟨z.nt,z.ce,z.rt⟩,λK d hd W F D=>let z:=p.rd K d hd W F D;⟨z.ok,z.ex⟩⟩,?_,.st λK hd W F=>let z:=s K hd W F;⟨z.ex⟩⟩;cases p.sh with
 |no h=>exact .no h
 |var=>exact .var
 |ER h s hb'=>exact .ER h ((s0.trans s).dW (by have:=hb hb';exact lS this.symm))
end
section
variable {n k r:Nat}{deep:Int}{l:List V}{v:V}
theorem DP (h:r≠0):zx r=3050:=by cases r with|zero=>exact WK rfl h|succ r=>rfl
theorem Kk (h:on≠0):DG on=60:=by cases on with|zero=>exact WK rfl h|succ n=>rfl
theorem N7 (h:lI on 0=n)(ho:on≤2):on=0∧n=0∨on=1∧n=8∨on=2∧n=15:=by
 rcases d3 (Nat.lt_succ_of_le ho) with e|e|e<;>subst e<;>subst h
 ·exact .inl ⟨rfl,rfl⟩
 ·exact .inr (.inl ⟨rfl,rfl⟩)
 ·exact .inr (.inr ⟨rfl,rfl⟩)
theorem NB (SP:fm k):fm (k+1):=λdeep cl on g h1 h0 h2 h3 R=>by
 have hl:=R.bz;have G:vN Sy [sV,.int deep,.bool cl,.au (zw on)] (aF g):=NP h0 (by lia);by_cases hb:g.eF+1=g.c.cL
 ·obtain ⟨g',c,r,hd,l⟩:=Lc (k:=k+1) (cl:=cl) (on:=on) (R.aw) hb;exact ⟨kQ,g',iV [.av (show decide (g.eF+1=g.c.cL)=true from WA hb),.call c] G,r,.vo λZ=>hd,l⟩
 have t0:decide (g.eF+1=g.c.cL)=false:=Wz hb;obtain ⟨m,r,hr,e1,e2,e3,e⟩:=kd (deep:=deep) (cl:=cl) (R.aw:aj (1+1) g) h3;have Rg:aj (8*k+37) g.bg.nx:=(mS (R.aw (by exact Nat.le_refl _):aj (8*k+37+1) g)).sg hr.af;have hlt:=hr.lt;obtain ⟨kd,hk⟩: ∃kd,kd=lI on r:=⟨_,rfl⟩;rw [←hk] at e;have hr0:r=0→on=0∧kd=0∨on=1∧kd=8∨on=2∧kd=15:=λh=>by subst h;exact N7 hk.symm h3
 have h3':=d3 (Nat.lt_succ_of_le h3);have o0:on=0→kd<if 0<deep then 16 else 7:=λh=>by subst h;subst hk;exact Nat.lt_of_lt_of_eq hlt (e1 rfl)
 have o1:on=1→8≤kd∧kd<12:=λh=>by subst h;subst hk;exact ⟨Nat.le_add_right 8 r,Nat.add_lt_add_left (Nat.lt_of_lt_of_eq hlt (e2 rfl)) 8⟩
 have o2:on=2→kd=15∨kd=7∨kd=12∨kd=1∨kd=0:=λh=>by subst h;subst hk;exact (by decide+kernel: ∀r<6,lI 2 r=15∨lI 2 r=7∨lI 2 r=12∨lI 2 r=1∨lI 2 r=0) r (Nat.lt_of_lt_of_eq hlt (e3 rfl))
 have h2':on=0→ ¬0<deep→kd<7:=λh hd=>Nat.lt_of_lt_of_eq (o0 h) (WG hd);have hk16:kd<16:=by
  rcases h3' with h|h|h
  ·by_cases hd:0<deep
   ·exact Nat.lt_of_lt_of_eq (o0 h) (WE hd)
   ·exact Nat.lt_trans (h2' h hd) (by decide)
  ·exact Nat.lt_trans (o1 h).2 (by decide)
  ·rcases o2 h with h|h|h|h|h<;>exact h▸(by decide)
 have fin: ∀(b:Nat) (v:V) (g':Mine.G),aq Sy [sV,.int deep,.bool cl,.au (zw on)] (aF g) (.ok v (aF g'))→zR (k+1) cl b g.bg.nx g' v→oG on cl g.bg.nx g'→(b=60→r=0→on≠0)→(b=3060→r≠0)→(b=10∨b=60∨b=3060)→Em (k+1) cl on deep g:=λb v g' c p s c1 c2 c3=>
  G7 hr c p s (λh=>DP (c2 h)) (by
   have:=rv on;by_cases h:r=0
   ·rcases c3 with q|q|q
    ·exact lD (Nat.le_of_eq q) this
    ·have:=Kk (c1 q h);trace_state;lia
    ·exact WK h (c2 q)
   ·refine aa (DP h) ?_;rcases c3 with e|e|e<;>(trace_state;lia))
 by_cases h7:kd<7
 ·obtain ⟨v,g',c,p,s⟩:=plain (k:=k+1) (cl:=cl) (on:=on) h7 (Rg.aw) (by trace_state;lia) (λh=>by trace_state;lia) h3;refine fin _ v g' (iV [.av t0,.ifs e,.av (show decide ((kd:Int)<7)=true from WA (by exact Int.ofNat_lt.mpr h7)),.call c] G) p s ?_ ?_ ?_
  ·by_cases h:kd=0
   ·exact aa (WE h) nofun
   ·exact aa (WG h) nofun
  ·by_cases h:kd=0
   ·exact aa (WE h) nofun
   ·exact λZ e=>(hr0 e).elim (λq=>h q.2) λq=>q.elim (λq=>WK h7 (q.2▸by decide)) λq=>WK h7 (q.2▸by decide)
  ·by_cases h:kd=0
   ·exact aa (WE h) (.inl rfl)
   ·exact aa (WG h) (.inr (.inr rfl))
 obtain ⟨dp,hdp⟩: ∃dp,deep=dp+1:=⟨deep - 1,by simp+arith⟩;subst hdp;have k1:dp+2≤k:=by exact zB h1
 have k0: -1≤dp:=by
  rcases h3' with h|h|h
  ·have:0<dp+1:=Decidable.by_contra λhd=>h7 (h2' h hd);exact zB this
  ·have:=h2 (λq=>nomatch h.symm.trans q);exact zB this
  ·have:=h2 (λq=>nomatch h.symm.trans q);exact zB this
 have op:=mn dp;have r1:kd≠8→kd≠15→r≠0:=λa b h=>(hr0 h).elim (λq=>h7 (q.2▸by decide)) λq=>q.elim (λq=>a q.2) λq=>b q.2;rcases (by decide: ∀k<16,¬k<7→k=7∨k=8∨k=9∨k=10∨k=11∨k=12∨k=13∨k=14∨k=15) kd hk16 h7 with h|h|h|h|h|h|h|h|h<;>subst h
 ·obtain ⟨v,g',c,p,s⟩:=NV (cl:=cl) (on:=on) SP k1 k0 (Rg.aw) (λq=>WK (o1 q) (by decide)) h3;exact fin _ v g' (iV [.av t0,.ifs e,.av (b:=false) rfl,.ifs c] G) p s nofun (λZ=>r1 (by decide) (by decide)) (.inr (.inr rfl))
 ·obtain ⟨v,g',c,p,s⟩:=Sp (cl:=cl) (on:=on) SP k1 k0 (Rg.aw) (λq=>WK (o2 q) (by decide));exact fin _ v g' (iV [.av t0,.ifs e,.op op,.call c] G) p s (λZ h q=>by rw [q] at hr0;exact WK (hr0 h) (by decide)) nofun (.inr (.inl rfl))
 ·obtain ⟨v,g',c,p,s⟩:=Rb (cl:=cl) (on:=on) SP k1 k0 (Rg.aw) (λq=>WK (o2 q) (by decide));exact fin _ v g' (iV [.av t0,.ifs e,.op op,.call c] G) p s nofun (λZ=>r1 (by decide) (by decide)) (.inr (.inr rfl))
 ·obtain ⟨v,g',c,p,s⟩:=NK (cl:=cl) (on:=on) SP k1 k0 (Rg.aw) (λq=>WK (o2 q) (by decide));exact fin _ v g' (iV [.av t0,.ifs e,.op op,.call c] G) p s nofun (λZ=>r1 (by decide) (by decide)) (.inr (.inr rfl))
 ·obtain ⟨v,g',c,p,s⟩:=NG (cl:=cl) (on:=on) SP k1 k0 Rg (λq=>WK (o2 q) (by decide));exact fin _ v g' (iV [.av t0,.ifs e,.op op,.call c] G) p s nofun (λZ=>r1 (by decide) (by decide)) (.inr (.inr rfl))
 ·obtain ⟨v,g',c,p,s⟩:=Cd (cl:=cl) (on:=on) SP k1 k0 Rg (λq=>WK (o1 q) (by decide));exact fin _ v g' (iV [.av t0,.ifs e,.op op,.call c] G) p s nofun (λZ=>r1 (by decide) (by decide)) (.inr (.inr rfl))
 ·obtain ⟨v,g',c,p,s⟩:=Pe (cl:=cl) (on:=on) SP k1 k0 (Rg.aw) (h3'.resolve_right λq=>q.elim (λq=>WK (o1 q) (by decide)) λq=>WK (o2 q) (by decide));exact fin _ v g' (iV [.av t0,.ifs e,.op op,.call c] G) p s nofun (λZ=>r1 (by decide) (by decide)) (.inr (.inr rfl))
 ·have dp0:0≤dp:=by
   rcases h3' with h|h|h
   ·have:0<dp+1:=Decidable.by_contra λhd=>h7 (h2' h hd);exact zB this
   ·exact WK (o1 h) (by decide)
   ·exact WK (o2 h) (by decide)
  obtain ⟨v,g',c,p,s⟩:=Fw (cl:=cl) (on:=on) SP k1 dp0 (Rg.aw) (h3'.resolve_right λq=>q.elim (λq=>WK (o1 q) (by decide)) λq=>WK (o2 q) (by decide));exact fin _ v g' (iV [.av t0,.ifs e,.op op,.call c] G) p s nofun (λZ=>r1 (by decide) (by decide)) (.inr (.inr rfl))
 ·obtain ⟨v,g',c,p,s⟩:=Q5 (cl:=cl) (on:=on) SP k1 k0 (Rg.aw) (λq=>WK (o1 q) (by decide));exact fin _ v g' (iV [.av t0,.ifs e,.op op,.call c] G) p s (λZ h q=>by rw [q] at hr0;exact WK (hr0 h) (by decide)) nofun (.inr (.inl rfl))
theorem Lb: ∀k,fm k
 |0=>λdeep cl on g h1 h0=>WK h1 (by lia)
 |k+1=>NB (Lb k)
end
end Mine
end
noncomputable section
namespace Mine
open PySem PySem.W PySem.Calls PyProof.Rows PySem.SeqAt
noncomputable def AR:List Stmt:=dQ Sz
noncomputable def BL (n:Nat)(ρ:ao)(σ:St)(o:SO):Prop:= ∀C γ s,az C (bj Sz ρ σ)→FS C ρ σ γ s→wpAny (aC C) C.A (PySem.execs (AR.drop n) C.env) (aQ C γ o) (iW C o) s
section
variable {L:Lv}{sx:Sx}{C:Cx}{ρ ρ':ao}{σ σ':St}{γ:GS}{s:Shared}{o:SO}{l1 l2:List Stmt}{fs fs':List aD}{ks:Ks}{n m:Nat}
theorem rR (O:aK L)(H:az C sx)(k: ∀γ' s',FS C ρ' σ' γ' s'→wpAny (aC C) C.A (PySem.execs l2 C.env) (aQ C γ' o) (iW C o) s'): ∀{l1:List Stmt} {ρ:ao} {σ:St} {fs:List aD} {ks:Ks} {γ:GS} {s:Shared},oN L sx l1 ρ σ fs= .bM (.next ρ' σ') fs' ks→bN ks→FS C ρ σ γ s→wpAny (aC C) C.A (PySem.execs (l1++l2) C.env) (aQ C γ o) (iW C o) s
 |[],ρ,σ,fs,ks,γ,s,e,_,F=>by
  cases e;exact k γ s F
 |st::r,ρ,σ,fs,ks,γ,s,e,hk,F=>by
  have e:(ej L sx st ρ σ fs).then (oN L sx r)=_:=e;have z:=iS (st:=st) (fs:=fs) O H F;revert e z;cases ej L sx st ρ σ fs with
  |bC=>exact λe=>nomatch e
  |bM o1 fs1 k1=>
   cases o1 with
   |next ρ1 σ1=>
    intro e z;obtain ⟨q,e2,e3⟩:=gC e;subst e3;refine wpAny_execs_cons (wpAny_mono (z (bN.eU hk).1) (λf s1 q1=> ?_) λZ Z q=>nomatch q);cases q1 with
    |next q1=>
     obtain ⟨x,F1⟩:=q1;exact wpAny_mono (rR O H k e2 (bN.eU hk).2 F1) (λZ Z z=>z.ext x) λZ Z z=>z
   |brk _ _=>exact λe=>nomatch e
   |ew _ _=>exact λe=>nomatch e
   |ret _ _=>exact λe=>nomatch e
   |ba _ _=>exact λe=>nomatch e
theorem nT:bA Sz=(0,651):=by kernel_rfl
theorem yO (H:az C (bj Sz ρ σ)):az C (bj Sz ρ' σ'):=by
 have n: ∀D,nB Sz D .none=651:=λD=>by exact aa (uO (by rw [nT])) (aa nT rfl)
 have en: ∀ρ,HT Sz ρ= .none:=λρ=>by kernel_rfl
 have hn:(bj Sz ρ' σ').n=(bj Sz ρ σ).n:=by show nB Sz (wF σ') (HT Sz ρ')=nB Sz (wF σ) (HT Sz ρ);rw [en];refine aa (en ..) ?_;rw [n];exact aa (n ..) rfl
 obtain ⟨a1,a2,a3,a4,a5,a6,a7,a8,a9,a10,a11,a12,a13⟩:=H;exact ⟨a1,a2,a3,hn▸a4,hn▸a5,⟨λh=>WK h (by decide:(Sz:Nat)≠Sr),(λh=>WK (show eG Sz=true from h) (by decide+kernel)),λh=>WK h (by decide:(Sz:Nat)≠SA)⟩,a7,a8,a9,a10,a11,a12,a13⟩
theorem BL.run (m:Nat)(k:BL (n+m) ρ' σ' o)(e:ie ((lv 40).bl (bj Sz ρ σ) ((AR.drop n).take m) ρ σ fs)=ip (.next ρ' σ') ((lv 40).bl (bj Sz ρ σ) ((AR.drop n).take m) ρ σ fs)):BL n ρ σ o:=λC γ s H F=>by
 revert e;show ie (oN (lv 39) _ _ _ _ _)=ip _ (oN (lv 39) _ _ _ _ _)→_;cases hb:oN (lv 39) (bj Sz ρ σ) ((AR.drop n).take m) ρ σ fs with
 |bC=>exact λe=>no e
 |bM o1 fs1 k1=>
  intro e;have e:=cH e;have h1:o1= .next ρ' σ':=WJ (·.1) e;have h2:k1.map (·.1)=k1.map (·.2):=WJ (·.2) e;subst h1;have z:=rR (l2:=AR.drop (n+m)) (gT 39) H (λγ' s' F'=>k C γ' s' (yO H) F') hb (.of h2) F;rw [←List.drop_drop,List.take_append_drop] at z;exact z
theorem BL.ret (e:ie ((lv 40).bl (bj Sz ρ σ) (AR.drop n) ρ σ fs)=ip o ((lv 40).bl (bj Sz ρ σ) (AR.drop n) ρ σ fs)):BL n ρ σ o:=λC γ s H F=>by
 have z:=(gT 40).bl (l:=AR.drop n) (ρ:=ρ) (σ:=σ) (fs:=fs) H F;revert e z;cases (lv 40).bl (bj Sz ρ σ) (AR.drop n) ρ σ fs with
 |bC=>exact λe=>no e
 |bM o1 fs1 k1=>
  intro e z;have e:=cH e;have h1:o1=o:=WJ (·.1) e;have h2:k1.map (·.1)=k1.map (·.2):=WJ (·.2) e;exact h1▸z (.of h2)
end
noncomputable def Ey:Stmt→Expr
 | .Assign _ v _=>v
 |_=> .List [] default
noncomputable def xM:Expr:=Ey (eS Sz 0)
noncomputable def DV:Expr:=Ey (eS Sz 1)
noncomputable def vq:Expr:=(uh DV).2.headD DV
noncomputable def sP (l:List Int):ao:=[(Vb,.val (.list (l.map .int)))]
noncomputable def AS (l nums:List Int):ao:=[(Vb,.val (.list (l.map .int))),(1936553326,.val (.list (nums.map .int)))]
noncomputable def jb (l nums:List Int)(tot last:Int)(wanted:List V)(ex:ao):ao:=(Vb,.val (.list (l.map .int)))::(1936553326,.val (.list (nums.map .int)))::(465491488628,.val (.int tot))::(1953718636,.val (.int last))::(115,.val sV)::(110386907865463,.own wanted)::ex
noncomputable def jh (nums:List Int):Int:=nums.foldr (λn a=>n%4099+a) 0
noncomputable def g0 (nums:List Int)(jM func cL bL:Int):G:=⟨⟨nums,jM,func,cL,bL⟩,⟨0,0,0,[]⟩,0,[],[],false,false,false,0⟩
section
variable {l nums:List Int}{o:SO}
theorem qf: ∀nums:List Int,mD (nums.map λn=>V.int (n%4099))=some (jh nums)
 |[]=>rfl
 |n::r=>by
  show (mD (r.map λn=>V.int (n%4099))).map _=_;exact aa (qf r) rfl
theorem Ad (hl:l.length≤63):CT Sz (qC xM) (qD xM) (qE xM) (zr xM) (sP l) [] ((l.take 40).map .int) (sP l) []:=by
 have h:(l.map V.int).length<16000000:=by exact aa (Wq ..) (WD hl (by decide))
 have h2:((l.map V.int).take 40).length<16000000:=by refine aa List.length_take ?_;lia
 have z:CT Sz (qC xM) (qD xM) (qE xM) (zr xM) (sP l) [] (((l.map V.int).take 40).filterMap some) (sP l) []:=
  CT.map (v0:= .list ((l.map V.int).take 40)) (fs1:=[.lt h]) (k0:=[(.lt (l.map V.int).length,.lt (l.map V.int).length)]) (φ:=bQ (lv 40) (bj Sz (sP l) []) (qE xM) 110 (qD xM).ifs (qC xM)) h2 rfl (λZ Z=>rfl) (λfs=>by kernel_rfl) ⟨rfl,trivial⟩ λv hv=>⟨[],λZ h=>h,λfs=>⟨[],by kernel_rfl,trivial⟩⟩
 rw [List.filterMap_some,←List.map_take] at z;exact z
theorem EL (hlen:nums.length<16000000):CT Sz (qC vq) (qD vq) (qE vq) (zr vq) (AS l nums) [] (nums.map λn=> .int (n%4099)) (AS l nums) []:=by
 have z:CT Sz (qC vq) (qD vq) (qE vq) (zr vq) (AS l nums) [] ((nums.map V.int).filterMap λv=>match v with
  | .int n=>some (.int (n%4099))
  |v=>some v) (AS l nums) []:=
  CT.map (v0:= .list (nums.map V.int)) (fs1:=[]) (k0:=[]) (φ:=bQ (lv 40) (bj Sz (AS l nums) []) (qE vq) 110 (qD vq).ifs (qC vq)) (by exact aa (Wq ..) hlen) rfl (λZ h=>h) (λfs=>by kernel_rfl) trivial λv hv=>by
   obtain ⟨n,_,e⟩:=List.mem_map.mp hv;subst e;exact ⟨[.op (o:= .Mod) (a:=n) (b:=4099) (k:=n%4099) rfl],λZ Z=>rfl,λfs=>⟨[(.op .Mod n 4099,.op .Mod n 4099)],by kernel_rfl,rfl,trivial⟩⟩
 rw [List.filterMap_map,show ((λv=>match v with|V.int n=>some (V.int (n%4099))|v=>some v)∘V.int)=some∘λn:Int=>V.int (n%4099) from rfl,←List.filterMap_map,List.filterMap_some] at z;exact z
theorem Lf:DV= .Call (.Name (Str.ofString "sum") (uh DV).1.pos) [vq] [] DV.pos:=by kernel_rfl
theorem E2 (hlen:nums.length<16000000):ET Sz DV (AS l nums) [] (.v (.int (jh nums))) (AS l nums) []:=by
 have z:=Hc (p:=(uh DV).1.pos) (p2:=DV.pos) (Pp [.cmp (EL (l:=l) hlen)]:ET Sz vq (AS l nums) [] (.v (.list (nums.map λn=> .int (n%4099)))) (AS l nums) []) rfl (qf nums) (by kernel_rfl) (by decide) (by kernel_rfl);rw [←Lf] at z;exact z
inductive MX (l:List Int):Prop
 |mk (nums:List Int) (hn:nums.length≤40) (last jM func cL bL:Int) (s:0≤bL∧bL<36) (w:0≤cL) (k: ∀o,BL 13 (jb l nums (jh nums) last [] []) (aF (g0 nums jM func cL bL)) o→BL 0 (sP l) [] o)
theorem AM (hl:l.length≤63):MX l:=by
 have c1:=Ad hl;have hn:(l.take 40).length≤40:=by refine aa List.length_take ?_;lia
 revert c1 hn;generalize l.take 40=nums;intro c1 hn;have e2:=E2 (l:=l) (nums:=nums) (WD hn (by decide));have hlen:(nums.map V.int).length<16000000:=by exact aa (Wq ..) (WD hn (by decide))
 have iu: ∀(last:Int) (f:List aD),(∀(b1 b2:Bool),decide (jh nums%4=3)=b1→decide (last%3=1)=b2→ ∀o,BL 13 (jb l nums (jh nums) last [] []) (aF (g0 nums (jh nums%2048) (cond b1 0 1) (cond b2 (1+last / 3%4) 0) (last / 12%36))) o→BL 0 (sP l) [] o)→ ∃(last jM func cL bL:Int),(0≤bL∧bL<36)∧0≤cL∧(∀o,BL 13 (jb l nums (jh nums) last [] []) (aF (g0 nums jM func cL bL)) o→BL 0 (sP l) [] o):=λlast f h=>
  ⟨last,_,_,_,_,⟨by lia,by lia⟩,(by cases decide (last%3=1)<;>(show (0:Int)≤_;(first|exact Int.natCast_nonneg _|lia))),h _ _ rfl rfl⟩
 have iu: ∃(last jM func cL bL:Int),(0≤bL∧bL<36)∧0≤cL∧(∀o,BL 13 (jb l nums (jh nums) last [] []) (aF (g0 nums jM func cL bL)) o→BL 0 (sP l) [] o):=by
  cases hz:decide (0<((nums.map V.int).length:Int)) with
  |false=>
   refine iu 0 [] λb1 b2 t1 t2 o k=> ?_;cases b1<;>cases b2<;>exact .run 13 k (fs:=[.cmp c1,.se e2,.lt hlen,.av hz,.av t1,.av t2]) (by kernel_rfl)
  |true=>
   have hp:0<nums.length:=by have:=Wy hz;rw [Wq] at this;exact_mod_cast this
   obtain ⟨last,hla⟩: ∃last,ag (nums.map V.int) (-1)=some (.int last):=by
    unfold ag;refine aa (WG (by decide)) (aa (WE ⟨by rw [Wq];exact Int.ofNat_lt.mpr hp,by decide⟩) ?_);refine ⟨nums[nums.length - 1]'(by lia),?_⟩;exact aa (Wq ..) (aa (show ((nums.length:Int)+ -1).toNat=nums.length - 1 by lia) (aa (List.getElem?_map) (aa (List.getElem?_eq_getElem (by lia)) rfl)))
   refine iu last [] λb1 b2 t1 t2 o k=> ?_;cases b1<;>cases b2<;>exact .run 13 k (fs:=[.cmp c1,.se e2,.lt hlen,.av hz,.ag hla,.av t1,.av t2]) (by kernel_rfl)
 obtain ⟨last,jM,func,cL,bL,h1,h2,k⟩:=iu;exact ⟨nums,hn,last,jM,func,cL,bL,h1,h2,k⟩
end
end Mine
end
noncomputable section
namespace Mine
open PySem
noncomputable def NF:Stmt:=eS Sz 13
noncomputable def O5:Sx:=qG Sz (.none,.none) .none
noncomputable def Pq (l nums:List Int)(tot last:Int)(acc:List V)(g:G)(o:SO):Prop:=d9 O5 (eD NF) (dK NF) (jb l nums tot last acc []) (aF g) o
inductive MD (g g':G)(ws:List V):Prop
 |ky (h:g'.dead=false) (r:qx 5 g ws g')
 |dead (h:g'.dead=true) (v:V) (g1:G) (h1:g1.dead=false) (r:qx 5 g ws g1) (s:zS 5 false g1 g' v)
inductive QP (l nums:List Int)(tot last:Int)(n m:Nat)(acc:List V)(g:G):Prop
 |mk (g':G) (ws:List V) (hl:ws.length≤n) (R:aj m g') (D:MD g g' ws) (k:Pq l nums tot last acc g (.next (jb l nums tot last (acc++ws) []) (aF g')))
section
variable {l nums:List Int}{tot last:Int}{n m:Nat}{acc:List V}{g:G}
theorem Ai (hn:nums.length≤40): ∀(n:Nat) (g:G) (acc:List V),acc.length+n=8→g.c.nums=nums→g.dead=false→aj (70+n) g→QP l nums tot last n 60 acc g:=by
 intro n
 induction n with
 |zero=>
  intro g acc hl hg hd R;have ha:acc.length<16000000:=by exact lS hl
  have t1:decide ((acc.length:Int)<8)=false:=Wz (by lia);refine ⟨g,[],Nat.le_refl _,R.aw (by decide),.ky hd .nil,?_⟩;exact aa (Wr ..) (.brk (fs:=[.lt ha,.av t1]) [])
 |succ n ih=>
  intro g acc hl hg hd R;have ha:acc.length<16000000:=by exact lS hl
  have hnl:(nums.map V.int).length<16000000:=by exact aa (Wq ..) (WD hn (by decide))
  have t1:decide ((acc.length:Int)<8)=true:=WA (by lia);cases h3:decide ((g.next:Int)<((nums.map V.int).length:Int)+6) with
  |false=>
   refine ⟨g,[],Nat.zero_le _,R.aw,.ky hd .nil,?_⟩;exact aa (Wr ..) (.brk (fs:=[.lt ha,.av t1,.av hd,.lt hnl,.av h3]) [])
  |true=>
   obtain ⟨v,g1,e,r,_⟩:=Lb 5 3 false 0 g (by decide) (by decide) (λh=>WK rfl h) (by decide) (R.aw);have R1:aj (70+n) g1:=R.sg r.af;cases d1:g1.dead with
   |false=>
    obtain ⟨g',ws,h1,R',D,k⟩:=ih g1 (acc++[v]) (by refine aa Wo ?_;show _+1+_=_;exact lE hl) ((WJ GC.nums r.af.c).trans hg) d1 R1;rw [Wn] at k;refine ⟨g',v::ws,Nat.succ_le_succ h1,R',?_,k.b9 (fs:=[.lt ha,.av t1,.av hd,.lt hnl,.av h3,.call e,.av d1,.lt ha]) [(Tw,.val v)]⟩;cases D with
    |ky h h2=>exact .ky h (.cons r h2)
    |dead h w g2 h2 h3 h4=>exact .dead h w g2 h2 (.cons r h3) h4
   |true=>
    refine ⟨g1,[],Nat.zero_le _,R1.aw,.dead d1 v g hd .nil r,?_⟩;exact aa (Wr ..) ((d9.brk (fs:=[.lt ha,.av t1,.av d1]) []:Pq l nums tot last acc g1 _).b9 (fs:=[.lt ha,.av t1,.av hd,.lt hnl,.av h3,.call e,.av d1]) [(Tw,.val v)])
end
noncomputable def KG (g:G):PK:=⟨.gg g.toks,.gg g.told,.gg g.b.ak,match aF g with
 |_::_::_::d::_=>d
 |_=> .fN [],g.toks++[wH (ln g)],g.c.func⟩
noncomputable def q0:PQ:=⟨[],0,true,0,0,[]⟩
noncomputable def qF (got:List V)(st:Bool):ao:=[(112,.val P),(7630695,.own got),(28259031268160627,.val (.bool st))]
noncomputable def Pc:Stmt→List Stmt
 | .Try b _ _ _ _=>b
 |_=>[]
noncomputable def Mf:Stmt:=fC (Pc (eS Sz 20)) 0
noncomputable def O6 (d:Int):Sx:=qG Sz (.int d,.none) .none
noncomputable def MV (l nums:List Int)(tot last:Int)(ws got:List V)(σ:St)(o:SO):Prop:=d9 (O6 0) (eD Mf) (dK Mf) (jb l nums tot last ws (qF got false)) σ o
section
variable {l nums:List Int}{tot last:Int}{n:Nat}{ws acc vs:List V}{g g1 g':G}{K:PK}{o:SO}{d:Int}{v:V}
theorem qx.fH (r:qx 5 g vs g')(hd:g.dead=false)(W:W K g')(F:g'.dead=false→fT false K g'):fT false K g:=by
 cases r with
 |nil=>exact F hd
 |cons r t=>exact (r.fH K hd (t.af.w W)).lZ
theorem pP (r:qx 5 g vs g'): ∀acc:List V,acc.length+vs.length<100→g.dead=false→g'.dead=false→W K g'→fT false K g'→MV l nums tot last ws (acc++vs) (PS K 0 true g') o→MV l nums tot last ws acc (PS K 0 true g) o:=by
 induction r with
 |nil=>intro acc _ _ _ _ _ k;rw [Wr] at k;exact k
 | @cons g v g1 vs g' r rs ih=>
  intro acc hl hd hd' W F k;rw [List.length_cons] at hl;have d1:=rs.af.ky hd';have w1:=rs.af.w W;have hr:=(r.rd K 0 hd w1 (λh=>rs.fH h W λZ=>F) ⟨Int.le_refl 0,by decide⟩).ok d1;obtain ⟨x,hx,k',u,a,e,li,ex,t2⟩:=(r.fH K hd w1).Mm.nz;subst ex;have ha:acc.length<16000000:=by exact lB hl
  refine (ih (acc++[v]) (by refine aa Wo ?_;show _+1+_<_;exact lB hl) d1 hd' W F (by exact aa (Wn ..) k)).b9 (fs:=[.ag hx,.av t2,.call hr,.lt ha]) []
theorem MQ (h:ln g+1<16000000):W (KG g) g:=⟨by show (g.toks++[_]).length<_;refine aa Wo ?_;exact h,rfl,[],rfl,λZ=>rfl⟩
theorem vP (h:ln g+1<16000000):ag (KG g).T (ln g:Int)=some (wH (ln g)):=de (by show (g.toks++[_])[_]? =_;simp) (by show (g.toks++[_]).length<_;exact aa Wo h)
theorem vQ (h:ln g+1<16000000):pos (KG g) g=ln g:=rz (gj (vP h))
inductive PG (l nums:List Int)(tot last:Int)(ws:List V)(g:G):Prop
 |ky (h:g.dead=false) (k: ∀o,BL 21 (jb l nums tot last ws (qF ws false)) (aP (KG g) (ln g) (pq g 0 true)) o→BL 14 (jb l nums tot last ws []) (aF g) o)
 |dead (h:g.dead=true) (n:Nat) (q:PQ) (hr:q.rows=g.told.map bW) (d0:List V) (nm a:Int) (w:List V) (k:Nat) (u:N) (e:V) (li:Bool) (ht:g.told=d0++[.au [.int nm,.int a,.au w]]) (hn:ag (KG g).T (n:Int)=some (gp k u (.int a) e li))
  (k: ∀o,BL 21 (jb l nums tot last ws (qF ws true)) (aP (KG g) n q) o→BL 14 (jb l nums tot last ws []) (aF g) o)
theorem xt (hl:ln g+1<16000000)(k:BL 20 (jb l nums tot last ws (qF [] false)) (aP (KG g) 0 q0) o):BL 14 (jb l nums tot last ws []) (aF g) o:=by
 have h1:g.toks.length<16000000:=Nat.lt_of_succ_lt hl;have h3:(g.toks++[wH (ln g)]).length<16000000:=by exact aa Wo hl
 exact .run 6 k (fs:=[.lt h1,.lt hl,.lt h3]) (by kernel_rfl)
set_option tactic.hygienic true in
theorem xu {jM func cL vo:Int}(D:MD (g0 nums jM func cL vo) g ws)(hw:ws.length≤8)(hl:ln g+1<16000000):PG l nums tot last ws g:=by
 have w:=MQ hl;have he:=vP hl;have tL: ∀K,PS K 0 true (g0 nums jM func cL vo)=aP K 0 q0:=λK=>by
  unfold PS;exact aa (eR (g:=g0 nums jM func cL vo) rfl) rfl
 have F:fT false (KG g) g:=by
  refine ⟨?_,λZ=>⟨_,_,_,_,_,he,rfl⟩,_,_,_,_,_,he⟩;exact aa (vQ hl) ⟨_,_,_,_,_,he,rfl⟩
 cases D with
 |ky hd r=>
  have b:MV l nums tot last ws ([]++ws) (PS (KG g) 0 true g) (.next (jb l nums tot last ws (qF ws false)) (aP (KG g) (ln g) (pq g 0 true))):=by
   unfold PS;exact aa (vQ hl) (.brk (fs:=[.ag he]) [])
  have z:=pP r [] (by show 0+_<_;exact lB hw) rfl hd w F b;rw [tL] at z;exact .ky hd λo k=>xt hl (.run 1 k (fs:=[.eJ (d9.iw (f:=Sz) (st:=Mf) z)]) (by kernel_rfl))
 |dead hd v g1 h1 r s=>
  have w1:=s.af.w w;have fH:=s.fH (KG g) h1 w;have D:Dp (5*5+8) 0:=⟨Int.le_refl 0,by decide⟩;have y:=(s.rd (KG g) 0 h1 w (λh=>WK (hd.symm.trans h) (by decide)) D).ex hd;obtain ⟨σ,c,y⟩:=y;obtain ⟨hr,ht,hn⟩:=y;rename_i n q d0 nm a w' k u e li;obtain ⟨x,hx,k',u',a',e',li',ex,t2⟩:=fH.Mm.nz;subst ex;have z:=pP (l:=l) (nums:=nums) (tot:=tot) (last:=last) (ws:=ws) (o:= .ba (jb l nums tot last ws (qF ws false)) (aP (KG g) n q)) r [] (by show 0+_<_;lia) rfl h1 w1 fH.lZ (.last (o1:= .ba (jb l nums tot last ws (qF ws false)) (aP (KG g) n q)) (fs:=[.ag hx,.av t2,.call c]));rw [tL] at z;have s:=d9.iw (f:=Sz) (st:=Mf) z;have fin: ∀o,BL 21 (jb l nums tot last ws (qF ws true)) (aP (KG g) n q) o→BL 20 (jb l nums tot last ws (qF [] false)) (aP (KG g) 0 q0) o:=λo k2=> .run 1 k2 (fs:=[.eJ s]) (by kernel_rfl);exact PG.dead hd n q hr d0 nm a w' k u e li ht hn λo k2=>xt hl (fin o k2)
end
theorem mL {f:V→V→Option Bool}{p:V→Bool}(h: ∀v,p v=true→f v v=some true): ∀l:List V,l.all p=true→vC f l l=some true
 |[],_=>rfl
 |a::r,e=>by
  obtain ⟨h1,h2⟩:=Ws (show (p a&&r.all p)=true from e);show Hl (f a a) (vC f r r)=_;exact aa (h a h1) (aa (mL h r h2) rfl)
theorem mN {g:List V→List V→Option Bool}{d:List V→Bool}(h: ∀l,d l=true→g l l=some true): ∀v:V,ur d v=true→Cv g v v=some true
 | .none,_=>rfl
 | .bool b,_=>WJ some (WA rfl)
 | .int b,_=>WJ some (WA rfl)
 | .str b,_=>WJ some (WA rfl)
 | .au l,e=>h l e
 | .list l,e=>h l e
 | .aO _ _,e=>bK e
 | .obj _,e=>bK e
theorem mM: ∀(n:Nat) (v:V),bS n v=true→jB n v v=some true
 |0,v,e=>mN (d:=λZ=>false) (λZ e=>bK e) v e
 |n+1,v,e=>mN (d:=λl=>l.all (bS n)) (λl e=>mL (mM n) l e) v e
theorem mK {v:V}(h:bS 8 v=true):vB v v=some true:=by
 unfold vB;exact aa h (aa (mM 8 v h) rfl)
theorem wy {v:V}(h:bS 8 v=true):z9 .NotEq v v=some false:=WJ (Option.map not) (mK h)
theorem I6 {v:V}(h:bS 8 v=true):z9 .Eq v v=some true:=mK h
noncomputable def HO:Stmt:=eS SA 2
noncomputable def HM (v:V):ao:=[(120,.val v),(121,.val v)]
section
variable {v:V}{h k fl i n:Nat}{a:N}{kids:List V}{σ:St}
theorem za {l:List V}(h: ∀x∈l,fR x≤n):iU l≤n:=by
 induction l with
 |nil=>exact Nat.zero_le _
 |cons x r ih=>exact Nat.max_le.mpr ⟨h x (.head _),ih λy hy=>h y (.tail _ hy)⟩
theorem xG:fR (nd k a kids fl i)=iU kids+1:=by
 show max 0 (max 0 (max (iU kids) (max 0 (max 0 (max 0 0)))))+1=_
 simp+arith
theorem AE {x:V}(h:x∈kids):fR x≤iU kids:=by
 induction kids with
 |nil=>exact nomatch h
 |cons y r ih=>
  show _≤max (fR y) (iU r);rcases Wv h with e|e
  ·exact aa e (Nat.le_max_left ..)
  ·exact Nat.le_trans (ih e) (Nat.le_max_right ..)
theorem yZ (t:aT h v):fR v≤h:=by
 induction t with
 |none=>exact Nat.zero_le _
 |vo=>exact Nat.le_add_left 1 _
 |node t l ih=>exact aa xG (Nat.add_le_add_right (za ih) 1)
theorem kq (h:fR v≤200):vN SA [v,v] σ:=⟨λh=>WK h (by decide),(λh=>WK h (by decide+kernel)),λZ=>h⟩
theorem Bs (hl:kids.length≤8)(hc: ∀x∈kids,aq SA [x,x] σ (.ok (.bool true) σ))(n:Nat): ∀j,j+n=kids.length→eN (qG SA (wF σ) (nd k a kids fl i)) (λZ Z=>some (aX (kids.length:Int))) VC (dK HO) n j (HM (nd k a kids fl i)) σ (.next (HM (nd k a kids fl i)) σ):=by
 induction n with
 |zero=>exact λj hj=> .done rfl (by unfold aX;exact aa (Wq ..) (aa List.length_range hj.symm))
 |succ n ih=>
  intro j hj;have hlt:j<kids.length:=by exact lS hj
  have hv:(aX (kids.length:Int))[j]? =some (.int (j:Int)):=by
   unfold aX;exact aa (List.getElem?_map) (aa (List.getElem?_range (by show j<kids.length;exact hlt)) rfl)
  have hn:ag kids (j:Int)=some kids[j]:=de (List.getElem?_eq_getElem hlt) (WD hl (by decide));have hd:fR kids[j]<fR (nd k a kids fl i):=by exact aa xG (Nat.lt_succ_of_le (AE (List.getElem_mem hlt)))
  exact (ih (j+1) (lE hj)).b9 (fs:=[.ag hn,.ag hn,.Qd hd,.call (hc _ (List.getElem_mem hlt))]) rfl hv [(VC,.val (.int (j:Int)))]
theorem Bt (hl:kids.length<16000000)(T:(ao→St→Option (List V))→N→Nat→ao→St→List aD→TS):i5 (lv 40) (qG SA (wF σ) (nd k a kids fl i)) T (oo HO) (eD HO) (HM (nd k a kids fl i)) σ [.lt hl]=(T (λZ Z=>some (aX (kids.length:Int))) VC kids.length (HM (nd k a kids fl i)) σ []).pre [(.lt kids.length,.lt kids.length)]:=by
 have e:i5 (lv 40) (qG SA (wF σ) (nd k a kids fl i)) T (oo HO) (eD HO) (HM (nd k a kids fl i)) σ [.lt hl]=(sI (decide ((kids.length:Int).natAbs<16000000)) (T (λZ Z=>some (aX (kids.length:Int))) VC kids.length (HM (nd k a kids fl i)) σ [])).pre [(.lt kids.length,.lt kids.length)]:=by kernel_rfl
 exact aa e (aa (WA (show (kids.length:Int).natAbs<16000000 from hl)) rfl)
theorem Bu (t:aT h v):h≤200→ ∀σ,aq SA [v,v] σ (.ok (.bool true) σ):=by
 induction t with
 |none=>exact λZ σ=>iV [] (kq (Nat.zero_le _))
 |vo=>exact λZ σ=>iV [] (kq (by decide))
 | @node h k a kids fl i t l ih=>
  intro hh σ;have hl:kids.length<16000000:=by exact WD l (by decide)
  have f:=eN.iw (f:=SA) (st:=HO) (Bs (σ:=σ) (k:=k) (a:=a) (fl:=fl) (i:=i) l (λx hx=>ih x hx (Nat.le_of_lt hh) σ) kids.length 0 (Nat.zero_add _)) (Bt hl) ⟨rfl,trivial⟩;have q:z9 .NotEq (.au [.int (k:Int),.str a,.int (fl:Int),pv i,.int (kids.length:Int)]) (.au [.int (k:Int),.str a,.int (fl:Int),pv i,.int (kids.length:Int)])=some false:=wy rfl;exact iV [.lt hl,.lt hl,.qB q,.eJ f] (kq (Nat.le_trans (yZ (.node t l)) hh))
end
end Mine
end
noncomputable section
namespace Mine
open PySem PySem.W PySem.Calls PyProof.Rows PySem.SeqAt
variable {ws T:List V}{tot last:Int}{nums l:List Int}{n:Nat}{g:G}{q:PQ}
noncomputable def yX:Expr:=Ey (eS Sz 21)
noncomputable def RP:Expr→List Expr
 | .BoolOp _ l _=>l
 |_=>[]
noncomputable def Ri (l:List Expr)(i:Nat):Expr:=(l[i]?).getD (.List [] default)
noncomputable def Ra:Expr→Expr
 | .Compare a _ _ _=>a
 |_=> .List [] default
noncomputable def QG:Expr:=Ri (RP (LF (eS Sz 22))) 1
noncomputable def DS:Expr:=Ra QG
noncomputable def DT:Expr:=I0 QG
noncomputable def QA:Expr:=(uh DS).2.headD DS
noncomputable def QB:Expr:=(uh DT).2.headD DT
noncomputable def HL:Stmt:=eS Sz 23
noncomputable def Cs:V→V
 | .aO _ l=> .au (l.take 3)
 |v=>v
noncomputable def mh (l nums:List Int)(tot last:Int)(ws:List V)(d:Bool)(T:List V):ao:=jb l nums tot last ws (qF ws d++[(1684828020,.val (.list T))])
section
variable {d0:Int}{h:Nat}{qs:List V}{o:SO}{d:Bool}{σ:St}{x:V}
theorem y7 (h:oH x):bS 7 x=true:=by
 obtain ⟨m,a,ws,e,hw⟩:=h;subst e;have:ws.all (bS 5)=true:=List.all_eq_true.mpr λw h=>by
  have:=Wu hw w h;cases w with
  |str t=>rfl
  |_=>exact bK this
 show (true&&(true&&(ws.all (bS 5)&&true)))=true;exact aa this rfl
theorem y0:jf x=true↔oH x:=
 ⟨λh=>by obtain ⟨_,_,_,_,e,hw⟩:=gE h;exact ⟨_,_,_,e,hw⟩,λ⟨_,_,_,e,hw⟩=>by subst e;exact hw⟩
theorem Ae (ht: ∀x∈g.told,oH x)(hr:q.rows=g.told.map bW)(hl:g.told.length<16000000):CT Sz (qC yX) (qD yX) (qE yX) (zr yX) (jb l nums tot last ws (qF ws d)) (aP (KG g) n q) g.told (jb l nums tot last ws (qF ws d)) (aP (KG g) n q):=by
 have z:CT Sz (qC yX) (qD yX) (qE yX) (zr yX) (jb l nums tot last ws (qF ws d)) (aP (KG g) n q) (q.rows.filterMap λv=>some (Cs v)) (jb l nums tot last ws (qF ws d)) (aP (KG g) n q):=
  CT.map (v0:= .obj 5) (fs1:=[]) (k0:=[]) (φ:=bQ (lv 40) (bj Sz (jb l nums tot last ws (qF ws d)) (aP (KG g) n q)) (qE yX) 1734437220 (qD yX).ifs (qC yX)) (by exact aa hr (aa (Wq ..) hl)) rfl (λZ h=>h) (λfs=>by kernel_rfl) trivial λv hv=>by
   rw [hr] at hv;obtain ⟨x,hx,e⟩:=List.mem_map.mp hv;obtain ⟨m,a,w,e2,_⟩:=ht x hx;subst e2;subst e;have c:aq Tg [bW (.au [.int m,.int a,.au w])] (aP (KG g) n q) (.ok (.au [.int m,.int a,.au w]) (aP (KG g) n q)):=wk [];exact ⟨[.call c],λZ Z=>rfl,λfs=>⟨[(.call Tg [bW (.au [.int m,.int a,.au w])] (aP (KG g) n q),.call Tg [bW (.au [.int m,.int a,.au w])] (aP (KG g) n q))],by kernel_rfl,rfl,trivial⟩⟩
 have e:q.rows.filterMap (λv=>some (Cs v))=g.told:=by
  refine aa hr (aa List.filterMap_map (aa (show ((λv=>some (Cs v))∘bW)=some∘λx=>Cs (bW x) from rfl) (aa List.filterMap_eq_map ?_)));refine (List.map_congr_left (g:=id) λx hx=> ?_).trans (List.map_id _);obtain ⟨m,a,w,e,_⟩:=ht x hx;subst e;rfl
 rw [e] at z;exact z
theorem G1:DS= .Call (.Name (Str.ofString "sorted") (uh DS).1.pos) [QA] [] DS.pos:=by kernel_rfl
theorem G3:DT= .Call (.Name (Str.ofString "sorted") (uh DT).1.pos) [QB] [] DT.pos:=by kernel_rfl
theorem E0 (hq:Hd T=some qs):ET Sz DS (mh l nums tot last ws d T) σ (.v (.list qs)) (mh l nums tot last ws d T) σ:=by
 have z:=yN (p:=(uh DS).1.pos) (p2:=DS.pos) (Pp []:ET Sz QA (mh l nums tot last ws d T) σ (.v (.list T)) (mh l nums tot last ws d T) σ) rfl hq (by kernel_rfl) (by kernel_rfl);rw [←G1] at z;exact z
theorem E1 (hq:Hd g.told=some qs):ET Sz DT (mh l nums tot last ws d T) (aP (KG g) n q) (.v (.list qs)) (mh l nums tot last ws d T) (aP (KG g) n q):=by
 have z:=yN (p:=(uh DT).1.pos) (p2:=DT.pos) (Pp []:ET Sz QB (mh l nums tot last ws d T) (aP (KG g) n q) (.v (.obj 1)) (mh l nums tot last ws d T) (aP (KG g) n q)) rfl hq (by kernel_rfl) (by kernel_rfl);rw [←G3] at z;exact z
theorem K3 (hs: ∀x∈ws,aT h x)(hh:h≤200)(hl:ws.length<16000000)(n:Nat): ∀j,j+n=ws.length→eN (bj Sz (mh l nums tot last ws d T) σ) (λZ Z=>some (aX (ws.length:Int))) VC (dK HL) n j (mh l nums tot last ws d T) σ (.next (mh l nums tot last ws d T) σ):=by
 induction n with
 |zero=>exact λj hj=> .done rfl (by unfold aX;exact aa (Wq ..) (aa List.length_range hj.symm))
 |succ n ih=>
  intro j hj;have hlt:j<ws.length:=by exact lS hj
  have hv:(aX (ws.length:Int))[j]? =some (.int (j:Int)):=by
   unfold aX;exact aa (List.getElem?_map) (aa (List.getElem?_range (by show j<ws.length;exact hlt)) rfl)
  have hn:ag ws (j:Int)=some ws[j]:=de (List.getElem?_eq_getElem hlt) hl;exact (ih (j+1) (lE hj)).b9 (fs:=[.ag hn,.ag hn,.call (Bu (hs _ (List.getElem_mem hlt)) hh σ)]) rfl hv [(VC,.val (.int (j:Int)))]
theorem K4 (hl:ws.length<16000000)(T':(ao→St→Option (List V))→N→Nat→ao→St→List aD→TS):i5 (lv 40) (bj Sz (mh l nums tot last ws d T) σ) T' (oo HL) (eD HL) (mh l nums tot last ws d T) σ [.lt hl]=(T' (λZ Z=>some (aX (ws.length:Int))) VC ws.length (mh l nums tot last ws d T) σ []).pre [(.lt ws.length,.lt ws.length)]:=by
 have e:i5 (lv 40) (bj Sz (mh l nums tot last ws d T) σ) T' (oo HL) (eD HL) (mh l nums tot last ws d T) σ [.lt hl]=(sI (decide ((ws.length:Int).natAbs<16000000)) (T' (λZ Z=>some (aX (ws.length:Int))) VC ws.length (mh l nums tot last ws d T) σ [])).pre [(.lt ws.length,.lt ws.length)]:=by kernel_rfl
 exact aa e (aa (WA (show (ws.length:Int).natAbs<16000000 from hl)) rfl)
theorem sM (hd:g.dead=d)(ht: ∀x∈g.told,oH x)(hr:q.rows=g.told.map bW)(hl:g.told.length<64)(hw:ws.length≤8)(hs: ∀x∈ws,aT h x)(hh:h≤200)(k:BL 24 (mh l nums tot last ws d g.told) (aP (KG g) n q) o):BL 21 (jb l nums tot last ws (qF ws d)) (aP (KG g) n q) o:=by
 have ct:=Ae (l:=l) (nums:=nums) (tot:=tot) (last:=last) (ws:=ws) (d:=d) (n:=n) ht hr (Nat.lt_trans hl (by decide));obtain ⟨qs,hq,hb⟩:=yQ hl (List.all_eq_true.mpr λx hx=>y0.mpr (ht x hx));have hqd:bS 8 (.list qs)=true:=List.all_eq_true.mpr λx hx=>y7 (y0.mp (Wu hb x hx));have hl8:ws.length<16000000:=by exact WD hw (by decide)
 have e1:=E0 (l:=l) (nums:=nums) (tot:=tot) (last:=last) (ws:=ws) (d:=d) (σ:=aP (KG g) n q) hq;have e2:=E1 (l:=l) (nums:=nums) (tot:=tot) (last:=last) (ws:=ws) (d:=d) (T:=g.told) (n:=n) (q:=q) hq;have f:=eN.iw (f:=Sz) (st:=HL) (K3 (l:=l) (nums:=nums) (tot:=tot) (last:=last) (d:=d) (T:=g.told) (σ:=aP (KG g) n q) hs hh hl8 ws.length 0 (Nat.zero_add _)) (K4 hl8) ⟨rfl,trivial⟩;have t:(!decide ((ws.length:Int)=(ws.length:Int)))=false:=by exact aa (WA rfl) rfl
 subst hd;refine .run 3 k (fs:=[.cmp ct,.av (b:= !decide (g.dead=g.dead)) (c:=false) (by exact aa (WA rfl) rfl),.se e1,.se e2,.qB (wy hqd),.lt hl8,.lt hl8,.av t,.eJ f]) (by kernel_rfl)
end
section
variable {d0 nm a:Int}{h k:Nat}{w dl:List V}{o:SO}{d:Bool}{σ:St}{x e:V}{u:N}{li:Bool}
theorem wJ (hg:g.told=dl++[.au [.int nm,.int a,.au w]])(hl:g.told.length<64)(ht: ∀x∈g.told,oH x)(hn:ag (KG g).T (n:Int)=some (gp k u (.int a) e li)):BL 24 (mh l nums tot last ws true g.told) (aP (KG g) n q) (.ret (.bool true) (aP (KG g) n q)):=by
 have hL:ag g.told (-1)=some (.au [.int nm,.int a,.au w]):=by
  rw [hg] at hl⊢;exact pI (by rw [Wo] at hl;exact lB hl)
 have hr:oH (.au [.int nm,.int a,.au w]):=ht _ (by exact aa hg (WB _ (.head _)));have hd:bS 8 (.au [.int nm,.int a,.au w])=true:=by
  obtain ⟨m,b,ws,e,hw⟩:=hr;cases e;have:w.all (bS 6)=true:=List.all_eq_true.mpr λx h=>by
   have:=Wu hw x h;cases x with
   |str t=>rfl
   |_=>exact bK this
  show (true&&(true&&(w.all (bS 6)&&true)))=true;exact aa this rfl
 exact .ret (fs:=[.ag hL,.ag hL,.qB (I6 hd),.ag hn,.ag hL,.ag (l:=[.int nm,.int a,.au w]) (i:=1) (v:= .int a) rfl,.av (b:=decide (a=a)) (c:=true) (WA rfl)]) (by kernel_rfl)
end
noncomputable def HP (K:PK)(n:Nat)(q:PQ)(rows:List V)(nm:N)(i:Int):St:=aP K n q++[.ins VX [(Vs,.obj 17),(VH,.str 0)],.gg rows,
 .ins VD [(126917985136500,.list [gp 1 nm (.int 1) (.int 2) false,gp 5 58 (.int 4) (.int 5) false,gp 0 0 (.int 7) (.int 7) false]),(TP,.int i),(495655676260,.obj 16),(495874892144,.obj 19),(126943990278502,.obj 20),(495740084596,.obj 21),(495623108980,.obj 22),(Vf,.int 0),(29113321536775536,.au [.str 0,.int 0,.int 0]),(V1,.bool true),(27987473202114153,.int 1),(31647721741839977,.int 0),(Wf,.int 0),(VR,.obj 23),(28268922358689646,.bool false),(32195222481167730,.bool false),(V8,.int 0),(126935165726563,.list []),(126862284910435,.obj 24),(Wg,.obj 25),(126943822114931,.list []),(431198986611,.list [])],
 .fN [(.int 2,.aO SD []),(.int 1,.aO SD []),(.int 10,.aO SD [])],.fN [],.fN [],.fN [],.gg [],.fN [],.fN [],.fN []]
section
variable {f:Int}{R:List V}{nm:N}{K:PK}
theorem OK (hc:nm=97∨nm=S0∨nm=V4):aq Sr [.obj 18,.int 2] (HP K n q [] nm 0) (.ok (nd 8 nm [] 0 0) (HP K n q [] nm 1)):=by
 have G:vN Sr [.obj 18,.int 2] (HP K n q [] nm 0):=⟨λZ=>⟨0,by kernel_rfl,by decide,by decide⟩,(λh=>WK h (by decide)),λh=>WK h (by decide)⟩;rcases hc with e|e|e<;>subst e<;>exact iV [] G
theorem NL:aq Sw [.obj 18,.int 1005,.int 4,.au [.str 59]] (HP K n q [] nm 1) (.ba (HP K n q [oS 1005 (.int 4) [.str 59]] nm 1)):=
 j6 (n:=40) (fs:=[]) (i:=1005) (ρ0:=[(SN,.val (.obj 18)),(SM,.val (.int 1005)),(TP,.val (.int 4)),(VS,.val (.au [.str 59]))]) (ρ1:=[(SN,.val (.obj 18)),(SM,.val (.int 1005)),(TP,.val (.int 4)),(VS,.val (.au [.str 59]))]) (by kernel_rfl) (by kernel_rfl) (by kernel_rfl) (by decide)
theorem wI: ∃σ,BL 24 (mh l nums tot last ws false T) (aP (KG g) n ⟨R,0,true,0,0,[]⟩) (.ret (.bool true) σ):=by
 have lo:0≤tot%3:=Int.emod_nonneg _ (by decide);have hi:tot%3<3:=Int.emod_lt_of_pos _ (by decide);obtain ⟨nm,hn,hc⟩: ∃nm,ag [.str 97,.str S0,.str V4] (tot%3)=some (.str nm)∧(nm=97∨nm=S0∨nm=V4):=by
  rcases (by lia:tot%3=0∨tot%3=1∨tot%3=2) with h|h|h<;>refine aa h ?_
  ·exact ⟨_,rfl,.inl rfl⟩
  ·exact ⟨_,rfl,.inr (.inl rfl)⟩
  ·exact ⟨_,rfl,.inr (.inr rfl)⟩
 have c:z9 .NotEq (.au [.int 0,.int 0,.int 0,.int g.c.func,.int 0]) (.au [.int 0,.int 0,.int 0,.int g.c.func,.int 0])=some false:=wy rfl;have Q:=NL (K:=KG g) (n:=n) (q:=⟨R,0,true,0,0,[]⟩) (nm:=nm);have P:=OK (K:=KG g) (n:=n) (q:=⟨R,0,true,0,0,[]⟩) hc;refine ⟨HP (KG g) n ⟨R,0,true,0,0,[]⟩ [oS 1005 (.int 4) [.str 59]] nm 1,?_⟩;rcases hc with e|e|e<;>subst e<;>exact .ret (fs:=[.qB c,.ag hn,.call P,.call Q]) (by kernel_rfl)
end
end Mine
end
noncomputable section
namespace Mine
open PySem
theorem uu {g g':G}{ws:List V}(D:MD g g' ws)(hl:ws.length≤8):aV 0 90 g g'∧ ∀x∈ws,aT 23 x:=by
 cases D with
 |ky h r=>exact ⟨r.af.dW (by lia),r.aI⟩
 |dead h v g1 h1 r s=>exact ⟨(r.af.trans s.af).dW (by lia),r.aI⟩
theorem xr {l:List Int}(hl:l.length≤63): ∃σ,BL 0 (sP l) [] (.ret (.bool true) σ):=by
 obtain ⟨nums,hn,last,jM,func,cL,bL,hs,hw,k⟩:=AM hl;have R0:aj (70+8) (g0 nums jM func cL bL):=by
  refine ⟨WD hn (by decide),?_,(by decide:0+2*78≤1000),⟨bK,nofun⟩,hs,Int.le_refl 0,Int.le_refl 0,Int.le_refl 0,nofun⟩;have e:rM (g0 nums jM func cL bL)=0+3050*(max nums.length 8 - 0)+2000*0+2000:=rfl;have e2:3050*(max nums.length 8 - 0)≤3050*40:=Nat.mul_le_mul_left _ (Nat.max_le.mpr ⟨hn,by decide⟩);refine aa e ?_;revert e2;generalize 3050*(max nums.length 8 - 0)=z;intro e2;exact Nat.le_trans (Nat.add_le_add_right (Nat.add_le_add_right (Nat.add_le_add_right (Nat.add_le_add_left e2 0) _) _) _) (by decide)
 obtain ⟨g',ws,h8,R,D,kd⟩:=Ai (l:=l) (tot:=jh nums) (last:=last) hn 8 (g0 nums jM func cL bL) [] rfl rfl rfl R0;obtain ⟨sg,tr⟩:=uu D h8;have ht: ∀x∈g'.told,oH x:=R.iv.2;have htl:g'.told.length<64:=by
  have u:=sg.u;have e:rM (g0 nums jM func cL bL)=0+3050*(max nums.length 8 - 0)+2000*0+2000:=rfl;rw [e] at u;unfold rM at u;lia
 have hto:ln g'+1<16000000:=by have:=R.u;unfold rM at this;exact lB this
 have st:=d9.iw (f:=Sz) (st:=NF) kd;have st13: ∀o,BL 14 (jb l nums (jh nums) last ws []) (aF g') o→BL 13 (jb l nums (jh nums) last [] []) (aF (g0 nums jM func cL bL)) o:=λo k2=> .run 1 k2 (fs:=[.eJ st]) (by kernel_rfl);cases xu (l:=l) (nums:=nums) (tot:=jh nums) (last:=last) D h8 hto with
 |ky hd k2=>
  have e:pq g' 0 true=⟨g'.told.map bW,0,true,0,0,[]⟩:=by
   unfold pq;exact aa sg.bb rfl
  obtain ⟨σ,h24⟩:=wI (l:=l) (nums:=nums) (tot:=jh nums) (last:=last) (ws:=ws) (T:=g'.told) (g:=g') (n:=ln g') (R:=g'.told.map bW);rw [←e] at h24;exact ⟨σ,k _ (st13 _ (k2 _ (sM hd ht rfl htl h8 tr (by decide) h24)))⟩
 |dead hd n q hr dl nm a w k' u e li hg hn k2=>exact ⟨_,k _ (st13 _ (k2 _ (sM hd ht hr htl h8 tr (by decide) (wJ hg htl ht hn))))⟩
end Mine
end
noncomputable section
set_option maxRecDepth 100000
set_option maxHeartbeats 0
namespace MHead
open PySem PySem.W PySem.Calls PyProof.Rows
noncomputable abbrev pw:Program:=PySem.Challenge.pw_sa0398_01
noncomputable def vn:Value:= .none
noncomputable def vi (i:Int)(t:Nat):Value:= .int i t
noncomputable def vs (x:String)(t:Nat):Value:= .str (Str.ofString x) t
noncomputable def vr (a:Nat):Value:= .ref a
noncomputable def tu (l:List Value):Obj:={cls:= .type "tuple",data:= .seq ⟨l⟩}
noncomputable def fl (l:List Value):Obj:={cls:= .none,data:= .fields ⟨l⟩}
noncomputable def fd (c:String)(l:List Value):Obj:={cls:= .type c,data:= .fields ⟨l⟩}
noncomputable def co (l:List Value):Obj:={cls:= .type "code",data:= .fields ⟨l⟩}
noncomputable def pl (c:Value)(d:Option Addr)(l:List (Option Value)):Obj:={cls:=c,dict:=d,data:= .plain,slots:=⟨l⟩}
noncomputable def Jh (P:Params)(l:List (Str×Nat×Value)):List DictEntry:=l.map λe=>⟨PyData.keyHash P e.1,.str e.1 e.2.1,e.2.2⟩
noncomputable def di (P:Params)(c:Value)(d:Option Addr)(l:List (Str×Nat×Value))(n:Nat):Obj:={cls:=c,dict:=d,data:= .dict ⟨Jh P l⟩ n}
noncomputable def cl (c:Value)(d:Option Addr)(sl:List (Option Value))(name:String)(bases mro:List Value)(ns:Addr)(qual:String)(hd:Bool)(sub:List Value):Obj:=
 {cls:=c,dict:=d,data:= .cls {name:=Str.ofString name,bases,mro,ns,qualname:=Str.ofString qual,hasDict:=hd,subclasses:=sub},slots:=⟨sl⟩}
noncomputable def fC:List Stmt→Nat→Stmt
 |[],_=> .Pass default
 |s::_,0=>s
 |_::r,n+1=>fC r n
noncomputable def dt (i:Nat):Stmt:=fC pw.main.body i
noncomputable def mt (i j:Nat):Stmt:=match dt i with| .ClassDef _ _ _ b _ _ _ _ _ _ _=>fC b j|s=>s
noncomputable def dU (st:Stmt)(g:Addr)(dV kV doc md:Value)(an:Option Addr)(cd ct:Value)(b:Addr)(q:Str):FuncData:=match st with
 | .FunctionDef name args body _ _ _ scope _ _ _=>{name,qualname:=q,params:=args,body:= .stmts body,scope,globals:=g,closure:=[],defaults:=dV,kwdefaults:=kV,doc,pyModule:=md,annotations:=an,code:=cd,closureTuple:=ct,builtins:=b}
 |_=>default
noncomputable def fo (c:Value)(st:Stmt)(g:Addr)(dV kV doc md:Value)(an:Option Addr)(cd ct:Value)(b:Addr)(q:Str):Obj:={cls:=c,data:= .func (dU st g dV kV doc md an cd ct b q)}
noncomputable def DQ:List DictEntry→Nat→Value→List DictEntry
 |[],_,_=>[]
 |e::r,0,v=>{e with val:=v}::r
 |e::r,n+1,v=>e::DQ r n v
noncomputable def dg (P:Params)(rp:List (Nat×Value))(ap:List (Str×Nat×Value))(n:Nat):Obj→Obj
 |⟨c,d,.dict es _,s⟩=>⟨c,d,.dict ⟨rp.foldl (λl x=>DQ l x.1 x.2) es.toList++Jh P ap⟩ n,s⟩
 |o=>o
noncomputable def fg (ap:List Value):Obj→Obj
 |⟨c,d,.fields vs,s⟩=>⟨c,d,.fields ⟨vs.toList++ap⟩,s⟩
 |o=>o
noncomputable def dO:Nat→List Obj→BT→BT
 |_,[],t=>t
 |n,o::r,t=>dO (n+1) r (t.ins n o)
noncomputable def iL (n:Nat)(l:List (List Obj))(t:BT):BT:=dO n l.flatten t
noncomputable def m1:Value:=vs "__main__" 164
noncomputable def m2:Value:=vs "kindkeep.nodes" 194
noncomputable def m3:Value:=vs "kindkeep.diags" 343
noncomputable def m4:Value:=vs "kindkeep.scanner" 549
noncomputable def m5:Value:=vs "kindkeep.pcore" 604
noncomputable def m6:Value:=vs "kindkeep.pbody" 959
noncomputable def m7:Value:=vs "kindkeep.pfuncs" 1625
noncomputable def m8:Value:=vs "law_sa0398_01" 1708
noncomputable def QK:Nat→List Str→List Value
 |_,[]=>[]
 |t,x::r=> .str x t::QK (t+1) r
noncomputable def uz:Stmt→Str×Nat×Nat×List Str
 | .FunctionDef n a _ _ _ _ c _ _ p=>(n,p.line,a.args.length,(c.names.filter λx=>x.2== .local).map (·.1))
 |_=>default
noncomputable def F7 (q:Str)(t a:Nat)(st:Stmt)(md:Value):List Obj:=[tu [],fl [],tu (QK (t+3) (uz st).2.2.2),tu [],fo vn st 0 vn vn vn vn none vn vn 0 q,
 co [.str (uz st).1 t,.str q (t+1),vs "/claim/cut.py" (t+2),vi (uz st).2.1 0,vi (uz st).2.2.1 0,vi 0 0,vi 0 0,vi 3 0,vr a,.bool true,vi 181 0,vr (a+1),vn,vr (a+2),vr (a+3),vr (a+4),vi (t+3+(uz st).2.2.2.length) 0,vi (uz st).2.1 0,vs "/claim/cut.py" (t+4+(uz st).2.2.2.length)],
 fo (.type "function") st 3 vn vn vn md none (vr (a+5)) vn 0 q]
noncomputable def FE:Nat→Nat→Nat→Nat→List (Str×Nat×Value)→List (Str×Nat×Value)
 |0,_,_,_,r=>r
 |k+1,t,a,i,r=>((uz (dt i)).1,t+5+(uz (dt i)).2.2.2.length,vr (a+6))::FE k (t+6+(uz (dt i)).2.2.2.length) (a+7) (i+1) r
noncomputable def FG:Nat→Nat→Nat→List Value→List Value
 |0,_,_,r=>r
 |k+1,a,i,r=>vi (uz (dt i)).2.1 0::vi 0 0::vr (a+5)::FG k (a+7) (i+1) r
noncomputable def FR (md:Value):Nat→Nat→Nat→Nat→List Obj
 |0,_,_,_=>[]
 |k+1,t,a,i=>F7 (uz (dt i)).1 t a (dt i) md++FR md k (t+6+(uz (dt i)).2.2.2.length) (a+7) (i+1)
noncomputable def cB (n:String)(t l a:Nat):Obj:=co [vs n t,vs n (t+1),vs "/claim/cut.py" (t+2),vi l 0,vi 0 0,vi 0 0,vi 0 0,vi 0 0,vr a,.bool false,vi 181 0,vr (a+1),vn,vn,vn,vn,vi (t+3:Nat) 0,vi l 0,vs "/claim/cut.py" (t+4)]
noncomputable def fr (a b:Nat)(v:Value):Obj:=pl (.type "frame") none [some (vr a),some (vr 3),some (vr b),none,some v,none,some (vr 0)]
noncomputable def dC (t:Nat)(m:Value)(n:String)(l:Nat)(r:List (Str×Nat×Value)):List (Str×Nat×Value):=("__module__",t,m)::("__qualname__",t+2,vs n (t+1))::("__firstlineno__",t+4,vi l (t+3))::r
noncomputable def dD (t:Nat)(m:Value)(l:Nat)(r:List (Str×Nat×Value)):List (Str×Nat×Value):=("__module__",t,m)::("__firstlineno__",t+4,vi l (t+3))::r
noncomputable def gD (t a:Nat):Obj:=fd "getset_descriptor" [vs "__dict__" t,vr a,.builtin "function.__dict__",.builtin "function.__dict__#set"]
noncomputable def gW (t a:Nat):Obj:=fd "getset_descriptor" [vs "__weakref__" t,vr a,.builtin "ExceptionGroup.__weakref__",vn]
noncomputable def fS (a:Nat):Obj:=fd "super" [vr a,vr a,vr a]
noncomputable def fI (a:Nat):Obj:=fd "builtin_function_or_method" [.builtin "object.__init_subclass__",vr a]
noncomputable def fP:Obj:=fd "builtin_function_or_method" [.builtin "type.__prepare__",.type "type"]
noncomputable def cO (n:String)(a b r d:Nat):Obj:=cl (.type "type") none [none,none,some (vs n a),some (vs n b),some (.builtin "object.__new__"),some (.bool true)] n [.type "object"] [vr r,.type "object"] d n true []
noncomputable def iP:List (Nat×(Obj→Obj))→BT→BT
 |[],t=>t
 |x::r,t=>iP r (t.set x.1 x.2)
noncomputable def sh (T:BT)(n toks:Nat)(os:OsState):SharedT:=⟨T,n,{},#[],{},toks,os⟩
noncomputable def cE:Env:={scope:=pw.main.scope,locals:=mainNs,globals:=mainNs,cells:=[],code:=vr 13,frame:=some 14}
noncomputable def bx (a l:Nat):List Stmt:=((behindTheImports pw).drop a).take l
noncomputable def cM:Code:= .body (behindTheImports pw) cE
theorem dB: @segRunT=PySem.W.Fast.tw10110043849684766642:=PySem.W.Fast.te10110043849684766642
theorem fc:treeTable=PySem.W.Fast.tw14364793385576792824:=PySem.W.Fast.te14364793385576792824
noncomputable def T0 (P:Params):BT:=iL 0 [[boot_o_0 P,boot_o_1 P,boot_o_2 P,boot_o_3 P,boot_o_4 P,boot_o_5 P,boot_o_6 P,boot_o_7 P,boot_o_8 P,boot_o_9 P,boot_o_10 P,
 tu [],
 fl [],
 cB "<module>" 182 1 11,
 fr 13 3 (vs "__main__" 164)]] .nil
noncomputable def T1 (P:Params):BT:=iP [(2,(dg P [] [("type.__subclasses__.Exception.0",372,vi 88 0),("type.__subclasses__.Exception.n",373,vi 1 0)] 2)),(3,(dg P [(0,vs "kindkeep.diags" 343)] (("_wall",193,vr 21)::("K_NAME",197,vi 8 196)::("K_FUNC",199,vi 27 198)::("K_NONNULL",201,vi 32 200)::("K_PAREN",203,vi 33 202)::("K_OBJPAT",205,vi 34 204)::("K_ARRPAT",207,vi 35 206)::("K_BIND",209,vi 36 208)::("K_VAR",211,vi 41 210)::("K_DECL",213,vi 42 212)::("K_EXPRST",215,vi 43 214)::("K_IF",217,vi 44 216)::("K_WHILE",219,vi 45 218)::("K_DO",221,vi 46 220)::("K_FOR",223,vi 47 222)::("K_FOROF",225,vi 48 224)::("K_FORIN",227,vi 49 226)::("K_SWITCH",229,vi 50 228)::("K_CASE",231,vi 51 230)::("K_RETURN",233,vi 52 232)::("K_BREAK",235,vi 53 234)::("K_CONTINUE",237,vi 54 236)::("K_LABEL",239,vi 55 238)::("K_THROW",241,vi 56 240)::("K_TRY",243,vi 57 242)::("K_CATCH",245,vi 58 244)::("K_BLOCK",247,vi 59 246)::("K_EMPTY",249,vi 60 248)::("K_CLASS",251,vi 61 250)::("K_INTERFACE",253,vi 64 252)::("K_ALIAS",255,vi 65 254)::("K_ENUM",257,vi 66 256)::("F_REST",259,vi 8192 258)::("F_BANG",261,vi 2097152 260)::("F_AMBIENT",263,vi 4194304 262)::("Node",301,vr 38)::FE 4 302 43 37 [("KeepError",375,vr 88)]) 50)),(12,(fg (vi 1 0::vi 0 0::vr 20::vi 39 0::vi 0 0::vr 27::FG 4 43 37 [vi 73 0,vi 0 0,vr 76])))] (iL 15 [F7 "_wall" 187 15 (dt 0) m1,
 [tu [],
 fP,
 di P (.type "dict") none (dC 271 (vs "kindkeep.nodes" 194) "Node" 39 [("__init__",287,vr 35),("__static_attributes__",294,vr 36)]) 5,
 tu [],
 fl [vi 41 0,vi 4 0,vr 34],
 cB "Node" 266 39 25,
 fr 27 24 (vs "kindkeep.nodes" 194)],
 F7 "Node.__init__" 276 29 (mt 36 0) m2,
 [tu [vs "a" 288,vs "at" 289,vs "flags" 290,vs "kids" 291,vs "kind" 292,vs "nid" 293],
 di P (.type "dict") none (dD 271 (vs "kindkeep.nodes" 194) 39 [("__init__",287,vr 35),("__static_attributes__",294,vr 36),("__dict__",296,vr 39),("__weakref__",298,vr 40),("__doc__",299,vn)]) 4,
 cO "Node" 264 272 38 37,
 gD 295 38,
 gW 297 38,
 fS 38,
 fI 38],
 FR m2 4 302 43 37,
 [tu [(.type "Exception")],
 fP,
 di P (.type "dict") none (dC 352 (vs "kindkeep.diags" 343) "KeepError" 73 [("__init__",365,vr 85),("__static_attributes__",368,vr 86)]) 5,
 tu [],
 fl [vi 75 0,vi 4 0,vr 84],
 cB "KeepError" 347 73 74,
 fr 76 73 (vs "kindkeep.diags" 343),
 tu [vs "" 357],
 tu [],
 fl [],
 tu [vs "self" 361,vs "text" 362],
 tu [],
 fo vn (mt 42 0) 0 vn vn vn vn none vn vn 0 "KeepError.__init__",
 co [vs "__init__" 358,vs "KeepError.__init__" 359,vs "/claim/cut.py" 360,vi 75 0,vi 2 0,vi 0 0,vi 0 0,vi 3 0,vr 79,(.bool true),vi 181 0,vr 80,vn,vr 81,vr 82,vr 83,vi 363 0,vi 75 0,vs "/claim/cut.py" 364],
 fo (.type "function") (mt 42 0) 3 (vr 78) vn vn (vs "kindkeep.diags" 343) none (vr 84) vn 0 "KeepError.__init__",
 tu [vs "number" 366,vs "text" 367],
 di P (.type "dict") none (dD 352 (vs "kindkeep.diags" 343) 73 [("__init__",365,vr 85),("__static_attributes__",368,vr 86),("__weakref__",370,vr 89),("__doc__",371,vn)]) 3,
 cl (.type "type") none [some (vr 71),none,some (vs "KeepError" 345),some (vs "KeepError" 353),some (.builtin "Exception.__new__"),some (.bool true)] "KeepError" [(.type "Exception")] [vr 88,(.type "Exception"),(.type "BaseException"),(.type "object")] 87 "KeepError" true [],
 gW 369 88,
 fS 88,
 fI 88]] (T0 P))
theorem RU (w:World):(λos=>segRunT treeTable pw w 11 (some (.ref 6)) 1 945 (sh (T0 w.params) 15 187 os) (piecesOf (bx 0 43) cE cM ⟨0,0,0,0⟩ [topFrame ⟨0,0,0,0⟩]))=λos=>some (.next,sh (T1 w.params) 92 376 os,cM,⟨73,0,77,24⟩):=by rw [dB,fc];kernel_rfl
noncomputable def T2 (P:Params):BT:=iP [(3,(dg P [] [("TooDeep",404,vr 109),("ParseStop",431,vr 129),("HostFault",458,vr 149)] 53)),(12,(fg [vi 78 0,vi 0 0,vr 97,vi 83 0,vi 0 0,vr 117,vi 88 0,vi 0 0,vr 137])),(88,(λ_=>cl (.type "type") none [some (vr 71),none,some (vs "KeepError" 345),some (vs "KeepError" 353),some (.builtin "Exception.__new__"),some (.bool true)] "KeepError" [(.type "Exception")] [vr 88,(.type "Exception"),(.type "BaseException"),(.type "object")] 87 "KeepError" true [vr 109,vr 129,vr 149]))] (iL 92 [[tu [vr 88],
 fP,
 di P (.type "dict") none (dC 383 (vs "kindkeep.diags" 343) "TooDeep" 78 [("__init__",398,vr 106),("__static_attributes__",401,vr 107)]) 5,
 tu [],
 fl [vi 80 0,vi 4 0,vr 105],
 cB "TooDeep" 378 78 95,
 fr 97 94 (vs "kindkeep.diags" 343),
 tu [vi 2589 388,vs "" 389],
 tu [],
 fl [],
 tu [vs "self" 393,vs "number" 394,vs "text" 395],
 tu [],
 fo vn (mt 43 0) 0 vn vn vn vn none vn vn 0 "TooDeep.__init__",
 co [vs "__init__" 390,vs "TooDeep.__init__" 391,vs "/claim/cut.py" 392,vi 80 0,vi 3 0,vi 0 0,vi 0 0,vi 3 0,vr 100,(.bool true),vi 181 0,vr 101,vn,vr 102,vr 103,vr 104,vi 396 0,vi 80 0,vs "/claim/cut.py" 397],
 fo (.type "function") (mt 43 0) 3 (vr 99) vn vn (vs "kindkeep.diags" 343) none (vr 105) vn 0 "TooDeep.__init__",
 tu [vs "number" 399,vs "text" 400],
 di P (.type "dict") none (dD 383 (vs "kindkeep.diags" 343) 78 [("__init__",398,vr 106),("__static_attributes__",401,vr 107),("__doc__",402,vn)]) 2,
 cl (.type "type") none [some (vr 92),none,some (vs "TooDeep" 376),some (vs "TooDeep" 384),some (.builtin "Exception.__new__"),some (.bool true)] "TooDeep" [vr 88] [vr 109,vr 88,(.type "Exception"),(.type "BaseException"),(.type "object")] 108 "TooDeep" true [],
 fS 109,
 fI 109,
 tu [vr 88],
 fP,
 di P (.type "dict") none (dC 412 (vs "kindkeep.diags" 343) "ParseStop" 83 [("__init__",425,vr 126),("__static_attributes__",428,vr 127)]) 5,
 tu [],
 fl [vi 85 0,vi 4 0,vr 125],
 cB "ParseStop" 407 83 115,
 fr 117 114 (vs "kindkeep.diags" 343),
 tu [vs "" 417],
 tu [],
 fl [],
 tu [vs "self" 421,vs "text" 422],
 tu [],
 fo vn (mt 44 0) 0 vn vn vn vn none vn vn 0 "ParseStop.__init__",
 co [vs "__init__" 418,vs "ParseStop.__init__" 419,vs "/claim/cut.py" 420,vi 85 0,vi 2 0,vi 0 0,vi 0 0,vi 3 0,vr 120,(.bool true),vi 181 0,vr 121,vn,vr 122,vr 123,vr 124,vi 423 0,vi 85 0,vs "/claim/cut.py" 424],
 fo (.type "function") (mt 44 0) 3 (vr 119) vn vn (vs "kindkeep.diags" 343) none (vr 125) vn 0 "ParseStop.__init__",
 tu [vs "number" 426,vs "text" 427],
 di P (.type "dict") none (dD 412 (vs "kindkeep.diags" 343) 83 [("__init__",425,vr 126),("__static_attributes__",428,vr 127),("__doc__",429,vn)]) 2,
 cl (.type "type") none [some (vr 112),none,some (vs "ParseStop" 405),some (vs "ParseStop" 413),some (.builtin "Exception.__new__"),some (.bool true)] "ParseStop" [vr 88] [vr 129,vr 88,(.type "Exception"),(.type "BaseException"),(.type "object")] 128 "ParseStop" true [],
 fS 129,
 fI 129,
 tu [vr 88],
 fP,
 di P (.type "dict") none (dC 439 (vs "kindkeep.diags" 343) "HostFault" 88 [("__init__",452,vr 146),("__static_attributes__",455,vr 147)]) 5,
 tu [],
 fl [vi 90 0,vi 4 0,vr 145],
 cB "HostFault" 434 88 135,
 fr 137 134 (vs "kindkeep.diags" 343),
 tu [vs "" 444],
 tu [],
 fl [],
 tu [vs "self" 448,vs "text" 449],
 tu [],
 fo vn (mt 45 0) 0 vn vn vn vn none vn vn 0 "HostFault.__init__",
 co [vs "__init__" 445,vs "HostFault.__init__" 446,vs "/claim/cut.py" 447,vi 90 0,vi 2 0,vi 0 0,vi 0 0,vi 3 0,vr 140,(.bool true),vi 181 0,vr 141,vn,vr 142,vr 143,vr 144,vi 450 0,vi 90 0,vs "/claim/cut.py" 451],
 fo (.type "function") (mt 45 0) 3 (vr 139) vn vn (vs "kindkeep.diags" 343) none (vr 145) vn 0 "HostFault.__init__",
 tu [vs "number" 453,vs "text" 454],
 di P (.type "dict") none (dD 439 (vs "kindkeep.diags" 343) 88 [("__init__",452,vr 146),("__static_attributes__",455,vr 147),("__doc__",456,vn)]) 2,
 cl (.type "type") none [some (vr 132),none,some (vs "HostFault" 432),some (vs "HostFault" 440),some (.builtin "Exception.__new__"),some (.bool true)] "HostFault" [vr 88] [vr 149,vr 88,(.type "Exception"),(.type "BaseException"),(.type "object")] 148 "HostFault" true [],
 fS 149,
 fI 149]] (T1 P))
theorem RV (w:World):(λos=>segRunT treeTable pw w 11 (some (.ref 6)) 1 747 (sh (T1 w.params) 92 376 os) (piecesOf (bx 43 3) cE cM ⟨73,0,77,24⟩ [topFrame ⟨0,0,0,0⟩]))=λos=>some (.next,sh (T2 w.params) 152 459 os,cM,⟨88,0,92,24⟩):=by rw [dB,fc];kernel_rfl
noncomputable def T3 (P:Params):BT:=iP [(3,(dg P [(0,vs "kindkeep.pcore" 604)] [("Diag",500,vr 175),("Diags",548,vr 211),("T_END",552,vi 0 551),("T_NAME",554,vi 1 553),("T_WORD",556,vi 2 555),("T_NUM",558,vi 3 557),("T_STR",560,vi 4 559),("T_SIGN",562,vi 5 561),("T_TPL_WHOLE",564,vi 6 563),("Token",603,vr 232),("MAX_DEEP",607,vi 40 606),("MAX_HEIGHT",609,vi 160 608),("PART_TYPE",611,vi 1 610),("PART_EXPR",613,vi 2 612),("PART_STMT",615,vi 3 614),("PART_BLOCK",617,vi 4 616),("PART_FUNC",619,vi 5 618),("PART_CLASS",621,vi 6 620),("PART_PATTERN",623,vi 10 622),("OWN_PARTS",624,vr 237)] 73)),(12,(fg [vi 93 0,vi 0 0,vr 157,vi 103 0,vi 0 0,vr 185,vi 122 0,vi 0 0,vr 221]))] (iL 152 [[tu [],
 fP,
 di P (.type "dict") none (dC 466 (vs "kindkeep.diags" 343) "Diag" 93 [("__init__",481,vr 165),("row",488,vr 172),("__static_attributes__",493,vr 173)]) 6,
 tu [],
 fl [vi 95 0,vi 4 0,vr 164,vi 101 0,vi 4 0,vr 171],
 cB "Diag" 461 93 155,
 fr 157 154 (vs "kindkeep.diags" 343)],
 F7 "Diag.__init__" 471 159 (mt 46 0) m3,
 F7 "Diag.row" 482 166 (mt 46 1) m3,
 [tu [vs "args" 489,vs "at" 490,vs "file" 491,vs "number" 492],
 di P (.type "dict") none (dD 466 (vs "kindkeep.diags" 343) 93 [("__init__",481,vr 165),("row",488,vr 172),("__static_attributes__",493,vr 173),("__dict__",495,vr 176),("__weakref__",497,vr 177),("__doc__",498,vn)]) 4,
 cO "Diag" 459 467 175 174,
 gD 494 175,
 gW 496 175,
 fS 175,
 fI 175,
 tu [],
 fP,
 di P (.type "dict") none (dC 508 (vs "kindkeep.diags" 343) "Diags" 103 [("__init__",521,vr 194),("put",531,vr 201),("numbers",538,vr 208),("__static_attributes__",541,vr 209)]) 7,
 tu [],
 fl [vi 105 0,vi 4 0,vr 193,vi 109 0,vi 4 0,vr 200,vi 112 0,vi 4 0,vr 207],
 cB "Diags" 503 103 183,
 fr 185 182 (vs "kindkeep.diags" 343),
 tu [vs "" 513],
 tu [],
 fl [],
 tu [vs "self" 517,vs "file" 518],
 tu [],
 fo vn (mt 47 0) 0 vn vn vn vn none vn vn 0 "Diags.__init__",
 co [vs "__init__" 514,vs "Diags.__init__" 515,vs "/claim/cut.py" 516,vi 105 0,vi 2 0,vi 0 0,vi 0 0,vi 3 0,vr 188,(.bool true),vi 181 0,vr 189,vn,vr 190,vr 191,vr 192,vi 519 0,vi 105 0,vs "/claim/cut.py" 520],
 fo (.type "function") (mt 47 0) 3 (vr 187) vn vn (vs "kindkeep.diags" 343) none (vr 193) vn 0 "Diags.__init__"],
 F7 "Diags.put" 522 195 (mt 47 1) m3,
 F7 "Diags.numbers" 532 202 (mt 47 2) m3,
 [tu [vs "file" 539,vs "rows" 540],
 di P (.type "dict") none (dD 508 (vs "kindkeep.diags" 343) 103 [("__init__",521,vr 194),("put",531,vr 201),("numbers",538,vr 208),("__static_attributes__",541,vr 209),("__dict__",543,vr 212),("__weakref__",545,vr 213),("__doc__",546,vn)]) 4,
 cO "Diags" 501 509 211 210,
 gD 542 211,
 gW 544 211,
 fS 211,
 fI 211,
 tu [],
 fP,
 di P (.type "dict") none (dC 572 (vs "kindkeep.scanner" 549) "Token" 122 [("__init__",589,vr 229),("__static_attributes__",596,vr 230)]) 5,
 tu [],
 fl [vi 124 0,vi 4 0,vr 228],
 cB "Token" 567 122 219,
 fr 221 218 (vs "kindkeep.scanner" 549)],
 F7 "Token.__init__" 577 223 (mt 56 0) m4,
 [tu [vs "at" 590,vs "end" 591,vs "kind" 592,vs "line_before" 593,vs "num" 594,vs "text" 595],
 di P (.type "dict") none (dD 572 (vs "kindkeep.scanner" 549) 122 [("__init__",589,vr 229),("__static_attributes__",596,vr 230),("__dict__",598,vr 233),("__weakref__",600,vr 234),("__doc__",601,vn)]) 4,
 cO "Token" 565 573 232 231,
 gD 597 232,
 gW 599 232,
 fS 232,
 fI 232,
 tu [vi 3 614,vi 4 616,vi 5 618,vi 6 620]]] (T2 P))
theorem RW (w:World):(λos=>segRunT treeTable pw w 11 (some (.ref 6)) 1 962 (sh (T2 w.params) 152 459 os) (piecesOf (bx 46 22) cE cM ⟨88,0,92,24⟩ [topFrame ⟨0,0,0,0⟩]))=λos=>some (.next,sh (T3 w.params) 238 625 os,cM,⟨141,0,141,9⟩):=by rw [dB,fc];kernel_rfl
noncomputable def T4 (P:Params):BT:=iP [(3,(dg P [] [("Part",652,vr 254)] 74)),(12,(fg [vi 142 0,vi 0 0,vr 243]))] (iL 238 [[tu [],
 fP,
 di P (.type "dict") none (dC 632 (vs "kindkeep.pcore" 604) "Part" 142 [("parse",644,vr 251),("__static_attributes__",645,vr 252)]) 5,
 tu [],
 fl [vi 144 0,vi 4 0,vr 250],
 cB "Part" 627 142 241,
 fr 243 240 (vs "kindkeep.pcore" 604)],
 F7 "Part.parse" 637 245 (mt 68 0) m5,
 [tu [],
 di P (.type "dict") none (dD 632 (vs "kindkeep.pcore" 604) 142 [("parse",644,vr 251),("__static_attributes__",645,vr 252),("__dict__",647,vr 255),("__weakref__",649,vr 256),("__doc__",650,vn)]) 4,
 cO "Part" 625 633 254 253,
 gD 646 254,
 gW 648 254,
 fS 254,
 fI 254]] (T3 P))
theorem RX (w:World):(λos=>segRunT treeTable pw w 11 (some (.ref 6)) 1 222 (sh (T3 w.params) 238 625 os) (piecesOf (bx 68 1) cE cM ⟨141,0,141,9⟩ [topFrame ⟨0,0,0,0⟩]))=λos=>some (.next,sh (T4 w.params) 259 653 os,cM,⟨142,0,145,60⟩):=by rw [dB,fc];kernel_rfl
noncomputable def T5 (P:Params):BT:=iP [(3,(dg P [] [("Parser",892,vr 443)] 75)),(12,(fg [vi 146 0,vi 0 0,vr 264]))] (iL 259 [[tu [],
 fP,
 di P (.type "dict") none (dC 660 (vs "kindkeep.pcore" 604) "Parser" 146 [("__init__",673,vr 272),("now",680,vr 279),("ahead",689,vr 286),("step",697,vr 293),("is_sign",705,vr 300),("is_word",713,vr 307),("is_name",721,vr 314),("eat_sign",729,vr 321),("eat_word",737,vr 328),("eat_name",745,vr 335),("need_sign",753,vr 342),("need_word",761,vr 349),("need_name",768,vr 356),("prop_name",775,vr 363),("member_name",782,vr 370),("fault",791,vr 377),("fault_at",801,vr 384),("can_end",809,vr 391),("end_statement",816,vr 398),("down",823,vr 405),("up",830,vr 412),("part",839,vr 419),("mark",846,vr 426),("back",854,vr 433),("keep",862,vr 440),("__static_attributes__",885,vr 441)]) 29,
 tu [],
 fl [vi 148 0,vi 4 0,vr 271,vi 172 0,vi 4 0,vr 278,vi 175 0,vi 4 0,vr 285,vi 181 0,vi 4 0,vr 292,vi 187 0,vi 4 0,vr 299,vi 190 0,vi 4 0,vr 306,vi 193 0,vi 4 0,vr 313,vi 196 0,vi 4 0,vr 320,vi 199 0,vi 4 0,vr 327,vi 202 0,vi 4 0,vr 334,vi 205 0,vi 4 0,vr 341,vi 209 0,vi 4 0,vr 348,vi 213 0,vi 4 0,vr 355,vi 218 0,vi 4 0,vr 362,vi 221 0,vi 4 0,vr 369,vi 224 0,vi 4 0,vr 376,vi 227 0,vi 4 0,vr 383,vi 231 0,vi 4 0,vr 390,vi 237 0,vi 4 0,vr 397,vi 241 0,vi 4 0,vr 404,vi 247 0,vi 4 0,vr 411,vi 250 0,vi 4 0,vr 418,vi 263 0,vi 4 0,vr 425,vi 266 0,vi 4 0,vr 432,vi 269 0,vi 4 0,vr 439],
 cB "Parser" 655 146 262,
 fr 264 261 (vs "kindkeep.pcore" 604)],
 F7 "Parser.__init__" 665 266 (mt 69 0) m5,
 F7 "Parser.now" 674 273 (mt 69 1) m5,
 F7 "Parser.ahead" 681 280 (mt 69 2) m5,
 F7 "Parser.step" 690 287 (mt 69 3) m5,
 F7 "Parser.is_sign" 698 294 (mt 69 4) m5,
 F7 "Parser.is_word" 706 301 (mt 69 5) m5,
 F7 "Parser.is_name" 714 308 (mt 69 6) m5,
 F7 "Parser.eat_sign" 722 315 (mt 69 7) m5,
 F7 "Parser.eat_word" 730 322 (mt 69 8) m5,
 F7 "Parser.eat_name" 738 329 (mt 69 9) m5,
 F7 "Parser.need_sign" 746 336 (mt 69 10) m5,
 F7 "Parser.need_word" 754 343 (mt 69 11) m5,
 F7 "Parser.need_name" 762 350 (mt 69 12) m5,
 F7 "Parser.prop_name" 769 357 (mt 69 13) m5,
 F7 "Parser.member_name" 776 364 (mt 69 14) m5,
 F7 "Parser.fault" 783 371 (mt 69 15) m5,
 F7 "Parser.fault_at" 792 378 (mt 69 16) m5,
 F7 "Parser.can_end" 802 385 (mt 69 17) m5,
 F7 "Parser.end_statement" 810 392 (mt 69 18) m5,
 F7 "Parser.down" 817 399 (mt 69 19) m5,
 F7 "Parser.up" 824 406 (mt 69 20) m5,
 F7 "Parser.part" 831 413 (mt 69 21) m5,
 F7 "Parser.mark" 840 420 (mt 69 22) m5,
 F7 "Parser.back" 847 427 (mt 69 23) m5,
 F7 "Parser.keep" 855 434 (mt 69 24) m5,
 [tu [vs "allow_in" 863,vs "at" 864,vs "commas" 865,vs "covers" 866,vs "deep" 867,vs "diags" 868,vs "firsts" 869,vs "in_func" 870,vs "in_literal" 871,vs "in_loop" 872,vs "in_switch" 873,vs "labels" 874,vs "no_cond" 875,vs "not_arrow" 876,vs "parts" 877,vs "pending" 878,vs "ret_bar" 879,vs "saved" 880,vs "splits" 881,vs "tails" 882,vs "tokens" 883,vs "types" 884],
 di P (.type "dict") none (dD 660 (vs "kindkeep.pcore" 604) 146 [("__init__",673,vr 272),("now",680,vr 279),("ahead",689,vr 286),("step",697,vr 293),("is_sign",705,vr 300),("is_word",713,vr 307),("is_name",721,vr 314),("eat_sign",729,vr 321),("eat_word",737,vr 328),("eat_name",745,vr 335),("need_sign",753,vr 342),("need_word",761,vr 349),("need_name",768,vr 356),("prop_name",775,vr 363),("member_name",782,vr 370),("fault",791,vr 377),("fault_at",801,vr 384),("can_end",809,vr 391),("end_statement",816,vr 398),("down",823,vr 405),("up",830,vr 412),("part",839,vr 419),("mark",846,vr 426),("back",854,vr 433),("keep",862,vr 440),("__static_attributes__",885,vr 441),("__dict__",887,vr 444),("__weakref__",889,vr 445),("__doc__",890,vn)]) 4,
 cO "Parser" 653 661 443 442,
 gD 886 443,
 gW 888 443,
 fS 443,
 fI 443]] (T4 P))
theorem RY (w:World):(λos=>segRunT treeTable pw w 11 (some (.ref 6)) 1 1010 (sh (T4 w.params) 259 653 os) (piecesOf (bx 69 1) cE cM ⟨142,0,145,60⟩ [topFrame ⟨0,0,0,0⟩]))=λos=>some (.next,sh (T5 w.params) 448 893 os,cM,⟨146,0,270,16⟩):=by rw [dB,fc];kernel_rfl
noncomputable def T6 (P:Params):BT:=iP [(3,(dg P [(0,vs "kindkeep.pbody" 959)] (("read_apart",906,vr 454)::FE 6 907 455 71 [("LOOP_WORDS",964,vr 497),("Reader",1000,vr 521),("StmtPart",1032,vr 549)]) 85)),(12,(fg (vi 271 0::vi 0 0::vr 453::FG 6 455 71 [vi 324 0,vi 0 0,vr 503,vi 331 0,vi 0 0,vr 531]))),(254,(λ_=>cl (.type "type") none [none,none,some (vs "Part" 625),some (vs "Part" 633),some (.builtin "object.__new__"),some (.bool true)] "Part" [(.type "object")] [vr 254,(.type "object")] 253 "Part" true [vr 549]))] (iL 448 [F7 "read_apart" 893 448 (dt 70) m5,
 FR m5 6 907 455 71,
 [tu [vs "while" 961,vs "do" 962,vs "for" 963],
 tu [],
 fP,
 di P (.type "dict") none (dC 972 (vs "kindkeep.pbody" 959) "Reader" 324 [("opens",984,vr 511),("read",992,vr 518),("__static_attributes__",993,vr 519)]) 6,
 tu [],
 fl [vi 326 0,vi 4 0,vr 510,vi 329 0,vi 4 0,vr 517],
 cB "Reader" 967 324 501,
 fr 503 500 (vs "kindkeep.pbody" 959)],
 F7 "Reader.opens" 977 505 (mt 79 0) m6,
 F7 "Reader.read" 985 512 (mt 79 1) m6,
 [tu [],
 di P (.type "dict") none (dD 972 (vs "kindkeep.pbody" 959) 324 [("opens",984,vr 511),("read",992,vr 518),("__static_attributes__",993,vr 519),("__dict__",995,vr 522),("__weakref__",997,vr 523),("__doc__",998,vn)]) 4,
 cO "Reader" 965 973 521 520,
 gD 994 521,
 gW 996 521,
 fS 521,
 fI 521,
 tu [vr 254],
 fP,
 di P (.type "dict") none (dC 1008 (vs "kindkeep.pbody" 959) "StmtPart" 331 [("__init__",1019,vr 539),("parse",1027,vr 546),("__static_attributes__",1029,vr 547)]) 6,
 tu [],
 fl [vi 333 0,vi 4 0,vr 538,vi 336 0,vi 4 0,vr 545],
 cB "StmtPart" 1003 331 529,
 fr 531 528 (vs "kindkeep.pbody" 959)],
 F7 "StmtPart.__init__" 1013 533 (mt 80 0) m6,
 F7 "StmtPart.parse" 1020 540 (mt 80 1) m6,
 [tu [vs "words" 1028],
 di P (.type "dict") none (dD 1008 (vs "kindkeep.pbody" 959) 331 [("__init__",1019,vr 539),("parse",1027,vr 546),("__static_attributes__",1029,vr 547),("__doc__",1030,vn)]) 2,
 cl (.type "type") none [some (vr 526),none,some (vs "StmtPart" 1001),some (vs "StmtPart" 1009),some (.builtin "object.__new__"),some (.bool true)] "StmtPart" [vr 254] [vr 549,vr 254,(.type "object")] 548 "StmtPart" true [],
 fS 549,
 fI 549]] (T5 P))
theorem RZ (w:World):(λos=>segRunT treeTable pw w 11 (some (.ref 6)) 1 772 (sh (T5 w.params) 448 893 os) (piecesOf (bx 70 11) cE cM ⟨146,0,270,16⟩ [topFrame ⟨0,0,0,0⟩]))=λos=>some (.next,sh (T6 w.params) 552 1033 os,cM,⟨331,0,337,44⟩):=by rw [dB,fc];kernel_rfl
noncomputable def T7 (P:Params):BT:=iP [(3,(dg P [] (("BlockPart",1057,vr 568)::FE 13 1058 571 82 [("VarReader",1198,vr 678)]) 100)),(12,(fg (vi 338 0::vi 0 0::vr 557::FG 13 571 82 [vi 439 0,vi 0 0,vr 667]))),(254,(λ_=>cl (.type "type") none [none,none,some (vs "Part" 625),some (vs "Part" 633),some (.builtin "object.__new__"),some (.bool true)] "Part" [(.type "object")] [vr 254,(.type "object")] 253 "Part" true [vr 549,vr 568])),(521,(λ_=>cl (.type "type") none [none,none,some (vs "Reader" 965),some (vs "Reader" 973),some (.builtin "object.__new__"),some (.bool true)] "Reader" [(.type "object")] [vr 521,(.type "object")] 520 "Reader" true [vr 678]))] (iL 552 [[tu [vr 254],
 fP,
 di P (.type "dict") none (dC 1040 (vs "kindkeep.pbody" 959) "BlockPart" 338 [("parse",1053,vr 565),("__static_attributes__",1054,vr 566)]) 5,
 tu [],
 fl [vi 340 0,vi 4 0,vr 564],
 cB "BlockPart" 1035 338 555,
 fr 557 554 (vs "kindkeep.pbody" 959)],
 F7 "BlockPart.parse" 1045 559 (mt 81 0) m6,
 [tu [],
 di P (.type "dict") none (dD 1040 (vs "kindkeep.pbody" 959) 338 [("parse",1053,vr 565),("__static_attributes__",1054,vr 566),("__doc__",1055,vn)]) 2,
 cl (.type "type") none [some (vr 552),none,some (vs "BlockPart" 1033),some (vs "BlockPart" 1041),some (.builtin "object.__new__"),some (.bool true)] "BlockPart" [vr 254] [vr 568,vr 254,(.type "object")] 567 "BlockPart" true [],
 fS 568,
 fI 568],
 FR m6 13 1058 571 82,
 [tu [vr 521],
 fP,
 di P (.type "dict") none (dC 1182 (vs "kindkeep.pbody" 959) "VarReader" 439 [("read",1194,vr 675),("__static_attributes__",1195,vr 676)]) 5,
 tu [],
 fl [vi 441 0,vi 4 0,vr 674],
 cB "VarReader" 1177 439 665,
 fr 667 664 (vs "kindkeep.pbody" 959)],
 F7 "VarReader.read" 1187 669 (mt 95 0) m6,
 [tu [],
 di P (.type "dict") none (dD 1182 (vs "kindkeep.pbody" 959) 439 [("read",1194,vr 675),("__static_attributes__",1195,vr 676),("__doc__",1196,vn)]) 2,
 cl (.type "type") none [some (vr 662),none,some (vs "VarReader" 1175),some (vs "VarReader" 1183),some (.builtin "object.__new__"),some (.bool true)] "VarReader" [vr 521] [vr 678,vr 521,(.type "object")] 677 "VarReader" true [],
 fS 678,
 fI 678]] (T6 P))
theorem R7 (w:World):(λos=>segRunT treeTable pw w 11 (some (.ref 6)) 1 893 (sh (T6 w.params) 552 1033 os) (piecesOf (bx 81 15) cE cM ⟨331,0,337,44⟩ [topFrame ⟨0,0,0,0⟩]))=λos=>some (.next,sh (T7 w.params) 681 1199 os,cM,⟨439,0,442,33⟩):=by rw [dB,fc];kernel_rfl
noncomputable def T8 (P:Params):BT:=iP [(3,(dg P [] [("LetReader",1230,vr 704),("IfReader",1258,vr 723),("WhileReader",1284,vr 742)] 103)),(12,(fg [vi 443 0,vi 0 0,vr 686,vi 450 0,vi 0 0,vr 712,vi 460 0,vi 0 0,vr 731])),(521,(λ_=>cl (.type "type") none [none,none,some (vs "Reader" 965),some (vs "Reader" 973),some (.builtin "object.__new__"),some (.bool true)] "Reader" [(.type "object")] [vr 521,(.type "object")] 520 "Reader" true [vr 678,vr 704,vr 723,vr 742]))] (iL 681 [[tu [vr 521],
 fP,
 di P (.type "dict") none (dC 1206 (vs "kindkeep.pbody" 959) "LetReader" 443 [("opens",1218,vr 694),("read",1226,vr 701),("__static_attributes__",1227,vr 702)]) 6,
 tu [],
 fl [vi 445 0,vi 4 0,vr 693,vi 448 0,vi 4 0,vr 700],
 cB "LetReader" 1201 443 684,
 fr 686 683 (vs "kindkeep.pbody" 959)],
 F7 "LetReader.opens" 1211 688 (mt 96 0) m6,
 F7 "LetReader.read" 1219 695 (mt 96 1) m6,
 [tu [],
 di P (.type "dict") none (dD 1206 (vs "kindkeep.pbody" 959) 443 [("opens",1218,vr 694),("read",1226,vr 701),("__static_attributes__",1227,vr 702),("__doc__",1228,vn)]) 2,
 cl (.type "type") none [some (vr 681),none,some (vs "LetReader" 1199),some (vs "LetReader" 1207),some (.builtin "object.__new__"),some (.bool true)] "LetReader" [vr 521] [vr 704,vr 521,(.type "object")] 703 "LetReader" true [],
 fS 704,
 fI 704,
 tu [vr 521],
 fP,
 di P (.type "dict") none (dC 1238 (vs "kindkeep.pbody" 959) "IfReader" 450 [("read",1254,vr 720),("__static_attributes__",1255,vr 721)]) 5,
 tu [],
 fl [vi 452 0,vi 4 0,vr 719],
 cB "IfReader" 1233 450 710,
 fr 712 709 (vs "kindkeep.pbody" 959)],
 F7 "IfReader.read" 1243 714 (mt 97 0) m6,
 [tu [],
 di P (.type "dict") none (dD 1238 (vs "kindkeep.pbody" 959) 450 [("read",1254,vr 720),("__static_attributes__",1255,vr 721),("__doc__",1256,vn)]) 2,
 cl (.type "type") none [some (vr 707),none,some (vs "IfReader" 1231),some (vs "IfReader" 1239),some (.builtin "object.__new__"),some (.bool true)] "IfReader" [vr 521] [vr 723,vr 521,(.type "object")] 722 "IfReader" true [],
 fS 723,
 fI 723,
 tu [vr 521],
 fP,
 di P (.type "dict") none (dC 1266 (vs "kindkeep.pbody" 959) "WhileReader" 460 [("read",1280,vr 739),("__static_attributes__",1281,vr 740)]) 5,
 tu [],
 fl [vi 462 0,vi 4 0,vr 738],
 cB "WhileReader" 1261 460 729,
 fr 731 728 (vs "kindkeep.pbody" 959)],
 F7 "WhileReader.read" 1271 733 (mt 98 0) m6,
 [tu [],
 di P (.type "dict") none (dD 1266 (vs "kindkeep.pbody" 959) 460 [("read",1280,vr 739),("__static_attributes__",1281,vr 740),("__doc__",1282,vn)]) 2,
 cl (.type "type") none [some (vr 726),none,some (vs "WhileReader" 1259),some (vs "WhileReader" 1267),some (.builtin "object.__new__"),some (.bool true)] "WhileReader" [vr 521] [vr 742,vr 521,(.type "object")] 741 "WhileReader" true [],
 fS 742,
 fI 742]] (T7 P))
theorem R8 (w:World):(λos=>segRunT treeTable pw w 11 (some (.ref 6)) 1 771 (sh (T7 w.params) 681 1199 os) (piecesOf (bx 96 3) cE cM ⟨439,0,442,33⟩ [topFrame ⟨0,0,0,0⟩]))=λos=>some (.next,sh (T8 w.params) 745 1285 os,cM,⟨460,0,465,63⟩):=by rw [dB,fc];kernel_rfl
noncomputable def T9 (P:Params):BT:=iP [(3,(dg P [] (("DoReader",1311,vr 761)::("ForReader",1339,vr 780)::FE 3 1340 783 101 (("SwitchReader",1397,vr 820)::FE 1 1398 823 105 [("ends_case",1414,vr 836)])) 111)),(12,(fg (vi 466 0::vi 0 0::vr 750::vi 475 0::vi 0 0::vr 769::FG 3 783 101 (vi 529 0::vi 0 0::vr 809::FG 1 823 105 [vi 559 0,vi 0 0,vr 835])))),(521,(λ_=>cl (.type "type") none [none,none,some (vs "Reader" 965),some (vs "Reader" 973),some (.builtin "object.__new__"),some (.bool true)] "Reader" [(.type "object")] [vr 521,(.type "object")] 520 "Reader" true [vr 678,vr 704,vr 723,vr 742,vr 761,vr 780,vr 820]))] (iL 745 [[tu [vr 521],
 fP,
 di P (.type "dict") none (dC 1292 (vs "kindkeep.pbody" 959) "DoReader" 466 [("read",1307,vr 758),("__static_attributes__",1308,vr 759)]) 5,
 tu [],
 fl [vi 468 0,vi 4 0,vr 757],
 cB "DoReader" 1287 466 748,
 fr 750 747 (vs "kindkeep.pbody" 959)],
 F7 "DoReader.read" 1297 752 (mt 99 0) m6,
 [tu [],
 di P (.type "dict") none (dD 1292 (vs "kindkeep.pbody" 959) 466 [("read",1307,vr 758),("__static_attributes__",1308,vr 759),("__doc__",1309,vn)]) 2,
 cl (.type "type") none [some (vr 745),none,some (vs "DoReader" 1285),some (vs "DoReader" 1293),some (.builtin "object.__new__"),some (.bool true)] "DoReader" [vr 521] [vr 761,vr 521,(.type "object")] 760 "DoReader" true [],
 fS 761,
 fI 761,
 tu [vr 521],
 fP,
 di P (.type "dict") none (dC 1319 (vs "kindkeep.pbody" 959) "ForReader" 475 [("read",1335,vr 777),("__static_attributes__",1336,vr 778)]) 5,
 tu [],
 fl [vi 477 0,vi 4 0,vr 776],
 cB "ForReader" 1314 475 767,
 fr 769 766 (vs "kindkeep.pbody" 959)],
 F7 "ForReader.read" 1324 771 (mt 100 0) m6,
 [tu [],
 di P (.type "dict") none (dD 1319 (vs "kindkeep.pbody" 959) 475 [("read",1335,vr 777),("__static_attributes__",1336,vr 778),("__doc__",1337,vn)]) 2,
 cl (.type "type") none [some (vr 764),none,some (vs "ForReader" 1312),some (vs "ForReader" 1320),some (.builtin "object.__new__"),some (.bool true)] "ForReader" [vr 521] [vr 780,vr 521,(.type "object")] 779 "ForReader" true [],
 fS 780,
 fI 780],
 FR m6 3 1340 783 101,
 [tu [vr 521],
 fP,
 di P (.type "dict") none (dC 1377 (vs "kindkeep.pbody" 959) "SwitchReader" 529 [("read",1393,vr 817),("__static_attributes__",1394,vr 818)]) 5,
 tu [],
 fl [vi 531 0,vi 4 0,vr 816],
 cB "SwitchReader" 1372 529 807,
 fr 809 806 (vs "kindkeep.pbody" 959)],
 F7 "SwitchReader.read" 1382 811 (mt 104 0) m6,
 [tu [],
 di P (.type "dict") none (dD 1377 (vs "kindkeep.pbody" 959) 529 [("read",1393,vr 817),("__static_attributes__",1394,vr 818),("__doc__",1395,vn)]) 2,
 cl (.type "type") none [some (vr 804),none,some (vs "SwitchReader" 1370),some (vs "SwitchReader" 1378),some (.builtin "object.__new__"),some (.bool true)] "SwitchReader" [vr 521] [vr 820,vr 521,(.type "object")] 819 "SwitchReader" true [],
 fS 820,
 fI 820],
 FR m6 1 1398 823 105,
 [tu [],
 fl [],
 tu [vs "p" 1411],
 tu [],
 fo vn (dt 106) 0 vn vn vn vn none vn vn 0 "ends_case",
 co [vs "ends_case" 1408,vs "ends_case" 1409,vs "/claim/cut.py" 1410,vi 559 0,vi 1 0,vi 0 0,vi 0 0,vi 3 0,vr 830,(.bool true),vi 181 0,vr 831,vn,vr 832,vr 833,vr 834,vi 1412 0,vi 559 0,vs "/claim/cut.py" 1413],
 fo (.type "function") (dt 106) 3 vn vn vn (vs "kindkeep.pbody" 959) none (vr 835) vn 0 "ends_case"]] (T8 P))
theorem R9 (w:World):(λos=>segRunT treeTable pw w 11 (some (.ref 6)) 1 901 (sh (T8 w.params) 745 1285 os) (piecesOf (bx 99 8) cE cM ⟨460,0,465,63⟩ [topFrame ⟨0,0,0,0⟩]))=λos=>some (.next,sh (T9 w.params) 837 1415 os,cM,⟨559,0,562,52⟩):=by rw [dB,fc];kernel_rfl
noncomputable def L1 (P:Params):BT:=iP [(3,(dg P [] (("ReturnReader",1440,vr 853)::("JumpReader",1466,vr 872)::FE 3 1467 875 109 [("LabelReader",1520,vr 912),("labels_loop",1529,vr 921)]) 118)),(12,(fg (vi 563 0::vi 0 0::vr 842::vi 574 0::vi 0 0::vr 861::FG 3 875 109 [vi 606 0,vi 0 0,vr 901,vi 617 0,vi 0 0,vr 920]))),(521,(λ_=>cl (.type "type") none [none,none,some (vs "Reader" 965),some (vs "Reader" 973),some (.builtin "object.__new__"),some (.bool true)] "Reader" [(.type "object")] [vr 521,(.type "object")] 520 "Reader" true [vr 678,vr 704,vr 723,vr 742,vr 761,vr 780,vr 820,vr 853,vr 872,vr 912]))] (iL 837 [[tu [vr 521],
 fP,
 di P (.type "dict") none (dC 1422 (vs "kindkeep.pbody" 959) "ReturnReader" 563 [("read",1436,vr 850),("__static_attributes__",1437,vr 851)]) 5,
 tu [],
 fl [vi 565 0,vi 4 0,vr 849],
 cB "ReturnReader" 1417 563 840,
 fr 842 839 (vs "kindkeep.pbody" 959)],
 F7 "ReturnReader.read" 1427 844 (mt 107 0) m6,
 [tu [],
 di P (.type "dict") none (dD 1422 (vs "kindkeep.pbody" 959) 563 [("read",1436,vr 850),("__static_attributes__",1437,vr 851),("__doc__",1438,vn)]) 2,
 cl (.type "type") none [some (vr 837),none,some (vs "ReturnReader" 1415),some (vs "ReturnReader" 1423),some (.builtin "object.__new__"),some (.bool true)] "ReturnReader" [vr 521] [vr 853,vr 521,(.type "object")] 852 "ReturnReader" true [],
 fS 853,
 fI 853,
 tu [vr 521],
 fP,
 di P (.type "dict") none (dC 1448 (vs "kindkeep.pbody" 959) "JumpReader" 574 [("read",1462,vr 869),("__static_attributes__",1463,vr 870)]) 5,
 tu [],
 fl [vi 576 0,vi 4 0,vr 868],
 cB "JumpReader" 1443 574 859,
 fr 861 858 (vs "kindkeep.pbody" 959)],
 F7 "JumpReader.read" 1453 863 (mt 108 0) m6,
 [tu [],
 di P (.type "dict") none (dD 1448 (vs "kindkeep.pbody" 959) 574 [("read",1462,vr 869),("__static_attributes__",1463,vr 870),("__doc__",1464,vn)]) 2,
 cl (.type "type") none [some (vr 856),none,some (vs "JumpReader" 1441),some (vs "JumpReader" 1449),some (.builtin "object.__new__"),some (.bool true)] "JumpReader" [vr 521] [vr 872,vr 521,(.type "object")] 871 "JumpReader" true [],
 fS 872,
 fI 872],
 FR m6 3 1467 875 109,
 [tu [vr 521],
 fP,
 di P (.type "dict") none (dC 1502 (vs "kindkeep.pbody" 959) "LabelReader" 606 [("read",1516,vr 909),("__static_attributes__",1517,vr 910)]) 5,
 tu [],
 fl [vi 608 0,vi 4 0,vr 908],
 cB "LabelReader" 1497 606 899,
 fr 901 898 (vs "kindkeep.pbody" 959)],
 F7 "LabelReader.read" 1507 903 (mt 112 0) m6,
 [tu [],
 di P (.type "dict") none (dD 1502 (vs "kindkeep.pbody" 959) 606 [("read",1516,vr 909),("__static_attributes__",1517,vr 910),("__doc__",1518,vn)]) 2,
 cl (.type "type") none [some (vr 896),none,some (vs "LabelReader" 1495),some (vs "LabelReader" 1503),some (.builtin "object.__new__"),some (.bool true)] "LabelReader" [vr 521] [vr 912,vr 521,(.type "object")] 911 "LabelReader" true [],
 fS 912,
 fI 912,
 tu [],
 fl [],
 tu [vs "p" 1524,vs "n" 1525,vs "token" 1526],
 tu [],
 fo vn (dt 113) 0 vn vn vn vn none vn vn 0 "labels_loop",
 co [vs "labels_loop" 1521,vs "labels_loop" 1522,vs "/claim/cut.py" 1523,vi 617 0,vi 1 0,vi 0 0,vi 0 0,vi 3 0,vr 915,(.bool true),vi 181 0,vr 916,vn,vr 917,vr 918,vr 919,vi 1527 0,vi 617 0,vs "/claim/cut.py" 1528],
 fo (.type "function") (dt 113) 3 vn vn vn (vs "kindkeep.pbody" 959) none (vr 920) vn 0 "labels_loop"]] (T9 P))
theorem OA (w:World):(λos=>segRunT treeTable pw w 11 (some (.ref 6)) 1 864 (sh (T9 w.params) 837 1415 os) (piecesOf (bx 107 7) cE cM ⟨559,0,562,52⟩ [topFrame ⟨0,0,0,0⟩]))=λos=>some (.next,sh (L1 w.params) 922 1530 os,cM,⟨617,0,624,12⟩):=by rw [dB,fc];kernel_rfl
noncomputable def L2 (P:Params):BT:=iP [(3,(dg P [(0,vs "kindkeep.pfuncs" 1625)] (("ThrowReader",1555,vr 938)::("TryReader",1583,vr 957)::FE 5 1584 960 116 (("PatternPart",1651,vr 1011)::FE 2 1652 1014 123 [("read_object_pattern",1676,vr 1034)])) 129)),(12,(fg (vi 625 0::vi 0 0::vr 927::vi 634 0::vi 0 0::vr 946::FG 5 960 116 (vi 686 0::vi 0 0::vr 1000::FG 2 1014 123 [vi 702 0,vi 0 0,vr 1033])))),(254,(λ_=>cl (.type "type") none [none,none,some (vs "Part" 625),some (vs "Part" 633),some (.builtin "object.__new__"),some (.bool true)] "Part" [(.type "object")] [vr 254,(.type "object")] 253 "Part" true [vr 549,vr 568,vr 1011])),(521,(λ_=>cl (.type "type") none [none,none,some (vs "Reader" 965),some (vs "Reader" 973),some (.builtin "object.__new__"),some (.bool true)] "Reader" [(.type "object")] [vr 521,(.type "object")] 520 "Reader" true [vr 678,vr 704,vr 723,vr 742,vr 761,vr 780,vr 820,vr 853,vr 872,vr 912,vr 938,vr 957]))] (iL 922 [[tu [vr 521],
 fP,
 di P (.type "dict") none (dC 1537 (vs "kindkeep.pbody" 959) "ThrowReader" 625 [("read",1551,vr 935),("__static_attributes__",1552,vr 936)]) 5,
 tu [],
 fl [vi 627 0,vi 4 0,vr 934],
 cB "ThrowReader" 1532 625 925,
 fr 927 924 (vs "kindkeep.pbody" 959)],
 F7 "ThrowReader.read" 1542 929 (mt 114 0) m6,
 [tu [],
 di P (.type "dict") none (dD 1537 (vs "kindkeep.pbody" 959) 625 [("read",1551,vr 935),("__static_attributes__",1552,vr 936),("__doc__",1553,vn)]) 2,
 cl (.type "type") none [some (vr 922),none,some (vs "ThrowReader" 1530),some (vs "ThrowReader" 1538),some (.builtin "object.__new__"),some (.bool true)] "ThrowReader" [vr 521] [vr 938,vr 521,(.type "object")] 937 "ThrowReader" true [],
 fS 938,
 fI 938,
 tu [vr 521],
 fP,
 di P (.type "dict") none (dC 1563 (vs "kindkeep.pbody" 959) "TryReader" 634 [("read",1579,vr 954),("__static_attributes__",1580,vr 955)]) 5,
 tu [],
 fl [vi 636 0,vi 4 0,vr 953],
 cB "TryReader" 1558 634 944,
 fr 946 943 (vs "kindkeep.pbody" 959)],
 F7 "TryReader.read" 1568 948 (mt 115 0) m6,
 [tu [],
 di P (.type "dict") none (dD 1563 (vs "kindkeep.pbody" 959) 634 [("read",1579,vr 954),("__static_attributes__",1580,vr 955),("__doc__",1581,vn)]) 2,
 cl (.type "type") none [some (vr 941),none,some (vs "TryReader" 1556),some (vs "TryReader" 1564),some (.builtin "object.__new__"),some (.bool true)] "TryReader" [vr 521] [vr 957,vr 521,(.type "object")] 956 "TryReader" true [],
 fS 957,
 fI 957],
 FR m6 5 1584 960 116,
 [tu [vr 254],
 fP,
 di P (.type "dict") none (dC 1634 (vs "kindkeep.pfuncs" 1625) "PatternPart" 686 [("parse",1647,vr 1008),("__static_attributes__",1648,vr 1009)]) 5,
 tu [],
 fl [vi 688 0,vi 4 0,vr 1007],
 cB "PatternPart" 1629 686 998,
 fr 1000 997 (vs "kindkeep.pfuncs" 1625)],
 F7 "PatternPart.parse" 1639 1002 (mt 122 0) m7,
 [tu [],
 di P (.type "dict") none (dD 1634 (vs "kindkeep.pfuncs" 1625) 686 [("parse",1647,vr 1008),("__static_attributes__",1648,vr 1009),("__doc__",1649,vn)]) 2,
 cl (.type "type") none [some (vr 995),none,some (vs "PatternPart" 1627),some (vs "PatternPart" 1635),some (.builtin "object.__new__"),some (.bool true)] "PatternPart" [vr 254] [vr 1011,vr 254,(.type "object")] 1010 "PatternPart" true [],
 fS 1011,
 fI 1011],
 FR m7 2 1652 1014 123,
 [tu [],
 fl [],
 tu [vs "p" 1670,vs "at" 1671,vs "allow_in" 1672,vs "binds" 1673],
 tu [],
 fo vn (dt 125) 0 vn vn vn vn none vn vn 0 "read_object_pattern",
 co [vs "read_object_pattern" 1667,vs "read_object_pattern" 1668,vs "/claim/cut.py" 1669,vi 702 0,vi 1 0,vi 0 0,vi 0 0,vi 3 0,vr 1028,(.bool true),vi 181 0,vr 1029,vn,vr 1030,vr 1031,vr 1032,vi 1674 0,vi 702 0,vs "/claim/cut.py" 1675],
 fo (.type "function") (dt 125) 3 vn vn vn (vs "kindkeep.pfuncs" 1625) none (vr 1033) vn 0 "read_object_pattern"]] (L1 P))
theorem OC (w:World):(λos=>segRunT treeTable pw w 11 (some (.ref 6)) 1 991 (sh (L1 w.params) 922 1530 os) (piecesOf (bx 114 12) cE cM ⟨617,0,624,12⟩ [topFrame ⟨0,0,0,0⟩]))=λos=>some (.next,sh (L2 w.params) 1035 1677 os,cM,⟨702,0,714,40⟩):=by rw [dB,fc];kernel_rfl
noncomputable def L4 (P:Params):BT:=iP [(3,(dg P [(0,vs "law_sa0398_01" 1708)] (("read_prop_bind",1687,vr 1041)::FE 2 1688 1042 127 (("_law_reserved",1730,vr 1056)::("_law_stops",1927,vr 1165)::FE 12 1928 1166 132 [("_law_test",2055,vr 1256)])) 147)),(12,(fg (vi 715 0::vi 0 0::vr 1040::FG 2 1042 127 (FG 12 1166 132 [vi 844 0,vi 0 0,vr 1255]))))] (iL 1035 [F7 "read_prop_bind" 1677 1035 (dt 126) m7,
 FR m7 2 1688 1042 127,
 [tu [vs "break" 1710,vs "case" 1711,vs "catch" 1712,vs "const" 1713,vs "continue" 1714,vs "default" 1715,vs "do" 1716,vs "else" 1717,vs "export" 1718,vs "finally" 1719,vs "for" 1720,vs "if" 1721,.str ⟨#[105,109,112,111,114,116]⟩ 1722,vs "in" 1723,vs "return" 1724,vs "switch" 1725,vs "throw" 1726,vs "try" 1727,vs "var" 1728,vs "while" 1729],
 tu [vs "a" 1731,vs "b" 1732],
 tu [vs ";" 1734],
 tu [vr 1057,vi 1005 1733,vr 1058],
 tu [vs "throw" 1735,vs "/" 1736,vs "a" 1737],
 tu [],
 tu [vr 1060,vi 1142 1738,vr 1061],
 tu [vs "switch" 1739,vs "(" 1740,vs "a" 1741,vs ")" 1742,vs "{" 1743,vs "b" 1744],
 tu [],
 tu [vr 1063,vi 1130 1745,vr 1064],
 tu [vs "let" 1746,vs "=" 1747],
 tu [vs ";" 1749],
 tu [vr 1066,vi 1005 1748,vr 1067],
 tu [vs "try" 1750,vs "{" 1751,vs "}" 1752,vs "a" 1753],
 tu [vs "finally" 1755],
 tu [vr 1069,vi 1005 1754,vr 1070],
 tu [vs "try" 1756,vs "{" 1757,vs "}" 1758,vs "catch" 1759,vs "(" 1760,vs ")" 1761],
 tu [],
 tu [vr 1072,vi 1003 1762,vr 1073],
 tu [vs "'if" 1763],
 tu [],
 tu [vr 1075,vi 1003 1764,vr 1076],
 tu [vs "for" 1765,vs "(" 1766,vs "a" 1767,vs "of" 1768],
 tu [vs "a loop over values without a declaration" 1770],
 tu [vr 1078,vi 9002 1769,vr 1079],
 tu [vs "}" 1771],
 tu [],
 tu [vr 1081,vi 1128 1772,vr 1082],
 tu [.str ⟨#[105,109,112,111,114,116]⟩ 1773],
 tu [],
 tu [vr 1084,vi 1128 1774,vr 1085],
 tu [vs "if" 1775,vs "a" 1776],
 tu [vs "(" 1778],
 tu [vr 1087,vi 1005 1777,vr 1088],
 tu [vs "do" 1779,vs ";" 1780,vs "a" 1781],
 tu [vs "while" 1783],
 tu [vr 1090,vi 1005 1782,vr 1091],
 tu [vs "q" 1784,vs ":" 1785,vs "" 1786],
 tu [],
 tu [vr 1093,vi 1003 1787,vr 1094],
 tu [vs "{" 1788,vs "a" 1789,vs ";" 1790,vs "" 1791],
 tu [vs "}" 1793],
 tu [vr 1096,vi 1005 1792,vr 1097],
 tu [vs "for" 1794,vs "(" 1795,vs "let" 1796,vs "a" 1797,vs "/" 1798,vs "!" 1799],
 tu [vs ";" 1801],
 tu [vr 1099,vi 1005 1800,vr 1100],
 tu [vs "catch" 1802],
 tu [],
 tu [vr 1102,vi 1003 1803,vr 1103],
 tu [vs "while" 1804,vs "(" 1805,vs "a" 1806,vs "b" 1807],
 tu [vs ")" 1809],
 tu [vr 1105,vi 1005 1808,vr 1106],
 tu [vs "for" 1810,vs "(" 1811,vs "a" 1812,vs ";" 1813,vs "b" 1814,vs ";" 1815,vs "c" 1816,vs ";" 1817],
 tu [vs ")" 1819],
 tu [vr 1108,vi 1005 1818,vr 1109],
 tu [vs "try" 1820,vs "{" 1821,vs "}" 1822,vs "catch" 1823,vs "(" 1824,vs "{" 1825],
 tu [vs "a pattern in catch" 1827],
 tu [vr 1111,vi 9002 1826,vr 1112],
 tu [vs "export" 1828],
 tu [],
 tu [vr 1114,vi 1128 1829,vr 1115],
 tu [vs "try" 1830,vs "{" 1831,vs "}" 1832,vs "catch" 1833,vs "(" 1834,vs "a" 1835,vs ":" 1836],
 tu [vs "a kind of what is caught" 1838],
 tu [vr 1117,vi 9002 1837,vr 1118],
 tu [vs "for" 1839,vs "await" 1840],
 tu [vs "for await" 1842],
 tu [vr 1120,vi 9002 1841,vr 1121],
 tu [vs "for" 1843,vs "(" 1844,vs "{" 1845,vs "}" 1846,vs "in" 1847],
 tu [vs "a loop over values without a declaration" 1849],
 tu [vr 1123,vi 9002 1848,vr 1124],
 tu [vs "const" 1850,vs "=" 1851],
 tu [],
 tu [vr 1126,vi 1003 1852,vr 1127],
 tu [vs "switch" 1853,vs "(" 1854,vs "a" 1855,vs ")" 1856,vs "b" 1857],
 tu [vs "{" 1859],
 tu [vr 1129,vi 1005 1858,vr 1130],
 tu [vs "break" 1860,vs "a" 1861,vs "b" 1862],
 tu [vs ";" 1864],
 tu [vr 1132,vi 1005 1863,vr 1133],
 tu [vs "continue" 1865,vs "in" 1866],
 tu [vs ";" 1868],
 tu [vr 1135,vi 1005 1867,vr 1136],
 tu [vs "let" 1869,vs "[" 1870,vs "a" 1871,vs "]" 1872,vs "!" 1873],
 tu [vs ";" 1875],
 tu [vr 1138,vi 1005 1874,vr 1139],
 tu [vs "var" 1876,vs "a" 1877,vs "!" 1878,vs "!" 1879],
 tu [vs ";" 1881],
 tu [vr 1141,vi 1005 1880,vr 1142],
 tu [vs "for" 1882,vs "(" 1883,vs "var" 1884,vs "a" 1885,vs "b" 1886],
 tu [vs ";" 1888],
 tu [vr 1144,vi 1005 1887,vr 1145],
 tu [vs "switch" 1889,vs "(" 1890,vs "a" 1891,vs ")" 1892,vs "{" 1893,vs "" 1894],
 tu [],
 tu [vr 1147,vi 1130 1895,vr 1148],
 tu [vs "try" 1896,vs "{" 1897,vs "}" 1898,vs "" 1899],
 tu [vs "finally" 1901],
 tu [vr 1150,vi 1005 1900,vr 1151],
 tu [vs "if" 1902,vs "(" 1903,vs "a" 1904,vs ")" 1905,vs "" 1906],
 tu [],
 tu [vr 1153,vi 1003 1907,vr 1154],
 tu [vs "do" 1908,vs "a" 1909,vs "while" 1910],
 tu [vs ";" 1912],
 tu [vr 1156,vi 1005 1911,vr 1157],
 tu [vs "switch" 1913,vs "(" 1914,vs "a" 1915,vs ")" 1916,vs "{" 1917,vs "case" 1918,vs "b" 1919,vs ";" 1920],
 tu [vs ":" 1922],
 tu [vr 1159,vi 1005 1921,vr 1160],
 tu [vs "for" 1923,vs "(" 1924,vs "let" 1925],
 tu [],
 tu [vr 1162,vi 1123 1926,vr 1163],
 tu [vr 1059,vr 1062,vr 1065,vr 1068,vr 1071,vr 1074,vr 1077,vr 1080,vr 1083,vr 1086,vr 1089,vr 1092,vr 1095,vr 1098,vr 1101,vr 1104,vr 1107,vr 1110,vr 1113,vr 1116,vr 1119,vr 1122,vr 1125,vr 1128,vr 1131,vr 1134,vr 1137,vr 1140,vr 1143,vr 1146,vr 1149,vr 1152,vr 1155,vr 1158,vr 1161,vr 1164]],
 FR m8 12 1928 1166 132,
 [tu [],
 fl [],
 tu [vs "s" 2051,vs "node" 2052],
 tu [],
 fo vn (dt 144) 0 vn vn vn vn none vn vn 0 "_law_test",
 co [vs "_law_test" 2048,vs "_law_test" 2049,vs "/claim/cut.py" 2050,vi 844 0,vi 1 0,vi 0 0,vi 0 0,vi 3 0,vr 1250,(.bool true),vi 181 0,vr 1251,vn,vr 1252,vr 1253,vr 1254,vi 2053 0,vi 844 0,vs "/claim/cut.py" 2054],
 fo (.type "function") (dt 144) 3 vn vn vn (vs "law_sa0398_01" 1708) none (vr 1255) vn 0 "_law_test"]] (L2 P))
theorem OD (w:World):(λos=>segRunT treeTable pw w 11 (some (.ref 6)) 1 973 (sh (L2 w.params) 1035 1677 os) (piecesOf (bx 126 19) cE cM ⟨702,0,714,40⟩ [topFrame ⟨0,0,0,0⟩]))=λos=>some (.next,sh (L4 w.params) 1257 2056 os,cM,⟨844,0,848,15⟩):=by rw [dB,fc];kernel_rfl
noncomputable def la (P:Params):BT:=iP [(3,(dg P [] (("_law_decl",2067,vr 1263)::FE 5 2068 1264 146 (("_law_block",2123,vr 1303)::FE 1 2124 1304 152 (("_law_jump",2142,vr 1315)::FE 4 2143 1316 154 (("_law_switch",2204,vr 1348)::FE 1 2205 1349 159 (("_law_label",2225,vr 1360)::FE 3 2226 1361 161 [("law",2266,vr 1386)]))))) 167)),(12,(fg (vi 849 0::vi 0 0::vr 1262::FG 5 1264 146 (vi 894 0::vi 0 0::vr 1302::FG 1 1304 152 (vi 918 0::vi 0 0::vr 1314::FG 4 1316 154 (vi 1019 0::vi 0 0::vr 1347::FG 1 1349 159 (vi 1061 0::vi 0 0::vr 1359::FG 3 1361 161 [vi 1124 0,vi 0 0,vr 1385])))))))] (iL 1257 [F7 "_law_decl" 2056 1257 (dt 145) m8,
 FR m8 5 2068 1264 146,
 [tu [],
 fl [],
 fo vn (dt 151) 0 vn vn vn vn none vn vn 0 "_law_block",
 co [vs "_law_block" 2118,vs "_law_block" 2119,vs "/claim/cut.py" 2120,vi 894 0,vi 2 0,vi 0 0,vi 0 0,vi 3 0,vr 1299,(.bool true),vi 181 0,vr 1300,vn,vn,vn,vr 1301,vi 2121 0,vi 894 0,vs "/claim/cut.py" 2122],
 fo (.type "function") (dt 151) 3 vn vn vn (vs "law_sa0398_01" 1708) none (vr 1302) vn 0 "_law_block"],
 FR m8 1 2124 1304 152,
 [tu [],
 fl [],
 fo vn (dt 153) 0 vn vn vn vn none vn vn 0 "_law_jump",
 co [vs "_law_jump" 2137,vs "_law_jump" 2138,vs "/claim/cut.py" 2139,vi 918 0,vi 2 0,vi 0 0,vi 0 0,vi 3 0,vr 1311,(.bool true),vi 181 0,vr 1312,vn,vn,vn,vr 1313,vi 2140 0,vi 918 0,vs "/claim/cut.py" 2141],
 fo (.type "function") (dt 153) 3 vn vn vn (vs "law_sa0398_01" 1708) none (vr 1314) vn 0 "_law_jump"],
 FR m8 4 2143 1316 154,
 [tu [],
 fl [],
 fo vn (dt 158) 0 vn vn vn vn none vn vn 0 "_law_switch",
 co [vs "_law_switch" 2199,vs "_law_switch" 2200,vs "/claim/cut.py" 2201,vi 1019 0,vi 2 0,vi 0 0,vi 0 0,vi 3 0,vr 1344,(.bool true),vi 181 0,vr 1345,vn,vn,vn,vr 1346,vi 2202 0,vi 1019 0,vs "/claim/cut.py" 2203],
 fo (.type "function") (dt 158) 3 vn vn vn (vs "law_sa0398_01" 1708) none (vr 1347) vn 0 "_law_switch"],
 FR m8 1 2205 1349 159,
 [tu [],
 fl [],
 fo vn (dt 160) 0 vn vn vn vn none vn vn 0 "_law_label",
 co [vs "_law_label" 2220,vs "_law_label" 2221,vs "/claim/cut.py" 2222,vi 1061 0,vi 3 0,vi 0 0,vi 0 0,vi 3 0,vr 1356,(.bool true),vi 181 0,vr 1357,vn,vn,vn,vr 1358,vi 2223 0,vi 1061 0,vs "/claim/cut.py" 2224],
 fo (.type "function") (dt 160) 3 vn vn vn (vs "law_sa0398_01" 1708) none (vr 1359) vn 0 "_law_label"],
 FR m8 3 2226 1361 161,
 [tu [],
 fl [],
 fo vn (dt 164) 0 vn vn vn vn none vn vn 0 "law",
 co [vs "law" 2261,vs "law" 2262,vs "/claim/cut.py" 2263,vi 1124 0,vi 1 0,vi 0 0,vi 0 0,vi 3 0,vr 1382,(.bool true),vi 181 0,vr 1383,vn,vn,vn,vr 1384,vi 2264 0,vi 1124 0,vs "/claim/cut.py" 2265],
 fo (.type "function") (dt 164) 3 vn vn vn (vs "law_sa0398_01" 1708) none (vr 1385) vn 0 "law"]] (L4 P))
theorem OE (w:World):(λos=>segRunT treeTable pw w 11 (some (.ref 6)) 1 642 (sh (L4 w.params) 1257 2056 os) (piecesOf (bx 145 20) cE cM ⟨844,0,848,15⟩ [topFrame ⟨0,0,0,0⟩]))=λos=>some (.next,sh (la w.params) 1387 2267 os,cM,⟨1124,0,1169,16⟩):=by rw [dB,fc];kernel_rfl
end MHead
end
noncomputable section
set_option maxRecDepth 100000
set_option maxHeartbeats 400000
namespace MHead
open PySem PySem.W PySem.Calls PyProof.Rows
noncomputable def H0 (P:Params):Heap:=boot_heap P
noncomputable def HN (P:Params):Heap:=absHeap (la P) 1387 {}
noncomputable abbrev sA (k:BT)(n toks:Nat)(os:OsState):Shared:=⟨absHeap k n {},#[],{},toks,os⟩
theorem Gy (w:World):(λos=>topGo treeTable pw w 11 (some (.ref 6)) 12 ⟨H0 w.params,#[],boot_drawn,boot_toks,os⟩ (topStub pw))=λos=>some (sA (T0 w.params) 15 187 os,⟨denote treeTable cM,cM,⟨0,0,0,0⟩,[topFrame ⟨0,0,0,0⟩]⟩):=by kernel_rfl
theorem Nl (w:World):(λos=>segRun treeTable pw w 11 (some (.ref 6)) 1 1 (sA (T0 w.params) 15 187 os) (blockOf (behindTheImports pw) cE cM ⟨0,0,0,0⟩ [topFrame ⟨0,0,0,0⟩]))=λos=>some (.next,sA (T0 w.params) 15 187 os,cM,⟨0,0,0,0⟩):=by kernel_rfl
theorem NI (w:World):(λos=>topRun treeTable pw w 11 (some (.ref 6)) 2 (sA (la w.params) 1387 2267 os) ⟨doneF .next,cM,⟨1124,0,1169,16⟩,[topFrame ⟨0,0,0,0⟩]⟩)=λos=>some (sA (la w.params) 1387 2267 os):=by kernel_rfl
theorem qP:(bx 0 43++(bx 43 3++(bx 46 22++(bx 68 1++(bx 69 1++(bx 70 11++(bx 81 15++(bx 96 3++(bx 99 8++(bx 107 7++(bx 114 12++(bx 126 19++(bx 145 20++[])))))))))))))=behindTheImports pw:=by kernel_rfl
theorem bU {w:World}{N n k n' k' M:Nat}{T T':BT}{l rest:List Stmt}{pos p':Pos}{r:Shared}
  (h:(λos=>segRunT treeTable pw w 11 (some (.ref 6)) 1 N (sh T n k os) (piecesOf l cE cM pos [topFrame ⟨0,0,0,0⟩]))=λos=>some (.next,sh T' n' k' os,cM,p')) (os:OsState)
  (hk:topRun treeTable pw w 11 (some (.ref 6)) M (sA T' n' k' os) (restOf rest cE cM p' [topFrame ⟨0,0,0,0⟩])=some r):
  topRun treeTable pw w 11 (some (.ref 6)) (N+M) (sA T n k os) (restOf (l++rest) cE cM pos [topFrame ⟨0,0,0,0⟩])=some r:=
 piece_app (segRun_of (s:=sh T n k os) (s':=sh T' n' k' os) (congrFun h os)) hk
noncomputable def MM:Nat:=12+(1+(945+(747+(962+(222+(1010+(772+(893+(771+(901+(864+(991+(973+(642+(2)))))))))))))))
theorem Br (w:World)(os:OsState):topRun treeTable pw w 11 (some (.ref 6)) MM ⟨H0 w.params,#[],boot_drawn,boot_toks,os⟩ (topStub pw)=some ⟨HN w.params,#[],{},2267,os⟩:=by
 have k13:topRun treeTable pw w 11 (some (.ref 6)) 2 (sA (la w.params) 1387 2267 os) (restOf [] cE cM ⟨1124,0,1169,16⟩ [topFrame ⟨0,0,0,0⟩])=some (sA (la w.params) 1387 2267 os):=congrFun (NI w) os;have k12:topRun treeTable pw w 11 (some (.ref 6)) (642+(2)) (sA (L4 w.params) 1257 2056 os) (restOf (bx 145 20++[]) cE cM ⟨844,0,848,15⟩ [topFrame ⟨0,0,0,0⟩])=some (sA (la w.params) 1387 2267 os):=bU (OE w) os k13;have k11:topRun treeTable pw w 11 (some (.ref 6)) (973+(642+(2))) (sA (L2 w.params) 1035 1677 os) (restOf (bx 126 19++(bx 145 20++[])) cE cM ⟨702,0,714,40⟩ [topFrame ⟨0,0,0,0⟩])=some (sA (la w.params) 1387 2267 os):=bU (OD w) os k12;have k10:topRun treeTable pw w 11 (some (.ref 6)) (991+(973+(642+(2)))) (sA (L1 w.params) 922 1530 os) (restOf (bx 114 12++(bx 126 19++(bx 145 20++[]))) cE cM ⟨617,0,624,12⟩ [topFrame ⟨0,0,0,0⟩])=some (sA (la w.params) 1387 2267 os):=bU (OC w) os k11;have k9:topRun treeTable pw w 11 (some (.ref 6)) (864+(991+(973+(642+(2))))) (sA (T9 w.params) 837 1415 os) (restOf (bx 107 7++(bx 114 12++(bx 126 19++(bx 145 20++[])))) cE cM ⟨559,0,562,52⟩ [topFrame ⟨0,0,0,0⟩])=some (sA (la w.params) 1387 2267 os):=bU (OA w) os k10;have k8:topRun treeTable pw w 11 (some (.ref 6)) (901+(864+(991+(973+(642+(2)))))) (sA (T8 w.params) 745 1285 os) (restOf (bx 99 8++(bx 107 7++(bx 114 12++(bx 126 19++(bx 145 20++[]))))) cE cM ⟨460,0,465,63⟩ [topFrame ⟨0,0,0,0⟩])=some (sA (la w.params) 1387 2267 os):=bU (R9 w) os k9;have k7:topRun treeTable pw w 11 (some (.ref 6)) (771+(901+(864+(991+(973+(642+(2))))))) (sA (T7 w.params) 681 1199 os) (restOf (bx 96 3++(bx 99 8++(bx 107 7++(bx 114 12++(bx 126 19++(bx 145 20++[])))))) cE cM ⟨439,0,442,33⟩ [topFrame ⟨0,0,0,0⟩])=some (sA (la w.params) 1387 2267 os):=bU (R8 w) os k8;have k6:topRun treeTable pw w 11 (some (.ref 6)) (893+(771+(901+(864+(991+(973+(642+(2)))))))) (sA (T6 w.params) 552 1033 os) (restOf (bx 81 15++(bx 96 3++(bx 99 8++(bx 107 7++(bx 114 12++(bx 126 19++(bx 145 20++[]))))))) cE cM ⟨331,0,337,44⟩ [topFrame ⟨0,0,0,0⟩])=some (sA (la w.params) 1387 2267 os):=bU (R7 w) os k7;have k5:topRun treeTable pw w 11 (some (.ref 6)) (772+(893+(771+(901+(864+(991+(973+(642+(2))))))))) (sA (T5 w.params) 448 893 os) (restOf (bx 70 11++(bx 81 15++(bx 96 3++(bx 99 8++(bx 107 7++(bx 114 12++(bx 126 19++(bx 145 20++[])))))))) cE cM ⟨146,0,270,16⟩ [topFrame ⟨0,0,0,0⟩])=some (sA (la w.params) 1387 2267 os):=bU (RZ w) os k6;have k4:topRun treeTable pw w 11 (some (.ref 6)) (1010+(772+(893+(771+(901+(864+(991+(973+(642+(2)))))))))) (sA (T4 w.params) 259 653 os) (restOf (bx 69 1++(bx 70 11++(bx 81 15++(bx 96 3++(bx 99 8++(bx 107 7++(bx 114 12++(bx 126 19++(bx 145 20++[]))))))))) cE cM ⟨142,0,145,60⟩ [topFrame ⟨0,0,0,0⟩])=some (sA (la w.params) 1387 2267 os):=bU (RY w) os k5;have k3:topRun treeTable pw w 11 (some (.ref 6)) (222+(1010+(772+(893+(771+(901+(864+(991+(973+(642+(2))))))))))) (sA (T3 w.params) 238 625 os) (restOf (bx 68 1++(bx 69 1++(bx 70 11++(bx 81 15++(bx 96 3++(bx 99 8++(bx 107 7++(bx 114 12++(bx 126 19++(bx 145 20++[])))))))))) cE cM ⟨141,0,141,9⟩ [topFrame ⟨0,0,0,0⟩])=some (sA (la w.params) 1387 2267 os):=bU (RX w) os k4;have k2:topRun treeTable pw w 11 (some (.ref 6)) (962+(222+(1010+(772+(893+(771+(901+(864+(991+(973+(642+(2)))))))))))) (sA (T2 w.params) 152 459 os) (restOf (bx 46 22++(bx 68 1++(bx 69 1++(bx 70 11++(bx 81 15++(bx 96 3++(bx 99 8++(bx 107 7++(bx 114 12++(bx 126 19++(bx 145 20++[]))))))))))) cE cM ⟨88,0,92,24⟩ [topFrame ⟨0,0,0,0⟩])=some (sA (la w.params) 1387 2267 os):=bU (RW w) os k3;have k1:topRun treeTable pw w 11 (some (.ref 6)) (747+(962+(222+(1010+(772+(893+(771+(901+(864+(991+(973+(642+(2))))))))))))) (sA (T1 w.params) 92 376 os) (restOf (bx 43 3++(bx 46 22++(bx 68 1++(bx 69 1++(bx 70 11++(bx 81 15++(bx 96 3++(bx 99 8++(bx 107 7++(bx 114 12++(bx 126 19++(bx 145 20++[])))))))))))) cE cM ⟨73,0,77,24⟩ [topFrame ⟨0,0,0,0⟩])=some (sA (la w.params) 1387 2267 os):=bU (RV w) os k2;have k0:topRun treeTable pw w 11 (some (.ref 6)) (945+(747+(962+(222+(1010+(772+(893+(771+(901+(864+(991+(973+(642+(2)))))))))))))) (sA (T0 w.params) 15 187 os) (restOf (bx 0 43++(bx 43 3++(bx 46 22++(bx 68 1++(bx 69 1++(bx 70 11++(bx 81 15++(bx 96 3++(bx 99 8++(bx 107 7++(bx 114 12++(bx 126 19++(bx 145 20++[]))))))))))))) cE cM ⟨0,0,0,0⟩ [topFrame ⟨0,0,0,0⟩])=some (sA (la w.params) 1387 2267 os):=bU (RU w) os k1;rw [qP] at k0;have kb:topRun treeTable pw w 11 (some (.ref 6)) (1+(945+(747+(962+(222+(1010+(772+(893+(771+(901+(864+(991+(973+(642+(2))))))))))))))) (sA (T0 w.params) 15 187 os) ⟨denote treeTable cM,cM,⟨0,0,0,0⟩,[topFrame ⟨0,0,0,0⟩]⟩=some (sA (la w.params) 1387 2267 os):=piece_block (congrFun (Nl w) os) k0;exact go_top (congrFun (Gy w) os) kb
noncomputable def ja:List Str:=(["_wall", "K_NAME", "K_FUNC", "K_NONNULL", "K_PAREN", "K_OBJPAT", "K_ARRPAT", "K_BIND", "K_VAR", "K_DECL", "K_EXPRST", "K_IF", "K_WHILE", "K_DO", "K_FOR", "K_FOROF", "K_FORIN", "K_SWITCH", "K_CASE", "K_RETURN", "K_BREAK", "K_CONTINUE", "K_LABEL", "K_THROW", "K_TRY", "K_CATCH", "K_BLOCK", "K_EMPTY", "K_CLASS", "K_INTERFACE", "K_ALIAS", "K_ENUM", "F_REST", "F_BANG", "F_AMBIENT", "Node", "leaf", "twig", "flagged", "names_in_pattern", "KeepError", "TooDeep", "ParseStop", "HostFault", "Diag", "Diags", "T_END", "T_NAME", "T_WORD", "T_NUM", "T_STR", "T_SIGN", "T_TPL_WHOLE", "Token", "MAX_DEEP", "MAX_HEIGHT", "PART_TYPE", "PART_EXPR", "PART_STMT", "PART_BLOCK", "PART_FUNC", "PART_CLASS", "PART_PATTERN", "OWN_PARTS", "Part", "Parser", "read_apart", "is_token", "check_height", "eat_token", "names_prop", "literal_in_brackets", "read_prop_name", "LOOP_WORDS", "Reader", "StmtPart", "BlockPart", "read_statement", "read_rows", "read_condition", "is_declaration", "read_sub", "read_loop_body", "let_opens", "read_decl", "read_var", "check_var", "check_ambient", "check_bang", "read_var_row", "VarReader", "LetReader", "IfReader", "WhileReader", "DoReader", "ForReader", "read_for_first", "read_optional", "read_for_each", "SwitchReader", "read_case", "ends_case", "ReturnReader", "JumpReader", "label_row", "check_break", "check_continue", "LabelReader", "labels_loop", "ThrowReader", "TryReader", "read_catch", "stmt_words", "install_stmt_plain", "install_stmt_loops", "install_stmt_jumps", "PatternPart", "read_init", "tell_late_rest", "read_object_pattern", "read_prop_bind", "read_array_pattern", "read_item_bind", "_law_reserved", "_law_stops", "_law_take", "_law_bit", "_law_tell", "_law_put", "_law_end", "_law_name", "_law_key", "_law_init", "_law_item", "_law_entry", "_law_pattern", "_law_value", "_law_test", "_law_decl", "_law_vars", "_law_bang", "_law_check", "_law_sub", "_law_body", "_law_block", "_law_stop", "_law_jump", "_law_plain", "_law_each", "_law_for", "_law_loop", "_law_switch", "_law_try", "_law_label", "_law_statement", "_law_same", "_law_parser"]:List String).map Str.ofString
noncomputable def qv:Program:={pw with main:={pw.main with body:=[dt 164]}}
def iq:OpenRow:=PySem.Challenge.rw_sa0398_01.row
noncomputable def Na (s:Shared):Bool:=xlAt qv [] s&&recOk iq.toRowW.records s
theorem K5 (w:World):((H0 w.params).isNs mainGlobals&&(#[]:Array GenState).size==0,(H0 w.params).objs.size,(H0 w.params).nsMap mainGlobals "__annotations__")=(true,11,some (.ref 6)):=by kernel_rfl
theorem J2 (w:World):(λ(os:OsState)=>(staticsOk (importedModules pw.main.body) (H0 w.params) (HN w.params)&&namesBound pw (HN w.params)&&gensDone ⟨HN w.params,#[],{},2267,os⟩&&laidKept (H0 w.params) (HN w.params)))=λ_=>true:=by kernel_rfl
theorem Bw: @openSeen=PySem.W.Fast.tw4187177175401517315:=PySem.W.Fast.te4187177175401517315
theorem J3 (w:World):(λ(os:OsState)=>openSeen qv ja (importedModules pw.main.body) Na true ⟨HN w.params,#[],{},2267,os⟩)=λ_=>openGood qv ja:=by rw [Bw];kernel_rfl
theorem JY:LeftO pw qv ja Na (λs=>s.heap) (λw=>HN w.params) 12000:=
 LeftO.of_pieces (boot_open (by kernel_rfl) (by decide) (λs=>by kernel_rfl)) K5 Br (by decide) λw=>by
  funext os
  exact Prod.ext (congrFun (J2 w) os) (Prod.ext (congrFun (J3 w) os) rfl)
end MHead
end
noncomputable section
set_option maxRecDepth 100000
set_option maxHeartbeats 400000
namespace MHead
open PySem PySem.W PySem.Calls PyProof.Rows
abbrev uZ:Program:=PySem.Challenge.pw_sa0398_01
abbrev rl:OpenLaw:=PySem.Challenge.rw_sa0398_01
theorem Ls: @namesResolve=PySem.W.Fast.tw8377067652309620493:=PySem.W.Fast.te8377067652309620493
theorem yS: @noRoadLSs=PySem.W.Fast.tw8326940854005059898:=PySem.W.Fast.te8326940854005059898
theorem n8: @namesMeet=PySem.W.Fast.tw17119622794617984870:=PySem.W.Fast.te17119622794617984870
theorem Lp: @noClassBlock=PySem.W.Fast.tw8179353310426384613:=PySem.W.Fast.te8179353310426384613
theorem O7: @OpenLaw.namesIt=PySem.W.Fast.tw16286561074155671207:=PySem.W.Fast.te16286561074155671207
theorem Ln: @OpenLaw.bound'=PySem.W.Fast.tw797321630700447069:=PySem.W.Fast.te797321630700447069
theorem O8: @OpenLaw.reads=PySem.W.Fast.tw6984425678791042302:=PySem.W.Fast.te6984425678791042302
theorem D2: @OpenLaw.may=PySem.W.Fast.tw9572597257264208301:=PySem.W.Fast.te9572597257264208301
theorem qg: @List.contains Str _=PySem.W.Fast.tw3471404346716756564 (α:=Str):=by rw [PySem.W.Fast.te3471404346716756564]
theorem D3: @OpenLaw.own=PySem.W.Fast.tw10792542408131684335:=PySem.W.Fast.te10792542408131684335
theorem Lq: @importedModules=PySem.W.Fast.tw5923862056798008813:=PySem.W.Fast.te5923862056798008813
theorem Lr: @readsOut=PySem.W.Fast.tw13343964577679436407:=PySem.W.Fast.te13343964577679436407
theorem Lo: @Program.boundNames=PySem.W.Fast.tw18344453789297297638:=PySem.W.Fast.te18344453789297297638
theorem Lm: @attrL=PySem.W.Fast.tw17868728402115742887:=PySem.W.Fast.te17868728402115742887
theorem Lu: @sreFenced=PySem.W.Fast.tw11788848310118352699:=PySem.W.Fast.te11788848310118352699
theorem a1:sreFenced uZ.main=true:=by rw [Lu];kernel_rfl
theorem a2:((moduleNames uZ.main.body).isEmpty||lookedIntoSs (moduleNames uZ.main.body) uZ.main.body)=true:=by kernel_rfl
theorem a3:namesResolve uZ=true:=by rw [Ls];kernel_rfl
theorem a4:(uZ.boundNames.all λn=> !worldNames.contains n)=true:=by rw [Lo,qg];kernel_rfl
theorem a5:noRoadLSs {strict:= !(importedModules uZ.main.body).all cThrough.contains,foot:=none,bare:=(["vars", "dir", "locals"]:List Str).filter (readsOut uZ uZ.main.body)} uZ.main.body=true:=by rw [yS,Lq,Lr];kernel_rfl
theorem a6:(namesMeet uZ uZ.main.body λ_ n=>attrL n)=true:=by rw [n8,Lm];kernel_rfl
theorem FD:looksOpen uZ=true:=by
 unfold looksOpen;exact look_both (look_both (look_both (look_both (look_both a1 a2) a3) a4) a5) a6
theorem b1:rl.row.partSaid=true:=by
 unfold OpenRow.partSaid;rw [show looksOpen rl.row.prog=true from FD]
 kernel_rfl
theorem b2:rl.row.wellSaid=true:=by
 unfold OpenRow.wellSaid;rw [b1,qg,Lo]
 kernel_rfl
theorem c1:noClassBlock rl.prog rl.footing=true:=by rw [Lp];kernel_rfl
theorem c2:noRoadLSs {strict:=true,foot:=some rl.bound',writes:=rl.writes,may:=rl.may} rl.footing=true:=by rw [yS,Ln,D2];kernel_rfl
theorem c3:rl.namesIt=true:=by rw [O7];kernel_rfl
theorem c4:(rl.bound'.all λn=> !builtinNamed n||rl.about==[n]|| !rl.reads n)=true:=by rw [Ln,O8,PySem.W.Fast.named_eq,PySem.W.R.allR_eq];kernel_rfl
theorem c5:(namesMeet rl.prog rl.footing (λsc n=>(!(["type", "isinstance", "issubclass", "getattr", "hasattr"]:List Str).contains n||sc.names.lookup n==some .globalImplicit)&&
  (rl.may !=some n||sc.kind== .module||sc.names.lookup n==some .globalImplicit)))=true:=by rw [n8,qg,D2];kernel_rfl
theorem c6:(rl.own.contains rl.name&&rl.own.eraseDups.length==rl.own.length&&rl.own.all (λn=> !builtinNamed n))=true:=by rw [D3,qg];kernel_rfl
theorem c7:(namesMeet rl.prog rl.above (λ_ n=> !rl.own.contains n))=true:=by rw [n8,qg,D3];kernel_rfl
theorem c8:(namesMeet rl.prog rl.footing λsc n=>sc.kind== .module||sc.names.lookup n !=some .globalExplicit)=true:=by rw [n8];kernel_rfl
theorem KW:rl.wellSaid=true:=by
 unfold OpenLaw.wellSaid
 simp only [b2,c1,c2,c3,c4,c5,c7,c8,Bool.true_and,Bool.and_true]
 have:=c6
 simp only [Bool.and_eq_true] at this
 simp only [this.1.1,this.1.2,this.2,Bool.true_and,Bool.and_true]
 kernel_rfl
end MHead
end
noncomputable section
set_option maxRecDepth 100000
set_option maxHeartbeats 400000
namespace MHead
open PySem PySem.W PySem.Calls PyProof.Rows
noncomputable def pz:DefRec:=match dt 164 with
 | .FunctionDef name args body _ _ _ scope _ _ pos=>⟨name,args,body,scope,pos⟩
 |_=>⟨"",default,[],default,default⟩
noncomputable def YL (w:World)(h:Heap):Prop:= ∀b o,(HN w.params).get? b=some o→h.get? b=some o
theorem d1:defOf qv iq.name=some (pz,[]):=by kernel_rfl
theorem d2:iq.prog.theDef iq.name=some (pz.params,pz.body,pz.scope):=by kernel_rfl
theorem d3:kwWritten? pz.params.kwonlyargs pz.params.kw_defaults=some []:=by kernel_rfl
theorem d4:(chainsOk qv&&opensWell iq.prog&&(frees iq.toRowW&&iq.within.isEmpty))=true:=by kernel_rfl
theorem d5:iq.prog.bare:=⟨rfl,rfl,rfl,rfl,rfl,by kernel_rfl⟩
theorem d6:iq.toRowW.promised:=by w_witness2
noncomputable abbrev CC:Prop:=WalkO qv ja (XL qv []) YL iq.toRowW pz [] λf vs=>PySem.call f vs
theorem zq (call:CC):PySem.Challenge.rw_sa0398_01.Holds:=
 ⟨KW,holds_open (r:=iq) (Xt:=Na) (XP:=XL qv []) (YP:=YL) JY (λw s e b o h=>by rw [show s.heap=HN w.params from e];exact h) (λw h h' y k b o e=>k _ _ (y b o e))
  (λs e=>xl_of s (Bool.and_eq_true_iff.mp e).1) XL.keeps d1 d2 d3 (λs e=>recFacts_of (Bool.and_eq_true_iff.mp e).2) (by rfl) b2 d4 d5 d6 call⟩
end MHead
end
noncomputable section
set_option maxRecDepth 100000
set_option maxHeartbeats 0
namespace Mine
open PySem PySem.W PySem.Calls PyProof.Rows PySem.SeqAt
@[irreducible] noncomputable def L9:List (N×Addr):=[(1717658988,49),(1734965108,56),(Wc,63),(SE,70),(Tg,172),(SV,194),(U6,201),(UI,272),(VM,279),(TF,286),(Um,293),(Sv,300),(Tr,307),(Ts,314),(Ss,321),(S9,328),(Uw,342),(Ut,349),(Uu,356),(Uv,363),(Vl,377),(Sw,384),(Tp,391),(SW,398),(VA,405),(VT,412),(Sr,419),(VL,454),(Vn,461),(S5,468),(Vu,475),(VI,482),(TN,489),(Tz,496),(SH,511),(Uk,539),(US,546),(Ta,565),(Su,577),(TZ,584),(Ug,591),(Tt,598),(Tn,605),(TA,612),(TG,619),(S7,626),(Vo,633),(UB,640),(U9,647),(Vg,654),(Vm,661),(UP,675),(UN,694),(UQ,701),(U7,720),(Uq,739),(U8,758),(Tx,777),(Td,789),(Ux,796),(S6,803),(S4,817),(Th,829),(U2,836),(Ul,850),(UL,869),(Tv,881),(UU,888),(Ue,895),(Ur,909),(SK,921),(Us,935),(UR,954),(Vh,966),(VJ,973),(Ub,980),(TU,987),(TR,994),(SG,1008),(Vy,1020),(UT,1027),(Tc,1034),(Ud,1041),(Ti,1048),(Uc,1055),(TV,1172),(TL,1179),(UA,1186),(Tb,1193),(VN,1200),(Uy,1207),(Vq,1214),(U5,1221),(Vt,1228),(Vj,1235),(SU,1242),(Uh,1249),(Vz,1256),(Uz,1263),(Vx,1270),(Vr,1277),(Uj,1284),(UE,1291),(UC,1298),(UK,1303),(S8,1310),(SY,1315),(SS,1322),(To,1329),(U0,1336),(TY,1343),(Te,1348),(U1,1355),(SR,1360),(Sy,1367),(SA,1374),(VB,1381),(Sz,1386)]
@[irreducible] noncomputable def Q8:List (N×Addr):=[(Ve,38),(UO,175),(VX,211),(TK,232),(VD,443),(Vp,549),(TH,568),(U3,678),(Vv,704),(VP,723),(UW,742),(VQ,761),(U4,780),(Ua,820),(UG,853),(UM,872),(UX,912),(UY,938),(Vw,957),(SD,1011)]
@[irreducible] noncomputable def Md:List Addr:=[3,38,88,109,129,149,175,211,232,254,443,521,549,568,678,704,723,742,761,780,820,853,872,912,938,957,1011,37,87,108,128,148,174,210,231,253,442,520,548,567,677,703,722,741,760,779,819,852,871,911,937,956,1010,49,56,63,70,172,194,201,272,279,286,293,300,307,314,321,328,342,349,356,363,377,384,391,398,405,412,419,454,461,468,475,482,489,496,511,539,546,565,577,584,591,598,605,612,619,626,633,640,647,654,661,675,694,701,720,739,758,777,789,796,803,817,829,836,850,869,881,888,895,909,921,935,954,966,973,980,987,994,1008,1020,1027,1034,1041,1048,1055,1172,1179,1186,1193,1200,1207,1214,1221,1228,1235,1242,1249,1256,1263,1270,1277,1284,1291,1298,1303,1310,1315,1322,1329,1336,1343,1348,1355,1360,1367,1374,1381,1386,35,229,165,126,48,55,62,69,171,193,200,271,278,285,292,299,306,313,320,327,341,348,355,362,376,383,390,397,404,411,418,453,460,467,474,481,488,495,510,538,545,564,576,583,590,597,604,611,618,625,632,639,646,653,660,674,693,700,719,738,757,776,788,795,802,816,828,835,849,868,880,887,894,908,920,934,953,965,972,979,986,993,1007,1019,1026,1033,1040,1047,1054,1171,1178,1185,1192,1199,1206,1213,1220,1227,1234,1241,1248,1255,1262,1269,1276,1283,1290,1297,1302,1309,1314,1321,1328,1335,1342,1347,1354,1359,1366,1373,1380,1385,34,228,164,125,119,187,237,497,1056,1057,1058,1059,1060,1061,1062,1063,1064,1065,1066,1067,1068,1069,1070,1071,1072,1073,1074,1075,1076,1077,1078,1079,1080,1081,1082,1083,1084,1085,1086,1087,1088,1089,1090,1091,1092,1093,1094,1095,1096,1097,1098,1099,1100,1101,1102,1103,1104,1105,1106,1107,1108,1109,1110,1111,1112,1113,1114,1115,1116,1117,1118,1119,1120,1121,1122,1123,1124,1125,1126,1127,1128,1129,1130,1131,1132,1133,1134,1135,1136,1137,1138,1139,1140,1141,1142,1143,1144,1145,1146,1147,1148,1149,1150,1151,1152,1153,1154,1155,1156,1157,1158,1159,1160,1161,1162,1163,1164,1165,1]
@[irreducible] noncomputable def Fm (P:Params)(a:Addr):Obj:=((MHead.la P).get a).getD default
noncomputable def Nd:Option Obj→Bool
 |some o=>(match o.data with| .freed=>false|_=>true)
 |none=>false
@[irreducible] noncomputable def KN (P:Params):Frag:=Md.map λa=>(a,Fm P a)
noncomputable def fA (f:N):Addr:=(bt L9 f).getD 1386
noncomputable def cA (c:N):Addr:=(bt Q8 c).getD 0
noncomputable def DW (w:World)(mg mb:Str→Option Value):Wd:={w:=w,q:=MHead.qv,K:=KN w.params,ca:=cA,fa:=fA,ps:=129,loose:=looseW MHead.qv MHead.ja,mg:=mg,mb:=mb}
theorem kz {f:Addr→Obj}: ∀{l:List Addr} {a:Addr} {o:Obj},(l.map λa=>(a,f a)).lookup a=some o→a∈l∧o=f a
 |[],_,_,h=>nomatch h
 |b::l,a,o,h=>by
  rw [List.map_cons,List.lookup_cons] at h;by_cases q:a=b
  ·subst q
   simp only [beq_self_eq_true] at h
   cases h;exact ⟨.head _,rfl⟩
  ·have:(a==b)=false:=by simpa using q
   rw [this] at h;obtain ⟨h1,h2⟩:=kz h;exact ⟨.tail _ h1,h2⟩
theorem AI (P:Params):(Md.all λa=>decide (a<1387)&&Nd ((MHead.la P).get a))=true:=by kernel_rfl
theorem JD {t:BT}{l:List Addr}(hs:(l.all λa=>decide (a<1387)&&Nd (t.get a))=true){h:Heap}(y: ∀b o,(absHeap t 1387 {}).get? b=some o→h.get? b=some o):Frag.In (l.map λa=>(a,(t.get a).getD default)) h:=λa o e=>by
 obtain ⟨h1,rfl⟩:=kz e;have h2:=Wu hs a h1
 simp only [Bool.and_eq_true,decide_eq_true_eq] at h2
 obtain ⟨h2,h3⟩:=h2;unfold Nd at h3;cases q:t.get a with
 |none=>rw [q] at h3;cases h3
 |some o=>
  rw [q] at h3;refine y _ _ ((abs_get h2 q).trans ?_);obtain ⟨oc,od,dt,sl⟩:=o;cases dt<;>first|rfl|cases h3
theorem JU {w:World}{h:Heap}(y: ∀b o,(MHead.HN w.params).get? b=some o→h.get? b=some o):(KN w.params).In h:=by
 unfold KN Fm;exact JD (AI w.params) y
theorem AG {P:Params}{a:Addr}{o:Obj}(e:(KN P).lookup a=some o):a∈Md∧o=Fm P a:=by
 unfold KN at e;exact kz e
end Mine
end
noncomputable section
namespace Mine
open PySem PySem.W PySem.Calls PyProof.Rows PySem.SeqAt
noncomputable def rk (x:Option (Option Value)):Bool:=match x with
 |some none=>true
 |_=>false
theorem nk {x:Option (Option Value)}(h:rk x=true):x=some none:=by
 unfold rk at h;revert h;cases x with
 |none=>exact bK
 |some y=>cases y with
  |none=>exact λZ=>rfl
  |some v=>exact bK
noncomputable def JH:Value→Option Int
 | .int j _=>some j
 |_=>none
noncomputable def Le:Value→Option Str
 | .str s _=>some s
 |_=>none
noncomputable def GG:Value→Option Addr
 | .ref a=>some a
 |_=>none
noncomputable def Pf:Value→Option String
 | .type a=>some a
 |_=>none
noncomputable def PN:Value→Option String
 | .builtin a=>some a
 |_=>none
noncomputable def PJ:Data→Option (List Value)
 | .seq ar _=>some ar.toList
 |_=>none
section
variable {u:Value}{P:Prop}{o:Obj}{us:List Value}{K:Frag}
theorem uD {i:Int}:JH u=some i→ ∃t,u= .int i t:=by
 cases u with
 |int j t=>exact λh=>⟨t,WJ (λj=>Value.int j t) (cH h)⟩
 |_=>exact no
theorem vp {i:Str}:Le u=some i→ ∃t,u= .str i t:=by
 cases u with
 |str j t=>exact λh=>⟨t,WJ (λj=>Value.str j t) (cH h)⟩
 |_=>exact no
theorem mr {i:Addr}:GG u=some i→u= .ref i:=by
 cases u with
 |ref j=>exact λh=>WJ Value.ref (cH h)
 |_=>exact no
theorem qn {i:String}:Pf u=some i→u= .type i:=by
 cases u with
 |type j=>exact λh=>WJ Value.type (cH h)
 |_=>exact no
theorem v9 {i:String}:PN u=some i→u= .builtin i:=by
 cases u with
 |builtin j=>exact λh=>WJ Value.builtin (cH h)
 |_=>exact no
theorem vX {d:Data}:PJ d=some us→ ∃e,d= .seq us.toArray e:=by
 cases d with
 |seq j e=>exact λh=>⟨e,WJ (λl=>Data.seq l e) (WJ List.toArray (cH h))⟩
 |_=>exact no
noncomputable def Az (x:Option (Option Value))(a:Addr):Bool:=match x with
 |some (some v)=>decide (GG v=some a)
 |_=>false
theorem ia {x:Option (Option Value)}{a:Addr}(h:Az x a=true):x=some (some (.ref a)):=by
 cases x with
 |none=>exact bK h
 |some y=>cases y with
  |none=>exact bK h
  |some v=>exact WJ (λv=>some (some v)) (mr (Wy h))
noncomputable def uE (x:Option (Option Value))(t:String):Bool:=match x with
 |some (some v)=>decide (PN v=some t)
 |_=>false
theorem nj {x:Option (Option Value)}{t:String}(h:uE x t=true):x=some (some (.builtin t)):=by
 cases x with
 |none=>exact bK h
 |some y=>cases y with
  |none=>exact bK h
  |some v=>exact WJ (λv=>some (some v)) (v9 (Wy h))
noncomputable def tS (K:Frag)(a:Addr):Bool:=match typeIn K (.ref a) with
 |some v=>decide (Pf v=some "function")
 |none=>false
theorem qo {K:Frag}{a:Addr}(h:tS K a=true):typeIn K (.ref a)=some (.type "function"):=by
 unfold tS at h;revert h;cases typeIn K (.ref a) with
 |none=>exact bK
 |some v=>exact λh=>WJ some (qn (Wy h))
noncomputable def JI (o:Obj):Bool:=decide (Pf o.cls=some "tuple")&&(o.dict.isNone&&o.slots.toList.isEmpty)
noncomputable def GY (o:Obj):Option (List Value):=if JI o then PJ o.data else none
theorem vb (h:GY o=some us)(k: ∀e,o=fQ us e→P):P:=by
 unfold GY at h;by_cases q:JI o
 ·rw [WE q] at h;obtain ⟨q1,q⟩:=Ws q;obtain ⟨q2,q3⟩:=Ws q;obtain ⟨c,d,dt,sl⟩:=o;obtain ⟨e,e2⟩:=vX h;have e1:c=_:=qn (Wy q1);have e2:dt=_:=e2;have e3:d=none:=Option.isNone_iff_eq_none.mp q2;have e4:sl= #[]:=Array.toList_inj.mp (Ww q3);subst e1 e2 e3 e4;exact k e rfl
 ·rw [WG q] at h;exact nomatch h
noncomputable def Cq (K:Frag)(u:Value):Option (List Value):=((GG u).bind λa=>K.lookup a).bind GY
theorem vz (h:Cq K u=some us)(k: ∀a e,u= .ref a→K.lookup a=some (fQ us e)→P):P:=by
 obtain ⟨o,h1,h2⟩:=Option.bind_eq_some_iff.mp h;obtain ⟨a,h3,h4⟩:=Option.bind_eq_some_iff.mp h1;exact vb h2 λe e2=>k a e (mr h3) (e2▸h4)
end
noncomputable def Ig (f:V→Value→Bool)(l:List V):Option (List Value)→Bool
 |some us=>Nat.beq l.length us.length&&(l.zip us).all λp=>f p.1 p.2
 |none=>false
noncomputable def GH (K:Frag)(n:Nat):V→Value→Bool:=n.rec (λZ Z=>false) λZ f v u=>match v with
 | .int i=>decide (JH u=some i)
 | .str n=>decide (Le u=some (nm n))
 | .au l=>Ig f l (Cq K u)
 |_=>false
theorem bB {a b:Bool}{p:Prop}(h:(a&&b)=true)(k:a=true→b=true→p):p:=k (Ws h).1 (Ws h).2
theorem qq {α β:Type}{R:α→β→Prop}{f:α→β→Bool}(h: ∀a b,f a b=true→R a b){l:List α}: ∀{q:List β},l.length=q.length→(l.zip q).all (λp=>f p.1 p.2)=true→bZ R l q:=by
 induction l with
 |nil=>intro q e _;cases q with
  |nil=>exact .nil
  |cons=>exact nomatch e
 |cons a l ih=>intro q e z;cases q with
  |nil=>exact nomatch e
  |cons b q=>exact bB (show (f a b&&(l.zip q).all (λp=>f p.1 p.2))=true from z) λh1 h2=> .cons (h a b h1) (ih (Nat.succ.inj e) h2)
theorem Bo {D:Wd}(n:Nat): ∀(v:V) (u:Value),GH D.K n v u=true→aU D [] [] v u:=by
 induction n with
 |zero=>exact λZ Z h=>nomatch h
 |succ n ih=>
  intro v u h;cases v with
  |int i=>exact (uD (Wy h)).elim λt e=>e▸ .int _ _
  |str n=>exact (vp (Wy h)).elim λt e=>e▸ .str _ _
  |au l=>
   have h:Ig (GH D.K n) l (Cq D.K u)=true:=h;cases q:Cq D.K u with
   |none=>rw [q] at h;exact nomatch h
   |some us=>
    rw [q] at h;exact vz q λa e e1 e2=>bB h λh3 h4=>e1▸ .DC (.inr e2) (qq ih (WI h3) h4)
  |_=>exact nomatch h
noncomputable def Jk (K:Frag)(fd:FuncData)(ps:List N)(ks:List (Str×NameKind)):Bool:=Nat.beq fd.globals mainGlobals&&(Nat.beq fd.builtins builtinsNs&&(fd.closure.isEmpty&&(codeIn K fd.code fd.qualname&&(decide (fd.params.args.map (·.arg)=ps.map nm)&&(decide ((ps.map nm).Nodup)&&
 (((ps.map nm).all λy=>ks.lookup y==some .local||ks.lookup y==some .cell)&&(decide (((cellsFrom 0 ks []).map (·.1)).Nodup)&&(!fd.scope.isCoroutine&&(!fd.scope.isGenerator&&decide (fd.scope.kind= .function))))))))))
noncomputable def P6:Data→Option FuncData
 | .func fd=>some fd
 |_=>none
theorem wV {d:Data}{fd:FuncData}:P6 d=some fd→d= .func fd:=by
 cases d with
 |func j=>exact λh=>WJ Data.func (cH h)
 |_=>exact no
noncomputable def P7 (K:Frag)(a:Addr):Option FuncData:=(K.lookup a).bind λo=>P6 o.data
noncomputable def gR (K:Frag)(a:Addr):FuncData:=(P7 K a).getD default
noncomputable def Hx (K:Frag)(a:Addr):Bool:=(P7 K a).isSome
section
variable {D:Wd}{K:Frag}{a:Addr}{ps:List N}{df:List V}{ks:List (Str×NameKind)}{body:List Stmt}
theorem E7 (h:Hx K a=true): ∃fo,K.lookup a=some fo∧fo.data= .func (gR K a):=by
 obtain ⟨fd,h⟩:=Option.isSome_iff_exists.mp h;obtain ⟨fo,h1,h2⟩:=Option.bind_eq_some_iff.mp h;refine ⟨fo,h1,?_⟩;unfold gR;rw [h];exact wV h2
theorem m9 (h0:Hx D.K a=true)(h:Jk D.K (gR D.K a) ps ks=true)(h1:(gR D.K a).body= .stmts body)(h2:(gR D.K a).scope.names=ks)
  (hb: ∀(s:Shared) (us:List Value),D.K.In s.heap→us.length+(df.drop (df.length+us.length - ps.length)).length=ps.length→
   ∃ds,(∀(fz:aJ) (αs:List Addr),aH D fz αs (df.drop (df.length+us.length - ps.length)) ds)∧BindsTo s (gR D.K a) ⟨us,[]⟩ ((ps.map nm).zip (us++ds))):lu D a ps df ks body (gR D.K a):=by
 subst h2;exact bB h λc1 h=>bB h λc2 h=>bB h λc3 h=>bB h λc4 h=>bB h λc5 h=>bB h λc6 h=>bB h λc7 h=>bB h λc8 h=>bB h λc9 h=>bB h λc10 c11=>
  ⟨E7 h0,h1,rfl,WI c1,WI c2,Ww c3,c4,hb,Wy c6,c7,Wy c8,aY c9,aY c10,Wy c11⟩
theorem iY {s:Shared}{fd:FuncData}{args:Args}{binds:List (Str×Value)}(X:K.In s.heap)(e: ∀S,peek K S (bindArgs fd args)=some binds):BindsTo s fd args binds:=
 λM Z Z Z q=>(Looks.of_peek (M:=M) X (e _)).here q
noncomputable def Ij (v:Nat→Value)(ps:List N):List Value:=(List.range ps.length).map v
noncomputable def t7 (K:Frag)(S:Setting)(v:Nat→Value)(a:Addr)(ps:List N):Option (List (Str×Value)):=peek K S (bindArgs (gR K a) ⟨Ij v ps,[]⟩)
noncomputable def t8 (v:Nat→Value)(ps:List N):Option (List (Str×Value)):=some ((ps.map nm).zip (Ij v ps))
theorem km (h0:Hx D.K a=true)(h:Jk D.K (gR D.K a) ps ks=true)(hp: ∀S v,t7 D.K S v a ps=t8 v ps)(h1:(gR D.K a).body= .stmts body)(h2:(gR D.K a).scope.names=ks):lu D a ps [] ks body (gR D.K a):=by
 refine m9 h0 h h1 h2 λs us hin hl=>⟨[],λZ Z=>by rw [List.drop_nil];exact .nil,?_⟩;rw [List.drop_nil] at hl;obtain ⟨v,rfl⟩:=kx .none (show us.length=ps.length from hl);rw [Wr];exact iY hin λS=>hp S v
end
noncomputable def Gg (x:Option (Option Value))(p:Option Value→Bool):Bool:=match x with
 |some a=>p a
 |none=>false
noncomputable def NO (K:Frag)(c n:N):Bool:=plainGet K (cA c) (nm n)&&(hasDictIn K (cA c)&&(Gg (findIn K (.ref (cA c)) (nm n)) (noGet K)&&(uE (findIn K (.ref (cA c)) "__setattr__") "object.__setattr__" &&(plainOver K (cA c)&&rk (takerIn K (cA c) (nm n))))))
noncomputable def Nq (K:Frag):Bool:=Cp.all (λf=>Az (nsIn K mainGlobals (nm f)) (fA f))&&(lG.all (λf=>keepIn K (.ref (fA f)))&&(uk.all (λc=>Az (nsIn K mainGlobals (nm c)) (cA c))&&uk.all λc=>keepIn K (.ref (cA c))))
noncomputable def Nv (K:Frag):Bool:=v3.all λp=>p.2.all λn=>NO K p.1 n
noncomputable def Nw (K:Frag):Bool:=(pE.all λp=>p.2.all λq=>plainGet K (cA p.1) (nm q.1)&&Az (findIn K (.ref (cA p.1)) (nm q.1)) (fA q.2))&&((L9.all λp=>isFn K (.ref p.2))&&isFn K (.ref 1386))
noncomputable def Nu (K:Frag):Bool:=(Jv.all λp=>Gg (nsIn K mainGlobals (nm p.1)) λu=>match u with
 |some u=>GH K 5 p.2 u
 |none=>false)&&[Str.ofString "len",Str.ofString "sum",Str.ofString "sorted",Str.ofString "range",Str.ofString "str"].all λs=>rk (nsIn K mainGlobals s)
noncomputable def IW (K:Frag):Bool:=wR.all λp=> !p.2.isEmpty||(makesIn K (cA p.1)&&uE (findIn K (.ref (cA p.1)) "__init__") "object.__init__")
noncomputable def Oh (K:Frag)(a fI:Addr):Bool:=makesIn K a&&(Az (findIn K (.ref a) "__init__") fI&&tS K fI)
noncomputable def IV (K:Frag):Bool:=Dt.all λp=>Oh K (cA p.1) (fA p.2)
noncomputable def G6:FuncBody→Option (List Stmt)
 | .stmts b=>some b
 |_=>none
noncomputable def uf (K:Frag)(a:Addr):List Stmt:=(G6 (gR K a).body).getD []
noncomputable def EE (K:Frag)(a:Addr):Bool:=(G6 (gR K a).body).isSome
noncomputable def Ez:Stmt→Option (Expr×Expr)
 | .Assign ts v _=>if ts.length=1 then ts.head?.map λt=>(t,v) else none
 |_=>none
noncomputable def NW (p:N×N)(st:Stmt):Bool:=match Ez st with
 |some q=>(match vZ q.1 with
  |some r=>decide (gi r.1=some (nm SN))&&(decide (r.2=nm p.1)&&(if p.2=0 then decide (rh q.2=some 0) else decide (gi q.2=some (nm p.2))))
  |none=>false)
 |none=>false
noncomputable def xg (it:List (N×N))(body:List Stmt):Bool:=Nat.beq it.length body.length&&(it.zip body).all λp=>NW p.1 p.2
noncomputable abbrev nK (it:List (N×N)):List N:=SN::(it.map (·.2)).filter λy=>decide (y≠0)
noncomputable def Ar (K:Frag)(c:N)(it:List (N×N))(fI:Addr):Bool:=Oh K (cA c) fI&&(Hx K fI&&(Jk K (gR K fI) (nK it) (gR K fI).scope.names&&(EE K fI&&(xg it (uf K fI)&&decide (gP c=some (it.map (·.1)))))))
noncomputable def Sd (K:Frag):Bool:=Az (nsIn K mainGlobals (nm Tu)) 129&&(keepIn K (.ref 129)&&(Az (findIn K (.ref 129) "__init__") 126&&(tS K 126&&(Hx K 126&&(Jk K (gR K 126) [SN,Tf] (gR K 126).scope.names&&(EE K 126&&(xg [(SM,0),(Tf,Tf)] (uf K 126)&&
 (uE (findIn K (.ref 129) "__setattr__") "object.__setattr__" &&(rk (takerIn K 129 (nm SM))&&rk (takerIn K 129 (nm Tf)))))))))))
noncomputable def Nr (K:Frag):Bool:=lG.all λf=>Hx K (fA f)&&(Jk K (gR K (fA f)) (jz f) (pG f)&&(decide (f=SV)||(iG f).isEmpty))
section
variable (P:Params)
theorem Ru:Nq (KN P)=true:=by kernel_rfl
theorem Rx:Nv (KN P)=true:=by kernel_rfl
theorem Ry:Nw (KN P)=true:=by kernel_rfl
theorem Rw:Nu (KN P)=true:=by kernel_rfl
theorem N5:IW (KN P)=true:=by kernel_rfl
theorem N1:IV (KN P)=true:=by kernel_rfl
theorem JN:Ar (KN P) Ve pH 35=true:=by kernel_rfl
theorem N6:Ar (KN P) TK yY 229=true:=by kernel_rfl
theorem JM:Ar (KN P) UO oU 165=true:=by kernel_rfl
theorem Rz:Sd (KN P)=true:=by kernel_rfl
theorem Rv:Nr (KN P)=true:=by kernel_rfl
theorem NY (S:Setting)(v:Nat→Value):lG.map (λf=>t7 (KN P) S v (fA f) (jz f))=lG.map (λf=>t8 v (jz f)):=by kernel_rfl
theorem Ie (S:Setting)(v:Nat→Value):t7 (KN P) S v 35 (nK pH)=t8 v (nK pH):=by kernel_rfl
theorem Nb (S:Setting)(v:Nat→Value):t7 (KN P) S v 229 (nK yY)=t8 v (nK yY):=by kernel_rfl
theorem Ic (S:Setting)(v:Nat→Value):t7 (KN P) S v 165 (nK oU)=t8 v (nK oU):=by kernel_rfl
theorem NZ:lG.map (λf=>(gR (KN P) (fA f)).body)=lG.map (λf=> .stmts (dQ f)):=by kernel_rfl
theorem N4:lG.map (λf=>(gR (KN P) (fA f)).scope.names)=lG.map pG:=by kernel_rfl
end
theorem t9 {st:Stmt}{t v:Expr}{P:Prop}(h:Ez st=some (t,v))(k: ∀p,st= .Assign [t] v p→P):P:=by
 cases st with
 |Assign ts v' p=>
  have h:(if ts.length=1 then ts.head?.map λt=>(t,v') else none)=some (t,v):=h;by_cases q:ts.length=1
  ·rw [WE q] at h;obtain ⟨t',e⟩:=List.length_eq_one_iff.mp q;subst e;cases h;exact k _ rfl
  ·rw [WG q] at h;exact nomatch h
 |_=>exact nomatch h
theorem vm {b:FuncBody}{l:List Stmt}(h:G6 b=some l):b= .stmts l:=by
 cases b with
 |stmts=>cases h;rfl
 |_=>exact nomatch h
section
variable {w:World}{mg mb:Str→Option Value}{K:Frag}{D:Wd}{c n f:N}{a fI:Addr}{it:List (N×N)}{body:List Stmt}{st:Stmt}{p:N×N}
theorem Jn:Pr (DW w mg mb):=bB (Ru w.params) λh1 h=>bB h λh2 h=>bB h λh3 h4=>
 ⟨λf hf=>ia (Wu h1 f hf),Wu h2,λc hc=>ia (Wu h3 c hc),Wu h4⟩
theorem mm {x:Option (Option Value)}{p:Option Value→Bool}(h:Gg x p=true): ∃a,x=some a∧p a=true:=by
 cases x with
 |none=>exact nomatch h
 |some a=>exact ⟨a,rfl,h⟩
theorem JV (hc:hZ c n=true):jj (DW w mg mb) c n:=by
 unfold hZ C0 at hc;cases hl:bt v3 c with
 |none=>rw [hl] at hc;exact nomatch hc
 |some l=>
  rw [hl] at hc;have:=Wu (Wu (Rx w.params) _ (aZ hl)) n (List.contains_iff_mem.mp hc);exact bB this λa1 h=>bB h λa2 h=>bB h λa3 h=>bB h λa4 h=>bB h λa5 a6=>⟨a1,a2,mm a3,nj a4,a5,nk a6⟩
set_option tactic.hygienic true in
theorem uN (h:gU c n=some f): ∃l,(c,l)∈pE∧(n,f)∈l:=by
 unfold gU at h
 split at h
 ·rename_i l hl;exact ⟨_,aZ hl,aZ h⟩
 ·exact nomatch h
theorem J7:PC (DW w mg mb):=bB (Ry w.params) λh1 h=>bB h λh2 h3=>by
 have iu: ∀c n f,gU c n=some f→plainGet (KN w.params) (cA c) (nm n)=true∧Az (findIn (KN w.params) (.ref (cA c)) (nm n)) (fA f)=true:=λc n f hm=>by
  obtain ⟨l,hp,hq⟩:=uN hm;exact Ws (Wu (Wu h1 _ hp) _ hq)
 refine ⟨λc n f hm=>(iu c n f hm).1,λc n f hm=>ia (iu c n f hm).2,λf=> ?_⟩;show isFn (KN w.params) (.ref ((bt L9 f).getD 1386))=true;cases hl:bt L9 f with
 |none=>exact h3
 |some a=>exact Wu h2 _ (aZ hl)
theorem Jx:MK (DW w mg mb):=bB (Rw w.params) λh1 h=>by
 have z:=λs hs=>nk (Wu h s hs);refine ⟨λx v hv=> ?_,z _ (.head _),z _ (.tail _ (.head _)),z _ (.tail _ (.tail _ (.head _))),z _ (.tail _ (.tail _ (.tail _ (.head _)))),z _ (.tail _ (.tail _ (.tail _ (.tail _ (.head _)))))⟩;obtain ⟨u,e,h⟩:=mm (Wu h1 (x,v) (aZ hv));cases u with
 |none=>exact nomatch h
 |some u=>exact ⟨u,e,Bo (D:=DW w mg mb) 5 v u h⟩
theorem DD (h:Oh D.K a fI=true):Eg D a fI:=bB h λh1 h=>bB h λh2 h3=>⟨h1,ia h2,qo h3⟩
theorem JE (h:NW p st=true): ∃v p1 p2 p3,st= .Assign [.Attribute (.Name (nm SN) p1) (nm p.1) p2] v p3∧if p.2=0 then∃k p4,v= .Constant (.int 0) k p4 else∃p4,v= .Name (nm p.2) p4:=by
 unfold NW at h;cases hq:Ez st with
 |none=>rw [hq] at h;exact nomatch h
 |some q=>
  rw [hq] at h;obtain ⟨t,v⟩:=q;dsimp only at h;cases hr:vZ t with
  |none=>rw [hr] at h;exact nomatch h
  |some r=>
   rw [hr] at h;obtain ⟨o,s⟩:=r;refine bB h λh1 h=>bB h λh2 h3=>t9 hq λp3 e=>(lQ hr).elim λp2 e2=>cb (Wy h1) λp1 e3=> ?_;have e4:s=nm p.1:=Wy h2;subst e4;subst e;subst e2;subst e3;refine ⟨v,p1,p2,p3,rfl,?_⟩;by_cases q:p.2=0
   ·rw [WE q] at h3⊢;exact eX (Wy h3) λk p4 e=>⟨k,p4,e⟩
   ·rw [WG q] at h3⊢;exact cb (Wy h3) λp4 e=>⟨p4,e⟩
theorem su (h:xg it body=true):o7 it body:=bB h λh1 h2=>qq (λZ Z h=>JE h) (WI h1) h2
theorem we (h:EE K a=true):(gR K a).body= .stmts (uf K a):=by
 obtain ⟨b,e⟩:=Option.isSome_iff_exists.mp h;unfold uf;rw [e];exact vm e
theorem qZ (h:Ar D.K c it fI=true)(h4: ∀S v,t7 D.K S v fI (nK it)=t8 v (nK it))(e:cA c=D.ca c):vM D c it (gR D.K fI).scope.names (uf D.K fI) fI (gR D.K fI):=bB h λh1 h=>bB h λh2 h=>bB h λh3 h=>bB h λh5 h=>bB h λh6 h7=>
 ⟨e▸DD h1,km h2 h3 h4 (we h5) rfl,su h6,Wy h7⟩
theorem I2:HW (DW w mg mb):=by
 refine ⟨λc hc=> ?_,λc it hm=> ?_,λc f hi=>DD (D:=DW w mg mb) (Wu (N1 w.params) _ (aZ hi))⟩
 ·have:=Wu (N5 w.params) _ (aZ hc);exact bB (show (makesIn (KN w.params) (cA c)&&uE (findIn (KN w.params) (.ref (cA c)) "__init__") "object.__init__")=true from this) λh1 h2=>⟨h1,nj h2⟩
 ·have hm:=aZ hm;rcases Wv hm with e|hm
  ·cases e;exact ⟨_,_,_,_,qZ (D:=DW w mg mb) (JN w.params) (Ie w.params) rfl⟩
  rcases Wv hm with e|hm
  ·cases e;exact ⟨_,_,_,_,qZ (D:=DW w mg mb) (N6 w.params) (Nb w.params) rfl⟩
  ·cases Wx hm;exact ⟨_,_,_,_,qZ (D:=DW w mg mb) (JM w.params) (Ic w.params) rfl⟩
noncomputable def Qw:Obj:=excClassObj "ParseStop" "ParseStop" 129 128 [.ref 88] [.ref 88,.type "Exception",.type "BaseException",.type "object"] true [] [] false none none (some (.ref 112)) none (some (.str "ParseStop" 405)) (some (.str "ParseStop" 413)) (some (.bool true)) "Exception.__new__"
theorem xn (P:Params):(KN P).lookup 129=some Qw:=by kernel_rfl
theorem RA (P:Params)(S:Setting)(a:Value):peek (KN P) S (bindArgs (gR (KN P) 194) ⟨[a],[]⟩)=some (([SN,VH].map nm).zip [a,.str (nm 0) 513]):=by kernel_rfl
theorem RB (P:Params)(S:Setting)(a b:Value):peek (KN P) S (bindArgs (gR (KN P) 194) ⟨[a,b],[]⟩)=some (([SN,VH].map nm).zip [a,b]):=by kernel_rfl
theorem RC (P:Params)(S:Setting)(a:Value):peek (KN P) S (bindArgs (gR (KN P) 126) ⟨[a],[]⟩)=some (([SN,Tf].map nm).zip [a,.str (nm 0) 417]):=by kernel_rfl
theorem RD (P:Params)(S:Setting)(a b:Value):peek (KN P) S (bindArgs (gR (KN P) 126) ⟨[a,b],[]⟩)=some (([SN,Tf].map nm).zip [a,b]):=by kernel_rfl
theorem oM {fd:FuncData}{p0 p1:N}{tk:Tok}(h1: ∀S a,peek D.K S (bindArgs fd ⟨[a],[]⟩)=some (([p0,p1].map nm).zip [a,.str (nm 0) tk]))(h2: ∀S a b,peek D.K S (bindArgs fd ⟨[a,b],[]⟩)=some (([p0,p1].map nm).zip [a,b])):
  ∀(s:Shared) (us:List Value),D.K.In s.heap→us.length+(([V.str 0]).drop (([V.str 0]).length+us.length - ([p0,p1]).length)).length=([p0,p1]).length→
   ∃ds,(∀(fz:aJ) (αs:List Addr),aH D fz αs (([V.str 0]).drop (([V.str 0]).length+us.length - ([p0,p1]).length)) ds)∧BindsTo s fd ⟨us,[]⟩ (([p0,p1].map nm).zip (us++ds)):=by
 intro s us hin hl;cases us with
 |nil=>exact WK (show (1:Nat)=2 from hl) (by decide)
 |cons a r=>cases r with
  |nil=>exact ⟨[.str (nm 0) tk],λZ Z=> .cons (.str 0 tk) .nil,iY hin λS=>h1 S a⟩
  |cons b r=>cases r with
   |nil=>exact ⟨[],λZ Z=> .nil,iY hin λS=>h2 S a b⟩
   |cons c r=>
    exfalso
    simp only [List.length_cons,List.length_nil] at hl
    lia
theorem Ji {P:Params}(h1:uE (findIn (KN P) (.ref 129) "__setattr__") "object.__setattr__" =true) (h2:rk (takerIn (KN P) 129 (nm n))=true):mO (KN P) 129 (nm n):=by
 refine ⟨nj h1,?_,nk h2⟩;unfold clsIn;rw [xn];unfold Qw;exact ⟨_,rfl,rfl,by kernel_rfl,λself=>by kernel_rfl,rfl⟩
theorem KJ:vU (DW w mg mb) 126 (gR (KN w.params) 126) (gR (KN w.params) 126).scope.names (uf (KN w.params) 126):=
 bB (Rz w.params) λc1 h=>bB h λc2 h=>bB h λc3 h=>bB h λc4 h=>bB h λc5 h=>bB h λc6 h=>bB h λc7 h=>bB h λc8 h=>bB h λc9 h=>bB h λc10 c11=>
  ⟨ia c1,⟨_,_,_,_,_,_,_,_,_,_,_,_,_,_,_,_,xn w.params,by kernel_rfl,by kernel_rfl,by kernel_rfl,by kernel_rfl⟩,c2,ia c3,qo c4,m9 (D:=DW w mg mb) c5 c6 (we c7) rfl (oM (D:=DW w mg mb) (RC w.params) (RD w.params)),su c8,Ji c9 c10,Ji c9 c11⟩
theorem Dj (hf:f∈lG):lu (DW w mg mb) (fA f) (jz f) (iG f) (pG f) (dQ f) (gR (KN w.params) (fA f)):=
 bB (Wu (Rv w.params) f hf) λh1 h=>bB h λh2 h3=>by
  have hb:=List.map_inj_left.mp (NZ w.params) f hf;have hn:=List.map_inj_left.mp (N4 w.params) f hf;by_cases e:f=SV
  ·subst e;have e1:jz SV=[SN,VH]:=by kernel_rfl
   have e2:iG SV=[.str 0]:=by kernel_rfl
   have e3:fA SV=194:=by kernel_rfl
   rw [e3] at h1 h2 hb hn⊢;rw [e1] at h2⊢;rw [e2];exact m9 (D:=DW w mg mb) h1 h2 hb hn (oM (D:=DW w mg mb) (RA w.params) (RB w.params))
  ·rw [Wz e] at h3;rw [Ww (show (iG f).isEmpty=true from h3)];exact km (D:=DW w mg mb) h1 h2 (λS v=>List.map_inj_left.mp (NY w.params S v) f hf) hb hn
theorem Rq:HY (DW w mg mb):=⟨Jn,λZ Z h=>JV h,J7,Jx,I2,⟨_,_,_,_,KJ⟩,λZ hf=>⟨_,Dj hf⟩⟩
end
end Mine
end
noncomputable section
set_option maxRecDepth 100000
namespace Mine
open PySem PySem.W PySem.Calls PyProof.Rows PySem.SeqAt
noncomputable def Gf (o:Obj):Bool:=match o.cls with
 | .type t=>decide (t≠ "list")
 |_=>true
theorem Fs (P:Params):(KN P).lookup 1=some (Fm P 1):=by kernel_rfl
theorem AH (P:Params):(Md.all λa=>Gf (Fm P a))=true:=by kernel_rfl
theorem E5:fA Sz=1386:=by kernel_rfl
theorem Fq (P:Params):Az (nsIn (KN P) mainGlobals MHead.pz.name) 1386=true:=by kernel_rfl
theorem Fx:(Sz:N)∈lG:=List.contains_iff_mem.mp (by decide+kernel)
section
variable {w:World}{mg mb:Str→Option Value}{s₁:Shared}{b:Addr}{vs:List Value}{l:List Int}{E:Value→Shared→Prop}
set_option backward.match.sparseCases true in
theorem xq (hK:(KN w.params).In s₁.heap)(T:TopRead MHead.qv (looseW MHead.qv MHead.ja) mg mb s₁.heap)(hge:s₁.gens= #[])(hb:s₁.heap.get? b=some (PySem.W.listOf vs.toArray 0))(hv: ∀fz αs,aH (DW w mg mb) fz αs (l.map V.int) vs)(hl:l.length≤63):
  wpAny (model pw w) callerA (PySem.call (.ref 1386) [.ref b]) (λv s'=>v= .bool true∧s'.os=s₁.os∧s'.gens= #[]∧ ∀a o,s₁.heap.get? a=some o→s'.heap.get? a=some o) E s₁:=by
 have FN:=Dj (w:=w) (mg:=mg) (mb:=mb) Fx;rw [show jz Sz=[Vb] by kernel_rfl,show iG Sz=[] by kernel_rfl,E5] at FN;revert FN;generalize gR (KN w.params) 1386=fd;intro FN;obtain ⟨fo,hfo,hfd⟩:=FN.obj;obtain ⟨ds,hds,hbi⟩:=FN.bind s₁ [.ref b] hK rfl;have hds:=hds [] [];cases hds;have hkinds:=kindsX (scope:=fd.scope) (binds:=([Vb].map nm).zip [.ref b]) FN.sH;have qA:=FN.nd;have hKb: ∀a o,(KN w.params).lookup a=some o→a≠b:=λa o e q=>by
  subst q;obtain ⟨h1,h2⟩:=AG e;have h3:=Wu (AH w.params) a h1;have h4:=cH ((hK a o e).symm.trans hb);have h3:Gf (Fm w.params a)=true:=h3;rw [←h2,h4] at h3;exact nomatch (show Gf (PySem.W.listOf vs.toArray 0)=false from rfl).symm.trans h3
 generalize hgd:hideAll s₁.heap [b]=g;have gk: ∀a o,a≠b→s₁.heap.get? a=some o→g.get? a=some o:=λa o q e=>hgd▸hideAll_get _ e λz=>q (Wx z);have gs: ∀a o,g.get? a=some o→s₁.heap.get? a=some o:=λa o e=>of_hideAll [b] (hgd▸e);have gb:g.get? b=none:=hgd▸hideAll_none _ (.head _);have gsz:g.objs.size=s₁.heap.objs.size:=hgd▸hideAll_size _ _;have gns: ∀{a:Addr} {m:Str→Option Value},s₁.heap.Ns a m→g.Ns a m:=λ{a m} h=>by
  obtain ⟨o,ho,hn⟩:=dz h;refine hn.ns (gk a o (λq=> ?_) ho);subst q;obtain ⟨es,ep,hd,_⟩:=hn;rw [hb] at ho;cases ho;exact nomatch hd
 have fh:(DW w mg mb).K.In g:=λa o e=>gk a o (hKb a o e) (hK a o e);have AN:g.NoLimit:=let ⟨mc,h1,h2⟩:=T.nolimit;⟨mc,gns h1,h2⟩;have qj:TopRead (DW w mg mb).q (DW w mg mb).loose mg mb g:=⟨gns T.g,gns T.b,AN,T.builtins,T.free⟩;refine wpAny_call (codeAny_call_function (by decide+kernel) (hK _ _ hfo) (hfd.trans (WJ Data.func FN.fe)) FN.co FN.aB rfl (codeRec_of hK FN.code) (cast (WJ (λz=>BindsTo s₁ z ⟨[.ref b],[]⟩ (([Vb].map nm).zip [.ref b])) FN.fe) hbi _ _ _ _ ?_));refine wpAny_newFunctionEnv_cells FN.kind (hkinds _) λenv' he s' x=> ?_;subst he;refine ⟨T.nolimit.keeps x.toInCall.keep,codeAny_func ?_⟩;obtain ⟨h₁,tk,e,_⟩:=x.done;subst e;have hk₁:=x.toInCall.keep;obtain ⟨cells,NC,Y⟩:=Cl.news (h₀:=s₁.heap) (Nat.le_refl _) λn c hm=>⟨x.cell n c (lookup_of_mem_nodup (cellsFrom_names fd.scope.names 0 (s₁.heap.objs.size+1) [] [] rfl▸FN.L5) hm),x.above n c hm⟩;have hbL:b≠s₁.heap.objs.size:=Nat.ne_of_lt (Heap.lt_size hb);have hcb: ∀p∈cells,p.1≠b:=λp hp q=>by have:=(NC p hp).2.2;rw [q,hb] at this;exact nomatch this
 have hcd:aN cells:=by
  unfold aN;rw [iD Y];exact List.pairwise_map.mpr x.apart
 have hcok:eE (envOfC fd.qualname fd.scope s₁.heap.objs.size 1386 fd.code) cells:=⟨λp hp=>let ⟨o,h1,h2⟩:=cX Y p hp;⟨o,_,h1,h2⟩,λL hL hne=>WK (cH hL).symm hne⟩
 let C:Cx:={D:=DW w mg mb,A₀:=callerA,A:=callerA.deeper (envOfC fd.qualname fd.scope s₁.heap.objs.size 1386 fd.code),base:=g,outer:=[],g:=g,env:=envOfC fd.qualname fd.scope s₁.heap.objs.size 1386 fd.code,comp:=false,X:=jP,gens:= #[],os:=s₁.os,rest:=[],Dk:=[(b,PySem.W.listOf vs.toArray 0)],Ea:=[]}
 have K:aW C:=⟨below_caller g,λZ=>⟨Around.frames_deeper rfl,rfl⟩,FN.kind,rfl,rfl,AN,fh,qj,by show callerA.units+3+64<cLine;decide+kernel,Option.isSome_iff_exists.mpr ⟨Fm w.params 1,fh 1 _ (Fs _)⟩,λZ h=>h⟩;have wn: ∀ρ,HT Sz ρ= .none:=λρ=>by kernel_rfl
 have nn:(bj Sz (sP l) []).n=651:=by show nB Sz (wF []) (HT Sz (sP l))=_;rw [wn,uO (by rw [nT]),nT]
 have ST:az C (bj Sz (sP l) []):=⟨K,⟨_,Around.frames_deeper rfl,rfl,rfl,FN.kind,Nat.le_of_eq gsz,λZ=>rfl⟩,Rq,by rw [nn];show callerA.depth+1+651≤960;decide+kernel,by rw [nn];show callerA.units+3+3*651+100<cLine;decide+kernel,⟨λh=>WK h (by decide:(Sz:Nat)≠Sr),(λh=>WK (show eG Sz=true from h) (by decide+kernel)),λh=>WK h (by decide:(Sz:Nat)≠SA)⟩,
  λn=>WJ (λz:List (Str×NameKind)=>z.lookup n) FN.ks,λy=>(Bool.and_true (jP y)).symm,λZ=>rfl,.no rfl,rfl,λZ=>⟨rfl,_,WJ (λz=>cellsFrom _ z []) FN.ks⟩,λZ=>rfl⟩
 have F:FS C (sP l) [] {m:=bindL (envOfC fd.qualname fd.scope s₁.heap.objs.size 1386 fd.code).kindOf (([Vb].map nm).zip [.ref b]) λZ=>none,aG:=cells,αs:=[],fz:=[(b,PySem.W.listOf vs.toArray 0)],own:=[],mu:=[]} {s₁ with heap:=h₁,toks:=tk}:=by
  refine ⟨⟨x.toInCall.ns,λa o e=>hk₁ a o (gs _ _ e),Nat.le_of_eq gsz⟩,λp hp=> ?_,aN.dA (List.perm_append_comm (l₁:=[(b,PySem.W.listOf vs.toArray 0)])) (aN.cons hcd hcb),?_,.nil,hge,rfl,.refl⟩
  ·rcases List.mem_append.mp hp with hp|hp
   ·refine ⟨(NC p hp).1,(NC p hp).2.1,?_⟩;refine ax (x:=g.get? p.1) id λo q=> ?_;have:=gs _ _ q;rw [(NC p hp).2.2] at this;exact nomatch this
   ·cases Wx hp;exact ⟨hk₁ _ _ hb,hbL,gb⟩
  ·refine ik (ps:=[Vb]) (l:=[.list (l.map .int)]) (us:=[.ref b]) hcok rfl (List.nodup_cons.mpr ⟨nofun,List.nodup_nil⟩) (.cons (.eP (.head _) (hv _ _)) .nil) λy u hm=> ?_;cases Wx hm;exact fB Y hcd qA (.head _) (hkinds (s₁.heap.objs.size+1) _ (.head _))
 obtain ⟨σ,hex⟩:=xr hl;refine wpAny_mono (hex C _ _ ST F) (λf s' q=> ?_) λe s' q=>nomatch q;cases q with
 |ret x' F' r=>
  cases r;refine ⟨rfl,F'.os,F'.ge,λa o e=> ?_⟩;by_cases q:a=b
  ·subst q;rw [hb] at e;cases e;exact (F'.nw _ (WB _ (WB _ (WB _ (WB _ (x'.fz _ (.head _))))))).1
  ·exact F'.fr.keep _ _ (gk a o q e)
set_option backward.match.sparseCases true in
noncomputable def OI (b:Bool):Bool:=match (match (some (WData.bool (!b))) with
 |some (.bool false)=>some (WData.bool false)
 |some (.bool true)=>(match (some (WData.bool true)) with
  |some (.bool x)=>some (.bool x)
  |_=>none)
 |_=>none) with
 |some (.bool true)=>true
 |_=>false
theorem Gz (xs:List WData):MHead.iq.toRowW.pre.holds [] {args:=[.list xs]}=OI (decide ((63:Int)<(xs.length:Int))):=by kernel_rfl
theorem Bi (args:List WData):MHead.iq.toRowW.claim.post args (.bool true) args=true:=by kernel_rfl
theorem vA {P:Params}{h:Heap}{D:Wd}{fz:aJ}{αs:List Addr}{ns:List Int}: ∀{vs:List Value},WellAll P h vs (ns.map .int)→aH D fz αs (ns.map V.int) vs:=by
 induction ns with
 |nil=>intro vs h;cases h;exact .nil
 |cons n ns ih=>intro vs h;cases h with
  |cons h r=>cases h with
   |int _ t=>exact .cons (.int n t) (ih r)
end
theorem Nm:MHead.CC:=by
 intro w s₀ s₁ mg mb G y a o pm cd doc dV kV ho hod hcd hdf hmg hge args vals as hpre hlay hrd hwell hsys;have hK:(KN w.params).In s₁.heap:=JU y;have T:=topRead_of G.T;have ha:a=1386:=by
  have h1:=cH ((mg_of hK T.g (ia (Fq w.params))).symm.trans hmg);injection h1 with h1
  exact h1.symm
 subst ha;obtain ⟨h1,h2⟩:=pre_splitW hpre;obtain ⟨d,r,e,h3,h4⟩:=hasAllW_cons (e:= .list .int) (es:=[]) h1;subst e;cases hasAllW_nil h4;obtain ⟨xs,e,h5⟩:=hasW_list h3;subst e;obtain ⟨ns,e⟩:=items_int h5;subst e;have hl:ns.length≤63:=by
  refine Nat.not_lt.mp λq=> ?_;have h2:MHead.iq.toRowW.pre.holds [] {args:=[.list (ns.map .int)]}=true:=h2;rw [Gz,Wq,WA (by exact_mod_cast q:(63:Int)<(ns.length:Int))] at h2;exact WK h2 (by decide+kernel)
 cases hwell with
 |cons hw hr=>
  cases hr;cases hw with
  |list hb hv=>
   refine wpAny_mono (xq (E:=λe s'=>GoodWG MHead.iq.toRowW.claim (classAt s₀.heap) (ExcName.means s₀.heap) [.list (ns.map .int)] s₁ (.error e) s') hK T hge hb (λfz αs=>vA (D:=DW w mg mb) hv) hl) (λv s' q=> ?_) λZ Z q=>q;obtain ⟨e,q1,q2,q3⟩:=q;subst e;exact ⟨.inl ⟨_,.bool true,[],rfl,λZ=>rfl,ReadsW.bool true,Bi _,λZ=>⟨List.nodup_nil,λZ hm=>nomatch hm⟩⟩,OldK.of_keep q3,q1,AllBare.of_eq q2⟩
end Mine
end
theorem PySem.Challenge.cw_sa0398_01_holds : PySem.Challenge.rw_sa0398_01.Holds :=
 MHead.zq Mine.Nm
